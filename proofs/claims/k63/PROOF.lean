import PyProof.Rows.All
import Wide.All
import OpenK.AllK
import Wide.FinOn
import KE.KStateDown
import HandS.ForExc
import HandS.Dict
import HandS.WordsDict
import HandS.Defaults
import HandS.IsInst
import HandS.Style
import HandS.Wide
import HandS.WideBits
import HandS.EndBits
import HandS.Head0
import HandS.Head1
import HandS.Head2
import HandS.HeadEnd
import HandS.HeadHook1
import HandS.HeadHook2
import HandS.Steps
import HandS.Evl
import HandS.Iter
import HandS.SortKw
import KE.GoesEnum
import KE.DataMinMax
import HandS.NoneIn
import HandS.TupAny
import HandS.TryMany
import HandS.RevRange
import HandS.Zip
import HandS.Conv
import HandS.HeadHook4
import PySem.Challenge.RW_lawfulpages_k63_cut_shapes_and_reach_by
set_option Elab.async false
set_option linter.all false
set_option maxRecDepth 100000
set_option maxHeartbeats 4000000
namespace KB
open PySem PySem.Spec PyProof.Rows L2

/-! calls of the text's own defs, told by their names -/
structure Cal (P : Program) (w : World) (K : PySem.W.Frag) (mg : Str → Option Value) (base : Heap) (k : Nat) (x : Str) (sp : Sp) : Prop where
  ex : ∃ (f : Addr) (fd : FuncData) (ps : List Str), mg x = some (.ref f) ∧ PySem.W.keepIn K (.ref f) = true ∧ Binds K fd ps [] ∧
    FnOk P w K mg base (L2.CX P w) k f fd ps sp
structure Met (P : Program) (w : World) (K : PySem.W.Frag) (mg : Str → Option Value) (base : Heap) (k : Nat) (C : Addr) (m : Str) (sp : Sp) : Prop where
  cl : Cls K C
  ex : ∃ (f : Addr) (fd : FuncData) (ps : List Str), Meth K C m f ∧ Binds K fd ps [] ∧ FnOk P w K mg base (L2.CX P w) k f fd ps sp
structure Mak (P : Program) (w : World) (K : PySem.W.Frag) (mg : Str → Option Value) (base : Heap) (k : Nat) (x : Str) (C : Addr) (sp : Sp) : Prop where
  at_ : mg x = some (.ref C)
  ex : ∃ (f : Addr) (fd : FuncData) (ps : List Str), Mk K C f ∧ Binds K fd ps [] ∧ FnOk P w K mg base (L2.CX P w) k f fd ps sp

section
variable {X : Cx} {k j : Nat} {x m : Str} {sp : Sp} {W : WX} {p pos apos : Pos} {e o : Expr} {es : List Expr} {t : TA} {ta : TE} {C : Addr}
theorem pe_cal (c : Cal X.prog X.w X.K X.mg X.base k x sp) (hr : Room j X.A) (hk : k ≤ j) (tk : Takes X W) (ha : PA X (e :: es) t) (hg : Gl X x := by rfl)
    (hdb : (x == ("__debug__" : Str)) = false := by decide) (he : starEach (e :: es) X.env = (false, eval e X.env) :: starEach es X.env := by rfl)
    (hpl : (backTo pos (starEach es X.env)).any (·.1) = false := by rfl) :
    PE X (.Call (.Name x p) (e :: es) [] pos) (tCallS sp (WE W) t) := by
  obtain ⟨f, fd, ps, hm, hkp, hb, F⟩ := c.ex
  exact pe_callS F (hr.mono hk) hg hm hkp hb (fun σ => passAt tk σ) ha hdb he hpl
/-- how a method's call is read: the parts by computation -/
structure MF (X : Cx) (o : Expr) (m : Str) (apos : Pos) (e : Expr) (es : List Expr) (pos : Pos) (pl : Sem Bool) : Prop where
  h1 : starEach (e :: es) X.env =
    (false, eval e X.env) :: starEach es X.env
  h2 : (backTo pos (starEach es X.env)).any
    (·.1) = false
  h3 : eval (.Call (.Attribute o m apos) (e :: es) [] pos) X.env =
    eval o X.env >>= fun ov => standAt apos.atName >>= fun _ => holding [ov] (getMethod ov m pl) >>= fun r =>
      callWith pos r.1 r.2 (backTo pos (starEach (e :: es) X.env))
        (backToKw pos (keywordEach [] X.env))
theorem pe_met {pl : Sem Bool} (c : Met X.prog X.w X.K X.mg X.base k C m sp) (hr : Room j X.A) (hk : k ≤ j) (ho : PE X o ta) (ha : PA X (e :: es) t)
    (M : MF X o m apos e es pos pl := by exact ⟨by rfl, by rfl, by rfl⟩) : PE X (.Call (.Attribute o m apos) (e :: es) [] pos) (tMeth C m sp [] E0 ta t) := by
  obtain ⟨f, fd, ps, hm, hb, F⟩ := c.ex
  exact pe_meth ho c.cl hm F (hr.mono hk) hb .nil passL ha M.h1 M.h2 M.h3
theorem pe_mak (c : Mak X.prog X.w X.K X.mg X.base k x C sp) (hr : Room j X.A) (hk : k + 1 ≤ j) (ha : PA X (e :: es) t) (hg : Gl X x := by rfl)
    (hdb : (x == ("__debug__" : Str)) = false := by decide) (he : starEach (e :: es) X.env = (false, eval e X.env) :: starEach es X.env := by rfl)
    (hpl : (backTo pos (starEach es X.env)).any (·.1) = false := by rfl) :
    PE X (.Call (.Name x p) (e :: es) [] pos) (tMake C sp [] E0 t) := by
  obtain ⟨f, fd, ps, hm, hb, F⟩ := c.ex
  exact pe_make hm F (hr.mono hk) hg c.at_ hb .nil passL ha hdb he hpl
end

/-! a class of the text without an __init__ -/
structure Bare (K : PySem.W.Frag) (mg : Str → Option Value) (x : Str) (C : Addr) : Prop where
  at_ : mg x = some (.ref C)
  makes : PySem.W.makesIn K C = true
  ini : PySem.W.findIn K (.ref C) "__init__" = some (some (.builtin "object.__init__"))
  kp : PySem.W.keepIn K (.ref C) = true
def tBare (C : Addr) : TE := fun _ H Q => ∀ x dx, H x = none → H dx = none → dx ≠ x → Q (.ref x) (upd (upd H dx (.own x)) x (.ins C dx []))
theorem pe_bare {X : Cx} {x : Str} {C : Addr} {p pos : Pos} (b : Bare X.K X.mg x C) (hg : Gl X x := by rfl) (hdb : (x == ("__debug__" : Str)) = false := by decide) : PE X (.Call (.Name x p) [] [] pos) (tBare C) := by
  refine ⟨fun pins s σ H Q I h => ?_⟩
  refine wpAny_Call_Name_kw (ld_glob I hg b.at_ ?_ hdb)
  refine PySem.W.callWith_K0 I.kIn b.kp ?_
  have I2 := Inv.made (C := C) I
  have hq := h (s.heap.objs.size + 1) s.heap.objs.size (I.hok.fresh (Nat.le_succ _)) (I.hok.fresh (Nat.le_refl _)) (Nat.ne_of_lt (Nat.lt_succ_self _))
  have kin := I.kIn
  have Y := PySem.W.makes_of (M := model X.prog X.w) I2.kIn b.makes
  refine wpAny_call ?_
  obtain ⟨hh, g, d, t, os⟩ := s
  refine PySem.W.make_core (PySem.W.makes_of kin b.makes) (PySem.W.looks_findIn kin b.ini) (fun self => PySem.W.Looks.of_pure (PySem.W.oi_bind self)) (.inr ⟨rfl, rfl⟩) ?_
  have e2 : ((hh.push PySem.W.emptyDict).push (PySem.W.instObj C hh.objs.size)).get? (hh.objs.size + 1) = some (PySem.W.instObj C hh.objs.size) := by
    have z := Heap.get?_push_size (hh.push PySem.W.emptyDict) (o := PySem.W.instObj C hh.objs.size) rfl
    rwa [Heap.size_push] at z
  have l1 : PySem.W.Looks (model X.prog X.w) ((hh.push PySem.W.emptyDict).push (PySem.W.instObj C hh.objs.size)) (typeOf (.ref (hh.objs.size + 1))) (.ref C) :=
    (PySem.W.Looks.ld e2).andThen .now
  refine codeAny_call_builtin PySem.W.oi_plain PySem.W.entry_oi ?_
  show wpAny _ _ (checkBuiltinCall "object.__init__" ⟨[.ref (hh.objs.size + 1)], []⟩) _ _ _
  refine PySem.W.check_slot (i := "object.__init__") (owner := "object") (n := "__init__") (self := .ref (hh.objs.size + 1)) (rest := []) (kw := []) PySem.W.oi_kind PySem.W.oi_split (l1.andThen Y.top) (PySem.W.oi_args _) ?_
  show wpAny _ _ (Builtin.«object.__init__» ⟨[.ref (hh.objs.size + 1)], []⟩) _ _ _
  rw [PySem.W.oi_run]
  refine wpAny_pure ⟨rfl, ?_⟩
  exact ⟨.ref (hh.objs.size + 1), _, I2, rfl, hq⟩

/-! a def of the text by the head's facts -/
section
variable {P : Program} {w : World} {K : PySem.W.Frag} {mg : Str → Option Value} {base : Heap}
/-- its body keeps the promise: what is to be shown of it -/
def Body (P : Program) (w : World) (K : PySem.W.Frag) (mg : Str → Option Value) (base : Heap) (k : Nat) (N : List Str) (qual : Str) (sc : Scope) (body : List Stmt) (sp : Sp) : Prop :=
  ∀ (f : Addr) (cdv : Value) (A : Around) (outer : List Env) (s : Shared) (H : Hp) (vs : List V) (Q : VK) (E : XK), Room k (A.deeper (envOfC qual sc s.heap.objs.size f cdv)) → sp vs H Q E →
    ∃ t, PSs (cxOf (L2.CX P w) P w K mg base N qual sc f cdv A outer s H E) body t ∧ t { nx := fun _ H' => Q .non H', rt := Q } (start N vs) H
theorem fn_body {x qual : Str} {params : Arguments} {body : List Stmt} {sc : Scope} {dvs : List V} {kws : List (Str × V)} {f : Addr} {fd : FuncData} {N ps : List Str} {k : Nat} {sp : Sp}
    (F : FunD K x qual params body sc dvs kws f fd) (S : FnScope N ps sc) (len : ∀ vs H Q E, sp vs H Q E → vs.length = ps.length) (B : Body P w K mg base k N qual sc body sp) :
    FnOk P w K mg base (L2.CX P w) (k + 1) f fd ps sp := F.ok S len fun cdv A outer s H vs Q E hr h => B f cdv A outer s H vs Q E hr h
/-- a parameter list without defaults binds -/
def Plain (ps : List Str) (x qual : Str) (params : Arguments) (body : List Stmt) (sc : Scope) : Prop :=
  ∀ (kV doc pm : Value) (an : Option Addr) (cdv ct : Value) (us : List Value), us.length = ps.length → bindArgs (PySem.W.fnOf x qual params body sc .none kV doc pm an cdv ct) ⟨us, []⟩ = pure (ps.zip us)
end

/-! the end -/
theorem walk_ofEB {l : PySem.W.OpenLaw} {n k : Nat} {q : Program} {loose : List Str} {XP : (Str → Option Value) → Heap → Prop} {YP : World → Heap → Prop} {d : DefRec} {x : Str}
    (hn : l.most = some n) (hn2 : n ≤ sizeLine) (hdf : d.params.defaults = []) (hr : Room k callerA)
    (F : ∀ (w : World) (mg : Str → Option Value) (fa : Addr) (h : Heap), YP w h → h.Ns mainGlobals mg → mg d.name = some (.ref fa) →
      ∃ (K : PySem.W.Frag) (fd : FuncData) (sp : Sp), K.In h ∧ (∀ (s : Shared) (u : Value), BindsTo s fd ⟨[u], []⟩ [(x, u)]) ∧
        (∀ (H : Hp) (a : Addr) (ns : List Int), ns.length ≤ n → (∀ z ∈ ns, Builtin.Int.intBits z ≤ 1048576) → Only H → SqL K H a (ns.map V.int) → sp [.ref a] H (fun v _ => v = .bl true) fun _ _ _ => False) ∧
        ∀ base : Heap, K.In base → base.Ns mainGlobals mg → FnOk l.prog w K mg base (L2.CX l.prog w) k fa fd [x] sp) :
    PySem.W.WalkO q loose XP YP l.row.toRowW d [] (fun f vs => PySem.call f vs) := by
  refine Att.attach_callB hn hdf ?_
  intro w s₀ s₁ mg mb fa o pm cd doc a vs ns G Y ho hd hcd hmg hobj hints hlen hbits hg
  obtain ⟨K, fd, sp, KX, hb, hsp, hF⟩ := F w mg fa _ Y G.T.g hmg
  refine law_call KX G.T.g G.T.b G.T.builtins G.T.nolimit hg hobj hints (Nat.le_trans hlen hn2) hr hF hb (fun H hO hS => hsp H a ns hlen hbits hO hS) ?_
  intro H e s' z
  obtain ⟨_, _, _, _, _, _, _, _, _, _, _, _, y⟩ := z
  exact y

/-! values' types, for isinstance with a built-in class -/
def tyN (H : Hp) : V → Option String
  | .non => some "NoneType"
  | .bl _ => some "bool"
  | .int _ => some "int"
  | .str _ => some "str"
  | .ref a => match H a with
    | some (.lst _) => some "list"
    | some (.tup _) => some "tuple"
    | some (.dK _) => some "dict"
    | some (.dT _) => some "dict"
    | some (.frz _ (.lst _)) => some "list"
    | _ => none
  | _ => none
theorem tyN_ok {K : PySem.W.Frag} {H : Hp} {x : V} {n : String} (h : tyN H x = some n) : TyX K H x (.type n) := by
  cases x with
  | non => cases h; exact .base .non
  | bl b => cases h; exact .base (.bl b)
  | int i => cases h; exact .base (.int i)
  | str x => cases h; exact .base (.str x)
  | ref a =>
    have h1 : (match H a with
      | some (.lst _) => some "list"
      | some (.tup _) => some "tuple"
      | some (.dK _) => some "dict"
      | some (.dT _) => some "dict"
      | some (.frz _ (.lst _)) => some "list"
      | _ => none) = some n := h
    split at h1
    · rename_i e; cases h1; exact .base (.lst e)
    · rename_i e; cases h1; exact .base (.tup e)
    · rename_i e; cases h1; exact .base (.dK e)
    · rename_i e; cases h1; exact .base (.dT e)
    · rename_i e; cases h1; exact .base (.frz e)
    · cases h1
  | _ => cases h
def rIsN1 : List V → Hp → VK → Prop := fun xs H Q => ∃ (x : V) (T n : String) (b : Bool), xs = [x, .ty T] ∧ tyN H x = some n ∧ kitB n T = some b ∧ Q (.bl b) H
theorem call_isN1 {X : Cx} : CallR X (.builtin "isinstance") rIsN1 := by
  intro pins s σ H xs us Q I r h
  obtain ⟨x, T, n, b, e, h1, h2, q⟩ := h
  exact call_isi pins s σ H xs us Q I r ⟨x, .ty T, .type n, .type T, b, e, .ty T, tyN_ok h1, kit_ty h2, q⟩
/-- a constant of the module that is an int -/
theorem pe_gint {X : Cx} {x : Str} {i : Int} {pos : Pos} (hm : ∃ t, X.mg x = some (.int i t)) (hg : Gl X x := by rfl) (hd : (x == ("__debug__" : Str)) = false := by decide) : PE X (.Name x pos) (tC (.int i)) := by
  obtain ⟨t, hm⟩ := hm
  exact pe_glob hg hm ⟨t, rfl⟩ hd
/-- an own exception class over ValueError -/
structure ExcC (K : PySem.W.Frag) (mg : Str → Option Value) (x : Str) (C : Addr) : Prop where
  at_ : mg x = some (.ref C)
  ex : PySem.W.excIn K C He.veBase "ValueError.__new__" = true
  kp : PySem.W.keepIn K (.ref C) = true
  sub : PySem.W.subIn K (.ref C) (.type "BaseException") = some true
  ty : PySem.W.typeIn K (.ref C) = some (.type "type")
theorem ps_raiseX {X : Cx} {W : WX} {x m : Str} {C : Addr} {j : Nat} {p p2 pos pos' : Pos} (c : ExcC X.K X.mg x C) (tk : Takes X W) (hc : X.calm = true := by rfl) (hg : Gl X x := by rfl) (hdb : (x == ("__debug__" : Str)) = false := by decide) :
    PS X (.Raise (some (.Call (.Name x p) [.Constant (.str m) j p2] [] pos)) none pos') (fun _ σ H => W (.ref C) none σ H) :=
  ps_raise hc tk (pmk_own PySem.F.excBase_ValueError c.ex c.at_ c.kp (raises_own c.sub c.ty) hg hdb)
theorem pe_ty {X : Cx} {x : Str} {pos : Pos} (n : String) (hm : X.mg x = none) (hv : bootBuiltins x = some (.type n) := by decide +kernel) (hg : Gl X x := by rfl) (hn : x ≠ "__name__" := by decide) (hd : (x == ("__debug__" : Str)) = false := by decide) :
    PE X (.Name x pos) (tC (.ty n)) := pe_bltn hg hm hv rfl hn hd

/-! defs as they stand behind the top; a call's promise by the body's -/
structure DefT (K : PySem.W.Frag) (mg : Str → Option Value) (x : Str) (st : Stmt) (ps : List Str) : Prop where
  ex : ∃ (f : Addr) (fd : FuncData) (dvs : List V) (kws : List (Str × V)), FunD K x x (defArgs st) (defBody st) (defScope st) dvs kws f fd ∧ mg x = some (.ref f) ∧ Binds K fd ps []
structure MetT (K : PySem.W.Frag) (C : Addr) (m qual : Str) (st : Stmt) (ps : List Str) : Prop where
  ex : ∃ (f : Addr) (fd : FuncData) (dvs : List V) (kws : List (Str × V)), FunD K m qual (defArgs st) (defBody st) (defScope st) dvs kws f fd ∧ Meth K C m f ∧ Binds K fd ps []
structure MakT (K : PySem.W.Frag) (mg : Str → Option Value) (x : Str) (C : Addr) (qual : Str) (st : Stmt) (ps : List Str) : Prop where
  at_ : mg x = some (.ref C)
  ex : ∃ (f : Addr) (fd : FuncData) (dvs : List V) (kws : List (Str × V)), FunD K "__init__" qual (defArgs st) (defBody st) (defScope st) dvs kws f fd ∧ Mk K C f ∧ Binds K fd ps []
def spNo : Sp := fun _ _ _ _ => False
def spPre (sp : Nat → Sp) : Nat → Sp
  | 0 => spNo
  | n + 1 => sp n
section
variable {P : Program} {w : World} {K : PySem.W.Frag} {mg : Str → Option Value} {base : Heap} {x m qual : Str} {C : Addr} {st : Stmt} {ps N : List Str} {k : Nat}
theorem DefT.cal {sp : Sp} (d : DefT K mg x st ps) (S : FnScope N ps (defScope st)) (len : ∀ vs H Q E, sp vs H Q E → vs.length = ps.length)
    (B : Body P w K mg base k N x (defScope st) (defBody st) sp) : Cal P w K mg base (k + 1) x sp := by
  obtain ⟨f, fd, dvs, kws, F, h1, h2⟩ := d.ex
  exact ⟨f, fd, ps, h1, F.kp, h2, fn_body F S len B⟩
theorem DefT.no (d : DefT K mg x st ps) : Cal P w K mg base k x spNo := by
  obtain ⟨f, fd, dvs, kws, F, h1, h2⟩ := d.ex
  exact ⟨f, fd, ps, h1, F.kp, h2, ⟨fun _ _ _ _ z => z.elim, fun _ _ _ _ _ _ _ _ _ _ _ _ _ z => z.elim⟩⟩
theorem MetT.met {sp : Sp} (d : MetT K C m qual st ps) (c : Cls K C) (S : FnScope N ps (defScope st)) (len : ∀ vs H Q E, sp vs H Q E → vs.length = ps.length)
    (B : Body P w K mg base k N qual (defScope st) (defBody st) sp) : Met P w K mg base (k + 1) C m sp := by
  obtain ⟨f, fd, dvs, kws, F, h1, h2⟩ := d.ex
  exact ⟨c, f, fd, ps, h1, h2, fn_body F S len B⟩
theorem MakT.mak {sp : Sp} (d : MakT K mg x C qual st ps) (S : FnScope N ps (defScope st)) (len : ∀ vs H Q E, sp vs H Q E → vs.length = ps.length)
    (B : Body P w K mg base k N qual (defScope st) (defBody st) sp) : Mak P w K mg base (k + 1) x C sp := by
  obtain ⟨f, fd, dvs, kws, F, h1, h2⟩ := d.ex
  exact ⟨d.at_, f, fd, ps, h1, h2, fn_body F S len B⟩
theorem Cal.mono {sp : Sp} {j : Nat} (c : Cal P w K mg base j x sp) (h : j ≤ k) : Cal P w K mg base k x sp := by
  obtain ⟨f, fd, ps, h1, h2, h3, F⟩ := c.ex
  exact ⟨f, fd, ps, h1, h2, h3, F.mono h⟩
theorem Cal.imp {sp sp' : Sp} (c : Cal P w K mg base k x sp) (h : ∀ vs H Q E, sp' vs H Q E → sp vs H Q E) : Cal P w K mg base k x sp' := by
  obtain ⟨f, fd, ps, h1, h2, h3, F⟩ := c.ex
  exact ⟨f, fd, ps, h1, h2, h3, F.imp h⟩
/-- a def that calls itself: by the promise of one less deep; c: what else it calls -/
theorem DefT.rec_ {sp : Nat → Sp} (d : DefT K mg x st ps) (S : FnScope N ps (defScope st)) (c : Nat) (len : ∀ n vs H Q E, sp n vs H Q E → vs.length = ps.length)
    (B : ∀ n, Cal P w K mg base (n + c) x (spPre sp n) → Body P w K mg base (n + c) N x (defScope st) (defBody st) (sp n)) : ∀ n, Cal P w K mg base (n + c + 1) x (sp n) := by
  intro n
  induction n with
  | zero => exact d.cal S (len 0) (B 0 (d.no (k := 0 + c)))
  | succ n ih => exact d.cal S (len (n + 1)) (B (n + 1) (ih.mono (by omega)))
/-- how a def's parameters are bound, from its row -/
theorem defT_of {d : He.DefD} {fd : FuncData} (hx : d.name = x) (hq : d.qual = x) (ha : d.params = defArgs st) (hb : d.body = defBody st) (hs : d.scope = defScope st) (h0 : d.dfl = []) (h1 : d.kwd = [])
    (F : FunD K d.name d.qual d.params d.body d.scope (d.dvs K) (d.kws K) (He.fAd K d.at_) fd) (hm : mg x = some (.ref (He.fAd K d.at_)))
    (pl : Plain ps x x (defArgs st) (defBody st) (defScope st)) : DefT K mg x st ps := by
  rw [hx, hq, ha, hb, hs] at F
  have e1 : d.dvs K = [] := by unfold He.DefD.dvs; rw [h0]; rfl
  have e2 : d.kws K = [] := by unfold He.DefD.kws; rw [h1]; rfl
  rw [e1, e2] at F
  exact ⟨_, _, [], [], F, hm, F.bindsN pl⟩
end
end KB

set_option maxHeartbeats 4000000
/-! readings, one step at a time -/
namespace KB
open PySem PySem.Spec PyProof.Rows L2

theorem Same.new {H : Hp} {p : Addr} {o : HO} (h : H p = none) : Same H (upd H p o) := fun b u e => by rw [upd_ne (ne_of_none e h)]; exact e
theorem Same.upd {H H' : Hp} {p : Addr} {o : HO} (s : Same H H') (h : H p = none) : Same H (upd H' p o) := fun b u e => by rw [upd_ne (ne_of_none e h)]; exact s b u e

/-! named readings of rules that have none -/
def rLenK (K : PySem.W.Frag) : List V → Hp → VK → Prop := fun xs H Q => ∃ x n, xs = [x] ∧ LenV K x H n ∧ Q (.int n) H
theorem call_lenK {X : Cx} : CallR X (.builtin "len") (rLenK X.K) := call_len
def rMax2 : List V → Hp → VK → Prop := fun xs H Q => ∃ i j, xs = [.int i, .int j] ∧ Q (.int (if j > i then j else i)) H
theorem call_max2K {X : Cx} (hc : X.calm = true) : CallR X (.builtin "max") rMax2 := call_max2 hc
def rMin2 : List V → Hp → VK → Prop := fun xs H Q => ∃ i j, xs = [.int i, .int j] ∧ Q (.int (if j < i then j else i)) H
theorem call_min2K {X : Cx} (hc : X.calm = true) : CallR X (.builtin "min") rMin2 := call_min2 hc
def rAbs : List V → Hp → VK → Prop := fun xs H Q => ∃ i, xs = [.int i] ∧ Q (.int (if i < 0 then -i else i)) H
theorem call_absK {X : Cx} : CallR X (.builtin "abs") rAbs := call_abs
def rInt1 : List V → Hp → VK → Prop := fun xs H Q => (∃ i, xs = [.int i] ∧ Q (.int i) H) ∨ ∃ k, xs = [.bl k] ∧ Q (.int (if k then 1 else 0)) H
theorem call_int1K {X : Cx} : CallR X (.type "int") rInt1 := call_int1

section
variable {σ : L2.St} {H : Hp} {Q : VK} {D : Ends} {v x y : V} {i j : Nat} {te ta tb tc tv : TE} {t u : TS} {tt tu : TT} {tr : TA} {K : PySem.W.Frag} {r r' : R2}
  {QB : Bool → Hp → Prop} {QA : List V → Hp → Prop} {g : TG} {a C dx p : Addr} {fs : List (Str × V)} {f m : Str} {xs vs : List V} {n k : Int} {b c : Bool}
theorem i_var (h : σ[i]? = some (some v)) (q : Q v H) : tVar i σ H Q := ⟨v, h, q⟩
theorem i_c (q : Q v H) : tC v σ H Q := q
theorem i_op (q : ta σ H fun x H1 => tb σ H1 fun y H2 => r x y H2 Q) : tOp r ta tb σ H Q := q
theorem i_un {ru : V → Hp → VK → Prop} (q : ta σ H fun x H1 => ru x H1 Q) : tUn ru ta σ H Q := q
theorem i_rI0 {gg : Int → Int → V} (q : Q (gg n k) H) : rI0 gg (.int n) (.int k) H Q := ⟨n, k, rfl, rfl, q⟩
theorem i_rI {P : Int → Int → Prop} {gg : Int → Int → V} (hc : P n k) (q : Q (gg n k) H) : rI P gg (.int n) (.int k) H Q := ⟨n, k, rfl, rfl, hc, q⟩
theorem i_rU {gg : Int → V} (q : Q (gg n) H) : rU gg (.int n) H Q := ⟨n, rfl, q⟩
theorem i_eqI (q : Q (.bl (decide (n = k))) H) : rEq (.int n) (.int k) H Q := ⟨rfl, by
  have e : decide (V.int n = V.int k) = decide (n = k) := by rw [dec_int, Bool.beq_eq_decide_eq]
  rw [e]; exact q⟩
theorem i_neI (q : Q (.bl (!decide (n = k))) H) : rNe (.int n) (.int k) H Q := ⟨rfl, by
  have e : decide (V.int n = V.int k) = decide (n = k) := by rw [dec_int, Bool.beq_eq_decide_eq]
  rw [e]; exact q⟩
theorem i_isN0 (q : Q (.bl true) H) : rIsN .non .non H Q := ⟨rfl, by simpa using q⟩
theorem i_isNr (q : Q (.bl false) H) : rIsN (.ref a) .non H Q := ⟨rfl, by simpa using q⟩
theorem i_isNi (q : Q (.bl false) H) : rIsN (.int n) .non H Q := ⟨rfl, by simpa using q⟩
theorem i_isNb (q : Q (.bl false) H) : rIsN (.bl b) .non H Q := ⟨rfl, by simpa using q⟩
theorem i_notN0 (q : Q (.bl false) H) : rNotN .non .non H Q := ⟨rfl, by simpa using q⟩
theorem i_notNr (q : Q (.bl true) H) : rNotN (.ref a) .non H Q := ⟨rfl, by simpa using q⟩
theorem i_notNi (q : Q (.bl true) H) : rNotN (.int n) .non H Q := ⟨rfl, by simpa using q⟩
theorem i_isB (q : Q (.bl (decide (b = c))) H) : rIsB (.bl b) (.bl c) H Q := ⟨b, c, rfl, rfl, q⟩
theorem i_notB (q : Q (.bl (!decide (b = c))) H) : rNotB (.bl b) (.bl c) H Q := ⟨b, c, rfl, rfl, q⟩
theorem i_test (q : te σ H fun x H' => ∃ k, x = .bl k ∧ QB k H') : tTest te σ H QB := q
theorem i_B (q : te σ H fun x H' => ∃ k, x = .bl k ∧ QB k H') : tB te σ H QB := q
theorem i_bl {R : Bool → Prop} (h : R b) : ∃ k, V.bl b = V.bl k ∧ R k := ⟨b, rfl, h⟩
theorem i_and (q : tt σ H fun c H1 => if c = true then tu σ H1 QB else QB false H1) : tAnd tt tu σ H QB := q
theorem i_or (q : tt σ H fun c H1 => if c = true then QB true H1 else tu σ H1 QB) : tOr tt tu σ H QB := q
theorem i_not (q : tt σ H fun c H1 => QB (!c) H1) : tNot tt σ H QB := q
theorem i_andV (q : ta σ H fun x H1 => ∃ k, x = .bl k ∧ if k = true then tb σ H1 Q else Q (.bl false) H1) : tAndV ta tb σ H Q := q
theorem i_orV (q : ta σ H fun x H1 => ∃ k, x = .bl k ∧ if k = true then Q (.bl true) H1 else tb σ H1 Q) : tOrV ta tb σ H Q := q
theorem i_notV (q : ta σ H fun x H1 => ∃ k, x = .bl k ∧ Q (.bl (!k)) H1) : tNotV ta σ H Q := q
theorem i_if (q : tt σ H fun c H1 => if c = true then ta σ H1 Q else tb σ H1 Q) : tIf tt ta tb σ H Q := q
theorem i_nil (q : QA [] H) : tNil σ H QA := q
theorem i_cons (q : te σ H fun x H1 => tr σ H1 fun xs H2 => QA (x :: xs) H2) : tCons te tr σ H QA := q
theorem i_tup (q : tr σ H fun xs H1 => xs.length ≤ sizeLine ∧ ∀ p, H1 p = none → Q (.ref p) (upd H1 p (.tup xs))) : tTup tr σ H Q := q
theorem i_lst (q : tr σ H fun xs H1 => xs.length ≤ sizeLine ∧ ∀ p, H1 p = none → Q (.ref p) (upd H1 p (.lst xs))) : tLst tr σ H Q := q
theorem i_call {sp : Sp} {E : L2.St → XK} (q : tr σ H fun vs H1 => sp vs H1 Q (E σ)) : tCallS sp E tr σ H Q := q
theorem i_CB {rr : List V → Hp → VK → Prop} (q : tr σ H fun vs H1 => rr vs H1 Q) : tCB rr tr σ H Q := q
theorem i_lenL (h : SqL K H p xs) (q : Q (.int (xs.length : Nat)) H) : rLenK K [.ref p] H Q := ⟨_, _, rfl, .inl ⟨_, h, rfl⟩, q⟩
theorem i_lenT (h : SqT K H p xs) (q : Q (.int (xs.length : Nat)) H) : rLenK K [.ref p] H Q := ⟨_, _, rfl, .inr ⟨_, h, rfl⟩, q⟩
theorem i_max2 (q : Q (.int (max n k)) H) : rMax2 [.int n, .int k] H Q := ⟨n, k, rfl, by
  have e : (if k > n then k else n) = max n k := by omega
  rw [e]; exact q⟩
theorem i_min2 (q : Q (.int (min n k)) H) : rMin2 [.int n, .int k] H Q := ⟨n, k, rfl, by
  have e : (if k < n then k else n) = min n k := by omega
  rw [e]; exact q⟩
theorem i_abs (q : Q (.int (if n < 0 then -n else n)) H) : rAbs [.int n] H Q := ⟨n, rfl, q⟩
theorem i_int1 (q : Q (.int n) H) : rInt1 [.int n] H Q := .inl ⟨n, rfl, q⟩
theorem i_inst {T nn : String} (h1 : tyN H x = some nn) (h2 : kitB nn T = some b) (q : Q (.bl b) H) : rIsN1 [x, .ty T] H Q := ⟨x, T, nn, b, rfl, h1, h2, q⟩
theorem i_ixL (h : SqL K H p xs) (ha : atI xs n = some v) (q : Q v H) : rIxL K (.ref p) (.int n) H Q := ⟨p, xs, n, v, rfl, rfl, h, ha, q⟩
theorem i_ixT (h : SqT K H p xs) (ha : atI xs n = some v) (q : Q v H) : rIxT K (.ref p) (.int n) H Q := ⟨p, xs, n, v, rfl, rfl, h, ha, q⟩
theorem i_ixSL (h : SqL K H p xs) (ha : atI xs n = some v) (q : Q v H) : rIx K (.ref p) (.int n) H Q := .inl ⟨p, xs, n, v, rfl, rfl, h, ha, q⟩
theorem i_ixST (h : SqT K H p xs) (ha : atI xs n = some v) (q : Q v H) : rIx K (.ref p) (.int n) H Q := .inr (.inl ⟨p, xs, n, v, rfl, rfl, h, ha, q⟩)
theorem i_fld (q : ta σ H fun x H1 => ∃ a C dx fs v, x = .ref a ∧ H1 a = some (.ins C dx fs) ∧ Cls K C ∧ NoAttr K C f ∧ fs.lookup f = some v ∧ Q v H1) : tFld K ta f σ H Q := q
theorem i_fldR {Q : V → Prop} (h : H a = some (.ins C dx fs)) (c : Cls K C) (na : NoAttr K C f) (hl : fs.lookup f = some v) (q : Q v) :
    ∃ (a' : Addr) (C' : Addr) (dx' : Addr) (fs' : List (Str × V)) (v' : V), V.ref a = .ref a' ∧ H a' = some (.ins C' dx' fs') ∧ Cls K C' ∧ NoAttr K C' f ∧ fs'.lookup f = some v' ∧ Q v' := ⟨a, C, dx, fs, v, rfl, h, c, na, hl, q⟩
theorem i_meth {sp : Sp} {dvs : List V} {E : XK} (q : ta σ H fun x H1 => ∃ a dx fs, x = .ref a ∧ H1 a = some (.ins C dx fs) ∧ fs.lookup m = none ∧ tr σ H1 fun vs H2 => sp (x :: (vs ++ dvs)) H2 Q E) : tMeth C m sp dvs E ta tr σ H Q := q
theorem i_make {sp : Sp} {dvs : List V} {E : XK} (q : tr σ H fun vs H1 => ∀ x dx, H1 x = none → H1 dx = none → dx ≠ x → sp (.ref x :: (vs ++ dvs)) (upd (upd H1 dx (.own x)) x (.ins C dx [])) (fun v H2 => v = .non ∧ Q (.ref x) H2) E) : tMake C sp dvs E tr σ H Q := q
theorem i_bits (q : te σ H fun x H1 => ∃ i, x = .int i ∧ Q (.int (Builtin.Int.intBits i : Nat)) H1) : tBits te σ H Q := q
theorem i_int {R : Int → Prop} (h : R n) : ∃ i, V.int n = V.int i ∧ R i := ⟨n, rfl, h⟩
/-! statements -/
theorem i_seq (q : t { D with nx := u D } σ H) : tSeq t u D σ H := q
theorem i_nx {N : L2.St → Hp → Prop} {B C : L2.St → Hp → Prop} {R : VK} (q : N σ H) : Ends.nx (Ends.mk N R B C) σ H := q
theorem i_rt {N : L2.St → Hp → Prop} {B C : L2.St → Hp → Prop} {R : VK} (q : R v H) : Ends.rt (Ends.mk N R B C) v H := q
theorem i_bk {N : L2.St → Hp → Prop} {B C : L2.St → Hp → Prop} {R : VK} (q : B σ H) : Ends.bk (Ends.mk N R B C) σ H := q
theorem i_ct {N : L2.St → Hp → Prop} {B C : L2.St → Hp → Prop} {R : VK} (q : C σ H) : Ends.ct (Ends.mk N R B C) σ H := q
theorem i_next (q : D.nx σ H) : tNext D σ H := q
theorem i_brk (q : D.bk σ H) : tBreak D σ H := q
theorem i_cnt (q : D.ct σ H) : tCont D σ H := q
theorem i_drop (q : te σ H fun _ H1 => D.nx σ H1) : tDrop te D σ H := q
theorem i_ret (q : te σ H fun v H1 => D.rt v H1) : tRet te D σ H := q
theorem i_ifS (q : tt σ H fun b H1 => if b = true then t D σ H1 else u D σ H1) : tIfS tt t u D σ H := q
theorem i_asg (q : te σ H fun x H1 => g x σ H1 fun s h => D.nx s h) : tAsg te g D σ H := q
theorem i_gname {R : L2.St → Hp → Prop} (q : R (σ.set i (some v)) H) : gName i v σ H R := q
theorem i_par (q : tr σ H fun vs H1 => ∃ v w, vs = [v, w] ∧ D.nx ((σ.set i (some v)).set j (some w)) H1) : tPar i j tr D σ H := q
theorem i_two {R : V → V → Prop} (q : R x y) : ∃ v w, [x, y] = [v, w] ∧ R v w := ⟨x, y, rfl, q⟩
theorem i_par3 {l : Nat} (q : tr σ H fun vs H1 => ∃ u v w, vs = [u, v, w] ∧ D.nx (((σ.set i (some u)).set j (some v)).set l (some w)) H1) : tPar3 i j l tr D σ H := q
theorem i_three {z : V} {R : V → V → V → Prop} (q : R x y z) : ∃ u v w, [x, y, z] = [u, v, w] ∧ R u v w := ⟨x, y, z, rfl, q⟩
theorem i_sub {ti : TE} {ts : TSet} {R : L2.St → Hp → Prop} (q : ta σ H fun o H1 => ti σ H1 fun z H2 => ts o z v H2 fun H3 => R σ H3) : gSub ta ti ts v σ H R := q
theorem i_setL {R : Hp → Prop} (h : H p = some (.lst xs)) (hk : ixN xs.length k = some j) (q : R (upd H p (.lst (xs.set j v)))) : rSetL (.ref p) (.int k) v H R := ⟨p, xs, k, j, rfl, rfl, h, hk, q⟩
theorem i_sfld (q : tv σ H fun y H1 => ta σ H1 fun x H2 => ∃ a C dx fs, x = .ref a ∧ H2 a = some (.ins C dx fs) ∧ Cls K C ∧ NoAttr K C f ∧ fs.length < 1000 ∧ D.nx σ (upd H2 a (.ins C dx (putF f y fs)))) : sFld K ta tv f D σ H := q
theorem i_BM {T : String} {rr : V → List V → Hp → VK → Prop} (q : te σ H fun x H1 => tyV K T x H1 ∧ tr σ H1 fun xs H2 => rr x xs H2 Q) : tBM K T rr te tr σ H Q := q
/-! tests that are known, or not -/
theorem i_T {A B : Prop} (q : A) : if true = true then A else B := iteT q
theorem i_F {A B : Prop} (q : B) : if false = true then A else B := iteF q
theorem i_dec {P A B : Prop} [Decidable P] (h1 : P → A) (h2 : ¬P → B) : if decide P = true then A else B := by
  by_cases h : P
  · rw [if_pos (decide_eq_true h)]; exact h1 h
  · rw [if_neg (by rw [decide_eq_false h]; decide)]; exact h2 h
theorem i_ndec {P A B : Prop} [Decidable P] (h1 : ¬P → A) (h2 : P → B) : if (!decide P) = true then A else B := by
  by_cases h : P
  · rw [if_neg (by rw [decide_eq_true h]; decide)]; exact h2 h
  · rw [if_pos (by rw [decide_eq_false h]; decide)]; exact h1 h
theorem i_decT {P A B : Prop} [Decidable P] (h : P) (q : A) : if decide P = true then A else B := i_dec (fun _ => q) fun z => absurd h z
theorem i_decF {P A B : Prop} [Decidable P] (h : ¬P) (q : B) : if decide P = true then A else B := i_dec (fun z => absurd z h) fun _ => q
theorem i_bool {A B : Prop} (h1 : b = true → A) (h2 : b = false → B) : if b = true then A else B := by
  cases b with
  | true => exact iteT (h1 rfl)
  | false => exact iteF (h2 rfl)
end
theorem i_start {t : TS} {D : Ends} {N : List Str} {vs : List V} {H : Hp} (σ : L2.St) (e : L2.start N vs = σ) (q : t D σ H) : t D (L2.start N vs) H := by rw [e]; exact q
theorem i_while {c : TT} {tb : TS} {D : Ends} {σ : L2.St} {H : Hp} (W : Nat → L2.St → Hp → Prop) (m₀ : Nat) (w₀ : W m₀ σ H)
    (turn : ∀ m σ H, W m σ H → c σ H fun b H1 => if b = true then tb { D with nx := fun s h => ∃ m', m' < m ∧ W m' s h, ct := fun s h => ∃ m', m' < m ∧ W m' s h, bk := D.nx } σ H1 else D.nx σ H1)
    (mono : ∀ σ H Q Q', (∀ b H1, Q b H1 → Q' b H1) → c σ H Q → c σ H Q') : tWhile c tb D σ H := by
  refine ⟨W, ⟨m₀, w₀⟩, fun m σ H w => mono σ H _ _ (fun b H1 q => ?_) (turn m σ H w)⟩
  cases b with
  | true => exact ⟨_, fun _ _ z => z, q⟩
  | false => exact q
/-- the same with the test's own readings -/
theorem i_whileR {c : TT} {tb : TS} {D : Ends} {σ : L2.St} {H : Hp} (W : Nat → L2.St → Hp → Prop) (m₀ : Nat) (w₀ : W m₀ σ H)
    (turn : ∀ m σ H, W m σ H → c σ H fun b H1 => if b = true then ∃ N : L2.St → Hp → Prop, (∀ s h, N s h → ∃ m', m' < m ∧ W m' s h) ∧ tb { D with nx := N, ct := N, bk := D.nx } σ H1 else D.nx σ H1) :
    tWhile c tb D σ H := ⟨W, ⟨m₀, w₀⟩, turn⟩
theorem i_more {W : Nat → L2.St → Hp → Prop} {tb : TS} {D : Ends} {σ : L2.St} {H1 : Hp} {m : Nat}
    (q : tb { D with nx := fun s h => ∃ m', m' < m ∧ W m' s h, ct := fun s h => ∃ m', m' < m ∧ W m' s h, bk := D.nx } σ H1) :
    ∃ N : L2.St → Hp → Prop, (∀ s h, N s h → ∃ m', m' < m ∧ W m' s h) ∧ tb { D with nx := N, ct := N, bk := D.nx } σ H1 := ⟨_, fun _ _ z => z, q⟩
theorem i_isNx {v : V} {H : Hp} {Q : VK} (h : v ≠ .non) (q : Q (.bl false) H) : rIsN v .non H Q := ⟨rfl, by rw [decide_eq_false h]; exact q⟩
theorem i_notNx {v : V} {H : Hp} {Q : VK} (h : v ≠ .non) (q : Q (.bl true) H) : rNotN v .non H Q := ⟨rfl, by rw [decide_eq_false h]; exact q⟩
theorem tyN_tup {H : Hp} {a : Addr} {xs : List V} (h : H a = some (.tup xs)) : tyN H (.ref a) = some "tuple" := by simp only [tyN, h]
theorem tyN_lst {H : Hp} {a : Addr} {xs : List V} (h : H a = some (.lst xs)) : tyN H (.ref a) = some "list" := by simp only [tyN, h]
theorem i_gtup {K : PySem.W.Frag} {n : Nat} {t : TGs} {v : V} {σ : L2.St} {H : Hp} {R : L2.St → Hp → Prop} (q : ∃ a xs, v = .ref a ∧ SqT K H a xs ∧ xs.length = n ∧ t xs σ H R) : gTup K n t v σ H R := q
theorem i_gcons {t : TG} {u : TGs} {v : V} {vs : List V} {σ : L2.St} {H : Hp} {R : L2.St → Hp → Prop} (q : t v σ H fun s h => u vs s h R) : gCons t u (v :: vs) σ H R := ⟨v, vs, rfl, q⟩
theorem i_gnil {σ : L2.St} {H : Hp} {R : L2.St → Hp → Prop} (q : R σ H) : gNil [] σ H R := ⟨rfl, q⟩
theorem i_sl {r : V → Option Int → Option Int → Hp → VK → Prop} {te : TE} {tl th : TO} {σ : L2.St} {H : Hp} {Q : VK} (q : te σ H fun x H1 => tl σ H1 fun l H2 => th σ H2 fun u H3 => r x l u H3 Q) : tSl r te tl th σ H Q := q
theorem i_nopart {σ : L2.St} {H : Hp} {R : Option Int → Hp → Prop} (q : R none H) : tNoPart σ H R := q
theorem i_part {te : TE} {σ : L2.St} {H : Hp} {R : Option Int → Hp → Prop} (q : te σ H fun x H1 => ∃ i, x = .int i ∧ R (some i) H1) : tPart te σ H R := q
theorem i_for {wi : TI} {g : TG} {tb : TS} {D : Ends} {σ : L2.St} {H : Hp} (q : wi σ H fun J H1 => ∃ W : Nat → Nat → L2.St → Hp → Prop, (∃ m, W 0 m σ H1) ∧ ∀ i m σ H, W i m σ H →
    (J.stop i H ∧ D.nx σ H) ∨ (J.go i H ∧ ∃ N : L2.St → Hp → Prop, (∀ σ' H', N σ' H' → ∃ m', m' < m ∧ W (i + 1) m' σ' H') ∧ ∀ x H', J.yld i H x H' → g x σ H' fun σ2 H2 => tb { D with nx := N, ct := N, bk := D.nx } σ2 H2)) :
    tFor wi g tb D σ H := q
theorem i_iR1 {ta : TA} {σ : L2.St} {H : Hp} {R : _} (q : ta σ H fun vs H1 => ∃ j : Int, vs = [.int j] ∧ -(2 ^ 62) ≤ j ∧ j < 2 ^ 62 ∧ R (Itr 0 j.toNat) H1) : iRng1 ta σ H R := q
theorem i_iR2 {ta : TA} {σ : L2.St} {H : Hp} {R : _} (q : ta σ H fun vs H1 => ∃ i j : Int, vs = [.int i, .int j] ∧ (-(2 ^ 62) ≤ i ∧ i < 2 ^ 62 ∧ -(2 ^ 62) ≤ j ∧ j < 2 ^ 62) ∧ R (Itr i (j - i).toNat) H1) : iRng2 ta σ H R := q
theorem i_iL {K : PySem.W.Frag} {tl : TE} {σ : L2.St} {H : Hp} {R : _} (q : tl σ H fun x H1 => ∃ a, x = .ref a ∧ (∃ xs, SqL K H1 a xs) ∧ R (Itl K a) H1) : iList K tl σ H R := q
theorem i_iT {K : PySem.W.Frag} {tl : TE} {σ : L2.St} {H : Hp} {R : _} (q : tl σ H fun x H1 => ∃ a, x = .ref a ∧ (∃ xs, SqT K H1 a xs) ∧ R (Itt K a) H1) : iTup K tl σ H R := q
/-! new objects, told by what they leave -/
theorem laid {H H1 : Hp} {p : Addr} {o : HO} (e : L2.upd H p o = H1) (h : H p = none) : Same H H1 ∧ H1 p = some o := by
  subst e
  exact ⟨Same.new h, upd_same⟩
theorem i_app {l : Addr} {xs : List V} {y : V} {H : Hp} {Q : VK} (h : H l = some (.lst xs)) (hz : xs.length < sizeLine) (q : Q .non (L2.upd H l (.lst (xs ++ [y])))) : rAppend (.ref l) [y] H Q := ⟨l, xs, y, rfl, rfl, h, hz, q⟩
theorem i_tyL {K : PySem.W.Frag} {p : Addr} {xs : List V} {H : Hp} {R : Prop} (h : SqL K H p xs) (q : R) : tyV K "list" (.ref p) H ∧ R := ⟨.inl ⟨rfl, _, h⟩, q⟩
/-! dicts -/
theorem i_dnotin {ty td : TE} {σ : L2.St} {H : Hp} {Q : VK} (q : ty σ H fun y H1 => td σ H1 fun x H2 => ∃ a o, x = .ref a ∧ DGet H2 a y o ∧ Q (.bl (!o.isSome)) H2) : tDNotIn ty td σ H Q := q
theorem i_din {ty td : TE} {σ : L2.St} {H : Hp} {Q : VK} (q : ty σ H fun y H1 => td σ H1 fun x H2 => ∃ a o, x = .ref a ∧ DGet H2 a y o ∧ Q (.bl o.isSome) H2) : tDIn ty td σ H Q := q
theorem i_dget {ty td : TE} {σ : L2.St} {H : Hp} {Q : VK} (q : td σ H fun x H1 => ty σ H1 fun y H2 => ∃ a v, x = .ref a ∧ DGet H2 a y (some v) ∧ Q v H2) : tDGet td ty σ H Q := q
theorem i_dput {ty td tv : TE} {D : Ends} {σ : L2.St} {H : Hp} (q : tv σ H fun v H1 => td σ H1 fun x H2 => ty σ H2 fun y H3 => ∃ a H4, x = .ref a ∧ DPut H3 a y v H4 ∧ D.nx σ H4) : sDPut td ty tv D σ H := q
theorem i_disp {trs : List (TE × TE)} {σ : L2.St} {H : Hp} {Q : VK} (q : ∀ p, H p = none → tPairs trs σ (L2.upd H p (.dK [])) fun ps H2 => H2 p = some (.dK []) ∧ ∃ kvs : List (Key × V), ps = kvs.map (fun kv => (kV kv.1, kv.2)) ∧ kvs.length ≤ 15 ∧ Q (.ref p) (L2.upd H2 p (.dK (mergeK [] kvs)))) : tDisp trs σ H Q := q
theorem i_pcons {tk tv : TE} {r : List (TE × TE)} {σ : L2.St} {H : Hp} {Q : List (V × V) → Hp → Prop} (q : tk σ H fun x H1 => tv σ H1 fun y H2 => tPairs r σ H2 fun ps H3 => Q ((x, y) :: ps) H3) : tPairs ((tk, tv) :: r) σ H Q := q
theorem i_pnil {σ : L2.St} {H : Hp} {Q : List (V × V) → Hp → Prop} (q : Q [] H) : tPairs [] σ H Q := q
theorem i_cut {t u : TS} {D : Ends} {σ : L2.St} {H : Hp} (M : L2.St → Hp → Prop) (q : t { D with nx := M } σ H) (k : ∀ s h, M s h → u D s h) : Evl.tCut t u D σ H := ⟨M, q, k⟩
end KB

set_option maxHeartbeats 4000000
namespace KB
open PySem PySem.Spec PyProof.Rows L2
/-! further rules -/
/-- xs[lo:hi] = a list -/
def gSlc (to tl th : TE) : TG := fun v σ H R => to σ H fun o H1 => tl σ H1 fun x H2 => th σ H2 fun y H3 =>
  ∃ (l b : Addr) (xs ys : List V) (a c : Nat), o = .ref l ∧ v = .ref b ∧ x = .int a ∧ y = .int c ∧ H3 l = some (.lst xs) ∧ H3 b = some (.lst ys) ∧ l ≠ b ∧ a ≤ c ∧ c ≤ xs.length ∧
    xs.length + ys.length ≤ sizeLine ∧ R σ (L2.upd H3 l (.lst (xs.take a ++ ys ++ xs.drop c)))
theorem pg_slc {X : Cx} {o lo hi : Expr} {to tl th : TE} {p2 pos : Pos} (ho : PE X o to) (hl : PE X lo tl) (hh : PE X hi th) : PG X (.Subscript o (.Slice (some lo) (some hi) none p2) pos) (gSlc to tl th) := by
  refine ⟨fun pins s σ H v u Q I r h => ?_⟩
  rw [PySem.arm_assign_Subscript]
  refine wpAny_bind (wpAny_holding (thn (ho.run pins s σ H _ I h) fun ov s1 ⟨x, H1, I1, r1, q1⟩ => ?_))
  refine wpAny_bind (wpAny_holding (wpAny_Slice ?_))
  refine thn (hl.run pins s1 σ H1 _ I1 q1) fun vl s2 ⟨y, H2, I2, r2, q2⟩ => ?_
  refine thn (hh.run pins s2 σ H2 _ I2 q2) fun vu s3 ⟨z, H3, I3, r3, q3⟩ => ?_
  rw [evalPart_none]
  refine wpAny_pure ?_
  obtain ⟨l, b, xs, ys, a, c, e1, e2, e3, e4, hL, hB, hne, hac, hc, hz, q⟩ := q3
  subst e1; subst e2; subst e3; subst e4
  cases r1
  cases r
  have I4 : Inv X pins σ H3 { s3 with heap := s3.heap.push { cls := .type "slice", data := .fields #[vl, vu, .none] } } := I3.kept (t' := s3.toks) fun b ob q => Heap.get?_push_of_some _ q
  show wpAny (model X.prog X.w) X.A _ _ X.xe { s3 with heap := s3.heap.push { cls := .type "slice", data := .fields #[vl, vu, .none] } }
  refine wpAny_bind (wpAny_standAt (wpAny_bind (wpAny_holding ?_)))
  refine set_slice I4 hL hB hne (Heap.IsSliceOf.new ..) r2 r3 (by omega) (by omega) (by omega) hz fun s5 I5 => ?_
  exact wpAny_release ⟨σ, _, I5, by simpa using q⟩
theorem i_slc {to tl th : TE} {v : V} {σ : L2.St} {H : Hp} {R : L2.St → Hp → Prop} (q : to σ H fun o H1 => tl σ H1 fun x H2 => th σ H2 fun y H3 =>
  ∃ (l b : Addr) (xs ys : List V) (a c : Nat), o = .ref l ∧ v = .ref b ∧ x = .int a ∧ y = .int c ∧ H3 l = some (.lst xs) ∧ H3 b = some (.lst ys) ∧ l ≠ b ∧ a ≤ c ∧ c ≤ xs.length ∧
    xs.length + ys.length ≤ sizeLine ∧ R σ (L2.upd H3 l (.lst (xs.take a ++ ys ++ xs.drop c)))) : gSlc to tl th v σ H R := q
end KB
namespace KB
open PySem PySem.Spec PyProof.Rows L2
theorem i_eqS {a b : Str} {H : Hp} {Q : VK} (q : Q (.bl (decide (a = b))) H) : rEq (.str a) (.str b) H Q := ⟨rfl, by
  have e : decide (V.str a = V.str b) = decide (a = b) := by
    by_cases h : a = b
    · subst h; simp
    · rw [decide_eq_false h, decide_eq_false (fun z => h (V.str.inj z))]
  rw [e]; exact q⟩
theorem i_neS {a b : Str} {H : Hp} {Q : VK} (q : Q (.bl (!decide (a = b))) H) : rNe (.str a) (.str b) H Q := ⟨rfl, by
  have e : decide (V.str a = V.str b) = decide (a = b) := by
    by_cases h : a = b
    · subst h; simp
    · rw [decide_eq_false h, decide_eq_false (fun z => h (V.str.inj z))]
  rw [e]; exact q⟩
end KB
namespace KB
open PySem PySem.Spec PyProof.Rows L2
/-- an expression at which the reading halts, to be met by a told promise -/
def tHold (te : TE) : TE := te
theorem pe_hold {X : Cx} {e : Expr} {te : TE} (h : PE X e te) : PE X e (tHold te) := h
theorem i_hold {te : TE} {σ : L2.St} {H : Hp} {Q : VK} (M : V → Hp → Prop) (q : ∀ Q' : VK, (∀ x H', M x H' → Q' x H') → te σ H Q') (k : ∀ x H', M x H' → Q x H') : tHold te σ H Q := q Q k
end KB

/-! shapes: plain mathematics -/
namespace KM
inductive Sh where
  | one
  | two (l r : Sh)
  deriving DecidableEq
def wid : Sh → Nat
  | .one => 1
  | .two l r => wid l + wid r
def hei : Sh → Nat
  | .one => 0
  | .two l r => 1 + max (hei l) (hei r)
def bal : Sh → Prop
  | .one => True
  | .two l r => bal l ∧ bal r ∧ hei l ≤ hei r + 1 ∧ hei r ≤ hei l + 1
theorem wid_pos : ∀ s : Sh, 1 ≤ wid s
  | .one => Nat.le_refl 1
  | .two l r => by have := wid_pos l; simp only [wid]; omega
/-- the least width of a height -/
def L : Nat → Nat
  | 0 => 1
  | 1 => 2
  | n + 2 => L (n + 1) + L n
theorem L_pos : ∀ n, 1 ≤ L n
  | 0 => by decide
  | 1 => by decide
  | n + 2 => by have := L_pos (n + 1); simp only [L]; omega
theorem L_lt : ∀ n, L n < L (n + 1)
  | 0 => by decide
  | n + 1 => by have := L_pos n; simp only [L]; omega
theorem L_mono {m n : Nat} (h : m ≤ n) : L m ≤ L n := by
  induction h with
  | refl => exact Nat.le_refl _
  | step _ ih => exact Nat.le_trans ih (Nat.le_of_lt (L_lt _))
theorem L_le_pow : ∀ n, L n ≤ 2 ^ n
  | 0 => by decide
  | 1 => by decide
  | n + 2 => by
    have h1 := L_le_pow (n + 1)
    have h2 := L_le_pow n
    have e : 2 ^ (n + 2) = 2 * (2 * 2 ^ n) := by rw [Nat.pow_succ, Nat.pow_succ]; omega
    have e1 : 2 ^ (n + 1) = 2 * 2 ^ n := by rw [Nat.pow_succ]; omega
    simp only [L]; omega
/-- the tallest height of a width -/
def Tl (w h : Nat) : Prop := (h = 0 ∨ L h ≤ w) ∧ w < L (h + 1)
theorem Tl.inj {w a b : Nat} (x : Tl w a) (y : Tl w b) : a = b := by
  obtain ⟨xa, xb⟩ := x
  obtain ⟨ya, yb⟩ := y
  rcases Nat.lt_trichotomy a b with h | h | h
  · have := L_mono (show a + 1 ≤ b by omega)
    rcases ya with e | e <;> omega
  · exact h
  · have := L_mono (show b + 1 ≤ a by omega)
    rcases xa with e | e <;> omega
theorem L_21 : L 21 = 28657 := by decide +kernel
theorem Tl.le {w h : Nat} (x : Tl w h) (hw : w ≤ 20000) : h ≤ 20 := by
  obtain ⟨xa, _⟩ := x
  rcases Nat.lt_or_ge h 21 with q | q
  · omega
  · have := L_mono q
    rw [L_21] at this
    rcases xa with e | e <;> omega
theorem Tl.ex (w : Nat) : ∃ h, Tl w h := by
  have big : ∀ n, n < L n := by
    intro n
    induction n with
    | zero => decide
    | succ n ih => have := L_lt n; omega
  have go : ∀ n h, w < L (h + n) → (h = 0 ∨ L h ≤ w) → ∃ h, Tl w h := by
    intro n
    induction n with
    | zero =>
      intro h a b
      rcases b with e | e
      · subst e
        exact ⟨0, .inl rfl, by have := L_lt 0; simp only [Nat.add_zero] at a; omega⟩
      · simp only [Nat.add_zero] at a; omega
    | succ n ih =>
      intro h a b
      by_cases c : w < L (h + 1)
      · exact ⟨h, b, c⟩
      · exact ih (h + 1) (by rw [show h + 1 + n = h + (n + 1) by omega]; exact a) (.inr (by omega))
  exact go (w + 1) 0 (by have := big (w + 1); simp only [Nat.zero_add]; omega) (.inl rfl)
/-- a width fits a height -/
def Fit (w h : Nat) : Prop := L h ≤ w ∧ w ≤ 2 ^ h
theorem L_pow1 : ∀ n, L (n + 1) ≤ 2 ^ n + 1
  | 0 => by decide
  | 1 => by decide
  | n + 2 => by
    have h1 := L_pow1 (n + 1)
    have h2 := L_pow1 n
    have e : 2 ^ (n + 2) = 2 * (2 * 2 ^ n) := by rw [Nat.pow_succ, Nat.pow_succ]; omega
    have e1 : 2 ^ (n + 1) = 2 * 2 ^ n := by rw [Nat.pow_succ]; omega
    have e3 : 1 ≤ 2 ^ n := Nat.one_le_two_pow
    have e4 : L (n + 2 + 1) = L (n + 1 + 1) + L (n + 1) := rfl
    omega
theorem Tl.fit {w h : Nat} (x : Tl w h) (hw : 1 ≤ w) : Fit w h := by
  obtain ⟨xa, xb⟩ := x
  have := L_pow1 h
  refine ⟨?_, by omega⟩
  rcases xa with e | e
  · subst e; exact hw
  · exact e
/-- twice the least width, less one, is let by the two next lower heights -/
theorem L_half : ∀ n, 2 * L (n + 1) ≤ 2 ^ (n + 1) + 2 ^ n + 1
  | 0 => by decide
  | 1 => by decide
  | n + 2 => by
    have h1 := L_half (n + 1)
    have h2 := L_half n
    have e : 2 ^ (n + 2 + 1) = 2 * (2 * (2 * 2 ^ n)) := by rw [Nat.pow_succ, Nat.pow_succ, Nat.pow_succ]; omega
    have e0 : 2 ^ (n + 2) = 2 * (2 * 2 ^ n) := by rw [Nat.pow_succ, Nat.pow_succ]; omega
    have e1 : 2 ^ (n + 1) = 2 * 2 ^ n := by rw [Nat.pow_succ]; omega
    have e3 : 1 ≤ 2 ^ n := Nat.one_le_two_pow
    have e4 : L (n + 2 + 1) = L (n + 1 + 1) + L (n + 1) := rfl
    omega
/-- one of the first two ways is there -/
theorem way_there {w h : Nat} (f : Fit w (h + 1)) :
    (L h ≤ 2 ^ h ∧ L h + L h ≤ w ∧ w ≤ 2 ^ h + 2 ^ h) ∨ (∃ g, h = g + 1 ∧ L h + L g ≤ w ∧ w ≤ 2 ^ h + 2 ^ g) := by
  obtain ⟨a, b⟩ := f
  have e1 : 2 ^ (h + 1) = 2 ^ h + 2 ^ h := by rw [Nat.pow_succ]; omega
  by_cases c : L h + L h ≤ w
  · exact .inl ⟨L_le_pow h, c, by omega⟩
  · right
    cases h with
    | zero => simp only [L] at a c; omega
    | succ g =>
      refine ⟨g, rfl, a, ?_⟩
      have := L_half g
      omega
/-! even shapes -/
def evS (n : Nat) : Sh := if h : n ≤ 1 then .one else .two (evS ((n + 1) / 2)) (evS (n / 2))
theorem evS_1 {n : Nat} (h : n ≤ 1) : evS n = .one := by rw [evS, dif_pos h]
theorem evS_2 {n : Nat} (h : ¬ n ≤ 1) : evS n = .two (evS ((n + 1) / 2)) (evS (n / 2)) := by rw [evS, dif_neg h]
theorem evS_wid : ∀ n, 1 ≤ n → wid (evS n) = n := by
  intro n
  induction n using Nat.strongRecOn with
  | _ n ih =>
    intro h
    by_cases c : n ≤ 1
    · rw [evS_1 c]; simp only [wid]; omega
    · rw [evS_2 c]; simp only [wid]
      rw [ih _ (by omega) (by omega), ih _ (by omega) (by omega)]; omega
/-- how many bits -/
def bits (n : Nat) : Nat := if h : n = 0 then 0 else 1 + bits (n / 2)
theorem bits_0 : bits 0 = 0 := by rw [bits, dif_pos rfl]
theorem bits_s {n : Nat} (h : n ≠ 0) : bits n = 1 + bits (n / 2) := by rw [bits, dif_neg h]
theorem bits_mono : ∀ n m, m ≤ n → bits m ≤ bits n := by
  intro n
  induction n using Nat.strongRecOn with
  | _ n ih =>
    intro m h
    by_cases c : m = 0
    · subst c; rw [bits_0]; omega
    · rw [bits_s c, bits_s (show n ≠ 0 by omega)]
      have := ih (n / 2) (by omega) (m / 2) (by omega)
      omega
theorem bits_succ : ∀ n, bits (n + 1) ≤ bits n + 1 := by
  intro n
  induction n using Nat.strongRecOn with
  | _ n ih =>
    by_cases c : n = 0
    · subst c; decide +kernel
    · rw [bits_s c, bits_s (show n + 1 ≠ 0 by omega)]
      by_cases d : (n + 1) / 2 = n / 2
      · rw [d]; omega
      · rw [show (n + 1) / 2 = n / 2 + 1 by omega]
        have := ih (n / 2) (by omega)
        omega
theorem bits_log (n : Nat) (h : n ≠ 0) : bits n = n.log2 + 1 := by
  induction n using Nat.strongRecOn with
  | _ n ih =>
    rw [bits_s h]
    by_cases c : n / 2 = 0
    · have e : n = 1 := by omega
      subst e; decide +kernel
    · rw [ih _ (by omega) c, Nat.log2_def n, if_pos (show 2 ≤ n by omega)]; omega
theorem evS_hei : ∀ n, 1 ≤ n → hei (evS n) = bits (n - 1) ∧ bal (evS n) := by
  intro n
  induction n using Nat.strongRecOn with
  | _ n ih =>
    intro h
    by_cases c : n ≤ 1
    · rw [evS_1 c, show n - 1 = 0 by omega, bits_0]; exact ⟨rfl, trivial⟩
    · rw [evS_2 c]
      obtain ⟨a1, a2⟩ := ih ((n + 1) / 2) (by omega) (by omega)
      obtain ⟨b1, b2⟩ := ih (n / 2) (by omega) (by omega)
      have m := bits_mono ((n + 1) / 2 - 1) (n / 2 - 1) (by omega)
      have s : bits ((n + 1) / 2 - 1) ≤ bits (n / 2 - 1) + 1 := by
        by_cases d : (n + 1) / 2 - 1 = n / 2 - 1
        · rw [d]; omega
        · rw [show (n + 1) / 2 - 1 = n / 2 - 1 + 1 by omega]; exact bits_succ _
      simp only [hei, bal]
      rw [a1, b1, bits_s (show n - 1 ≠ 0 by omega), show (n - 1) / 2 = (n + 1) / 2 - 1 by omega]
      exact ⟨by omega, a2, b2, by omega, by omega⟩
theorem evS_low {n : Nat} (h : 1 ≤ n) (h2 : n ≤ 20000) : hei (evS n) ≤ 15 := by
  rw [(evS_hei n h).1]
  have := bits_mono 19999 (n - 1) (by omega)
  rw [show bits 19999 = 15 by decide +kernel] at this
  exact this
/-! the height of a balanced shape, by the program's way -/
def bh : Sh → Int
  | .one => 0
  | .two l r => if min (bh l) (bh r) < 0 ∨ 1 < (if bh l - bh r < 0 then -(bh l - bh r) else bh l - bh r) then -1 else 1 + max (bh l) (bh r)
theorem bh_is : ∀ s : Sh, (bal s → bh s = (hei s : Int)) ∧ (¬ bal s → bh s = -1)
  | .one => ⟨fun _ => rfl, fun h => absurd trivial h⟩
  | .two l r => by
    obtain ⟨l1, l2⟩ := bh_is l
    obtain ⟨r1, r2⟩ := bh_is r
    constructor
    · rintro ⟨a, b, c, d⟩
      simp only [bh, hei]
      rw [l1 a, r1 b, if_neg (by split <;> omega)]
      omega
    · intro h
      simp only [bh]
      by_cases a : bal l
      · by_cases b : bal r
        · rw [l1 a, r1 b]
          refine if_pos ?_
          by_cases c : hei l ≤ hei r + 1
          · by_cases d : hei r ≤ hei l + 1
            · exact absurd ⟨a, b, c, d⟩ h
            · right; split <;> omega
          · right; split <;> omega
        · rw [r2 b]; exact if_pos (.inl (by omega))
      · rw [l2 a]; exact if_pos (.inl (by omega))
theorem bh_nonneg {s : Sh} : 0 ≤ bh s ↔ bal s := by
  obtain ⟨a, b⟩ := bh_is s
  constructor
  · intro h
    by_cases c : bal s
    · exact c
    · rw [b c] at h; omega
  · intro h; rw [a h]; omega
end KM
namespace KM
/-! anything, looked at as a shape -/
inductive GS where
  | one
  | two (l r : GS)
  | bad
def wIn : Nat → GS → Nat
  | _, .one => 1
  | _, .bad => 0
  | 0, .two _ _ => 0
  | m + 1, .two l r => if wIn m l = 0 ∨ wIn m r = 0 ∨ 20000 < wIn m l + wIn m r then 0 else wIn m l + wIn m r
def Sh.g : Sh → GS
  | .one => .one
  | .two l r => .two l.g r.g
theorem wIn_sh : ∀ (s : Sh) (m : Nat), hei s ≤ m → wid s ≤ 20000 → wIn m s.g = wid s
  | .one, m, _, _ => by cases m <;> rfl
  | .two l r, 0, h, _ => by simp only [hei] at h; omega
  | .two l r, m + 1, h, h2 => by
    simp only [hei] at h
    simp only [wid] at h2
    simp only [Sh.g, wIn, wid]
    have := wid_pos l
    have := wid_pos r
    rw [wIn_sh l m (by omega) (by omega), wIn_sh r m (by omega) (by omega), if_neg (by omega)]
end KM
namespace KM
def owid : Option Sh → Nat
  | none => 0
  | some t => wid t
def ohei : Option Sh → Nat
  | none => 0
  | some t => hei t
end KM

/-! joined, cut, with a child more, with one less: plain mathematics -/
namespace KM
def epR (l i o : Sh) : Sh := if hei i ≤ hei o then .two (.two l i) o else match i with
  | .two a b => .two (.two l a) (.two b o)
  | .one => .two (.two l i) o
def epL (o i r : Sh) : Sh := if hei i ≤ hei o then .two o (.two i r) else match i with
  | .two a b => .two (.two o a) (.two b r)
  | .one => .two o (.two i r)
def ep (l r : Sh) : Sh :=
  if hei l + 1 < hei r then (match r with
    | .two i o => epR l i o
    | .one => .two l r)
  else if hei r + 1 < hei l then (match l with
    | .two o i => epL o i r
    | .one => .two l r)
  else .two l r
/-- what a putting together of two keeps: balance, the width, the height up to one more -/
structure Good (t : Sh) (w lo hi : Nat) : Prop where
  b : bal t
  w : wid t = w
  lo : lo ≤ hei t
  hi : hei t ≤ hi
theorem ep_r {l i o : Sh} (h : hei l + 1 < hei (.two i o)) : ep l (.two i o) = epR l i o := by unfold ep; rw [if_pos h]
theorem ep_l {o i r : Sh} (h1 : ¬ hei (.two o i) + 1 < hei r) (h2 : hei r + 1 < hei (.two o i)) : ep (.two o i) r = epL o i r := by unfold ep; rw [if_neg h1, if_pos h2]
theorem ep_e {l r : Sh} (h1 : ¬ hei l + 1 < hei r) (h2 : ¬ hei r + 1 < hei l) : ep l r = .two l r := by unfold ep; rw [if_neg h1, if_neg h2]
theorem ep_good {l r : Sh} (hl : bal l) (hr : bal r) (d1 : hei l ≤ hei r + 2) (d2 : hei r ≤ hei l + 2) :
    Good (ep l r) (wid l + wid r) (max (hei l) (hei r)) (max (hei l) (hei r) + 1) ∧ (hei l ≤ hei r + 1 → hei r ≤ hei l + 1 → hei (ep l r) = 1 + max (hei l) (hei r)) := by
  unfold ep
  by_cases c1 : hei l + 1 < hei r
  · rw [if_pos c1]
    cases r with
    | one => simp only [hei] at c1; omega
    | two i o =>
      obtain ⟨b1, b2, b3, b4⟩ := hr
      simp only [hei] at c1 d1 d2
      show Good (epR l i o) _ _ _ ∧ _
      unfold epR
      by_cases c2 : hei i ≤ hei o
      · rw [if_pos c2]
        refine ⟨⟨?_, ?_, ?_, ?_⟩, fun _ z => ?_⟩
        · simp only [bal, hei]; exact ⟨⟨hl, b1, by omega, by omega⟩, b2, by omega, by omega⟩
        · simp only [wid]; omega
        · simp only [hei]; omega
        · simp only [hei]; omega
        · simp only [hei] at z; omega
      · rw [if_neg c2]
        cases i with
        | one => simp only [hei] at c2; omega
        | two a b =>
          obtain ⟨a1, a2, a3, a4⟩ := b1
          simp only [hei] at c1 c2 d1 d2 b3 b4
          refine ⟨⟨?_, ?_, ?_, ?_⟩, fun _ z => ?_⟩
          · simp only [bal, hei]; exact ⟨⟨hl, a1, by omega, by omega⟩, ⟨a2, b2, by omega, by omega⟩, by omega, by omega⟩
          · simp only [wid]; omega
          · simp only [hei]; omega
          · simp only [hei]; omega
          · simp only [hei] at z; omega
  · rw [if_neg c1]
    by_cases c3 : hei r + 1 < hei l
    · rw [if_pos c3]
      cases l with
      | one => simp only [hei] at c3; omega
      | two o i =>
        obtain ⟨b1, b2, b3, b4⟩ := hl
        simp only [hei] at c1 c3 d1 d2
        show Good (epL o i r) _ _ _ ∧ _
        unfold epL
        by_cases c2 : hei i ≤ hei o
        · rw [if_pos c2]
          refine ⟨⟨?_, ?_, ?_, ?_⟩, fun z _ => ?_⟩
          · simp only [bal, hei]; exact ⟨b1, ⟨b2, hr, by omega, by omega⟩, by omega, by omega⟩
          · simp only [wid]; omega
          · simp only [hei]; omega
          · simp only [hei]; omega
          · simp only [hei] at z; omega
        · rw [if_neg c2]
          cases i with
          | one => simp only [hei] at c2; omega
          | two a b =>
            obtain ⟨a1, a2, a3, a4⟩ := b2
            simp only [hei] at c1 c2 c3 d1 d2 b3 b4
            refine ⟨⟨?_, ?_, ?_, ?_⟩, fun z _ => ?_⟩
            · simp only [bal, hei]; exact ⟨⟨b1, a1, by omega, by omega⟩, ⟨a2, hr, by omega, by omega⟩, by omega, by omega⟩
            · simp only [wid]; omega
            · simp only [hei]; omega
            · simp only [hei]; omega
            · simp only [hei] at z; omega
    · rw [if_neg c3]
      refine ⟨⟨?_, ?_, ?_, ?_⟩, fun _ _ => ?_⟩
      · simp only [bal]; exact ⟨hl, hr, by omega, by omega⟩
      · simp only [wid]
      · simp only [hei]; omega
      · simp only [hei]; omega
      · simp only [hei]
/-- joined -/
def jn (l r : Sh) : Sh :=
  if h1 : hei r + 1 < hei l then (match l, h1 with
    | .two f la, _ => ep f (jn la r)
    | .one, _ => .two l r)
  else if h2 : hei l + 1 < hei r then (match r, h2 with
    | .two f la, _ => ep (jn l f) la
    | .one, _ => .two l r)
  else .two l r
termination_by hei l + hei r
decreasing_by
  · simp only [hei]; omega
  · simp only [hei]; omega
theorem jn_l {f la r : Sh} (h : hei r + 1 < hei (.two f la)) : jn (.two f la) r = ep f (jn la r) := by rw [jn, dif_pos h]
theorem jn_r {l f la : Sh} (h1 : ¬ hei (.two f la) + 1 < hei l) (h : hei l + 1 < hei (.two f la)) : jn l (.two f la) = ep (jn l f) la := by rw [jn, dif_neg h1, dif_pos h]
theorem jn_e {l r : Sh} (h1 : ¬ hei r + 1 < hei l) (h2 : ¬ hei l + 1 < hei r) : jn l r = .two l r := by rw [jn, dif_neg h1, dif_neg h2]
theorem jn_good : ∀ (n : Nat) (l r : Sh), hei l + hei r ≤ n → bal l → bal r → Good (jn l r) (wid l + wid r) (max (hei l) (hei r)) (max (hei l) (hei r) + 1) := by
  intro n
  induction n with
  | zero =>
    intro l r h bl br
    rw [jn_e (by omega) (by omega)]
    exact ⟨⟨bl, br, by omega, by omega⟩, rfl, by simp only [hei]; omega, by simp only [hei]; omega⟩
  | succ n ih =>
    intro l r h bl br
    by_cases c1 : hei r + 1 < hei l
    · cases l with
      | one => simp only [hei] at c1; omega
      | two f la =>
        obtain ⟨b1, b2, b3, b4⟩ := bl
        rw [jn_l c1]
        simp only [hei] at c1 h
        obtain ⟨x1, x2, x3, x4⟩ := ih la r (by omega) b2 br
        obtain ⟨⟨y1, y2, y3, y4⟩, y5⟩ := ep_good b1 x1 (by omega) (by omega)
        refine ⟨y1, by rw [y2, x2]; simp only [wid]; omega, ?_, by simp only [hei]; omega⟩
        simp only [hei]
        by_cases c : hei (jn la r) ≤ hei f + 1
        · rw [y5 (by omega) c]; omega
        · omega
    · by_cases c2 : hei l + 1 < hei r
      · cases r with
        | one => simp only [hei] at c2; omega
        | two f la =>
          obtain ⟨b1, b2, b3, b4⟩ := br
          rw [jn_r c1 c2]
          simp only [hei] at c1 c2 h
          obtain ⟨x1, x2, x3, x4⟩ := ih l f (by omega) bl b1
          obtain ⟨⟨y1, y2, y3, y4⟩, y5⟩ := ep_good x1 b2 (by omega) (by omega)
          refine ⟨y1, by rw [y2, x2]; simp only [wid]; omega, ?_, by simp only [hei]; omega⟩
          simp only [hei]
          by_cases c : hei (jn l f) ≤ hei la + 1
          · rw [y5 c (by omega)]; omega
          · omega
      · rw [jn_e c1 c2]
        exact ⟨⟨bl, br, by omega, by omega⟩, rfl, by simp only [hei]; omega, by simp only [hei]; omega⟩
theorem jn_ok {l r : Sh} (bl : bal l) (br : bal r) : Good (jn l r) (wid l + wid r) (max (hei l) (hei r)) (max (hei l) (hei r) + 1) := jn_good _ l r (Nat.le_refl _) bl br
/-- .. where there may be none -/
def jo : Option Sh → Option Sh → Option Sh
  | none, r => r
  | some l, none => some l
  | some l, some r => some (jn l r)
def obal : Option Sh → Prop
  | none => True
  | some t => bal t
theorem jo_ok {l r : Option Sh} (bl : obal l) (br : obal r) : obal (jo l r) ∧ owid (jo l r) = owid l + owid r ∧ ohei (jo l r) ≤ max (ohei l) (ohei r) + 1 := by
  cases l with
  | none => exact ⟨br, by simp only [jo, owid]; omega, by simp only [jo, ohei]; omega⟩
  | some a =>
    cases r with
    | none => exact ⟨bl, by simp only [jo, owid]; omega, by simp only [jo, ohei]; omega⟩
    | some b =>
      obtain ⟨x1, x2, x3, x4⟩ := jn_ok (l := a) (r := b) bl br
      exact ⟨x1, x2, by simp only [jo, ohei]; omega⟩
/-- cut behind so many children -/
def ct : Sh → Nat → Option Sh × Option Sh
  | t, 0 => (none, some t)
  | .one, _ + 1 => (some .one, none)
  | .two l r, k + 1 => if k + 1 = wid (.two l r) then (some (.two l r), none)
    else if k + 1 ≤ wid l then ((ct l (k + 1)).1, jo (ct l (k + 1)).2 (some r))
    else (jo (some l) (ct r (k + 1 - wid l)).1, (ct r (k + 1 - wid l)).2)
theorem ct_ok : ∀ (t : Sh) (k : Nat), bal t → k ≤ wid t → obal (ct t k).1 ∧ obal (ct t k).2 ∧ owid (ct t k).1 = k ∧ owid (ct t k).2 = wid t - k ∧ ohei (ct t k).1 ≤ hei t ∧ ohei (ct t k).2 ≤ hei t := by
  intro t
  induction t with
  | one =>
    intro k b h
    simp only [wid] at h
    cases k with
    | zero => exact ⟨trivial, trivial, rfl, rfl, Nat.le_refl _, Nat.le_refl _⟩
    | succ k => exact ⟨trivial, trivial, by simp only [ct, owid, wid]; omega, by simp only [ct, owid, wid]; omega, Nat.le_refl _, Nat.le_refl _⟩
  | two l r il ir =>
    intro k b h
    obtain ⟨b1, b2, b3, b4⟩ := b
    cases k with
    | zero => exact ⟨trivial, ⟨b1, b2, b3, b4⟩, rfl, rfl, Nat.zero_le _, Nat.le_refl _⟩
    | succ k =>
      simp only [ct]
      by_cases c : k + 1 = wid (.two l r)
      · rw [if_pos c]
        exact ⟨⟨b1, b2, b3, b4⟩, trivial, c.symm, by simp only [owid]; omega, Nat.le_refl _, Nat.zero_le _⟩
      · rw [if_neg c]
        simp only [wid] at h c ⊢
        by_cases c2 : k + 1 ≤ wid l
        · rw [if_pos c2]
          obtain ⟨x1, x2, x3, x4, x5, x6⟩ := il (k + 1) b1 c2
          obtain ⟨y1, y2, y3⟩ := jo_ok (r := some r) x2 b2
          refine ⟨x1, y1, x3, ?_, by simp only [hei]; omega, ?_⟩
          · rw [y2, x4]; simp only [owid]; omega
          · simp only [hei, ohei] at *; omega
        · rw [if_neg c2]
          obtain ⟨x1, x2, x3, x4, x5, x6⟩ := ir (k + 1 - wid l) b2 (by omega)
          obtain ⟨y1, y2, y3⟩ := jo_ok (l := some l) b1 x1
          refine ⟨y1, x2, ?_, ?_, ?_, by simp only [hei]; omega⟩
          · rw [y2, x3]; simp only [owid]; omega
          · rw [x4]; omega
          · simp only [hei, ohei] at *; omega
/-- with one child more -/
def wt : Sh → Nat → Sh
  | .one, _ => .two .one .one
  | .two l r, p => if p ≤ wid l then ep (wt l p) r else ep l (wt r (p - wid l))
theorem wt_ok : ∀ (t : Sh) (p : Nat), bal t → Good (wt t p) (wid t + 1) (hei t) (hei t + 1) := by
  intro t
  induction t with
  | one => intro p b; exact ⟨by simp only [wt, bal, hei]; exact ⟨trivial, trivial, by omega, by omega⟩, rfl, by simp only [wt, hei]; omega, by simp only [wt, hei]; omega⟩
  | two l r il ir =>
    intro p b
    obtain ⟨b1, b2, b3, b4⟩ := b
    simp only [wt]
    by_cases c : p ≤ wid l
    · rw [if_pos c]
      obtain ⟨x1, x2, x3, x4⟩ := il p b1
      obtain ⟨⟨y1, y2, y3, y4⟩, y5⟩ := ep_good x1 b2 (by omega) (by omega)
      refine ⟨y1, by rw [y2, x2]; simp only [wid]; omega, ?_, by simp only [hei]; omega⟩
      simp only [hei]
      by_cases d : hei (wt l p) ≤ hei r + 1
      · rw [y5 d (by omega)]; omega
      · omega
    · rw [if_neg c]
      obtain ⟨x1, x2, x3, x4⟩ := ir (p - wid l) b2
      obtain ⟨⟨y1, y2, y3, y4⟩, y5⟩ := ep_good b1 x1 (by omega) (by omega)
      refine ⟨y1, by rw [y2, x2]; simp only [wid]; omega, ?_, by simp only [hei]; omega⟩
      simp only [hei]
      by_cases d : hei (wt r (p - wid l)) ≤ hei l + 1
      · rw [y5 (by omega) d]; omega
      · omega
/-- with one less -/
def wo : Sh → Nat → Option Sh
  | .one, _ => none
  | .two l r, p => if p < wid l then (match wo l p with
      | none => some r
      | some x => some (ep x r))
    else (match wo r (p - wid l) with
      | none => some l
      | some x => some (ep l x))
theorem wo_ok : ∀ (t : Sh) (p : Nat), bal t → (t = .one ∧ wo t p = none) ∨ ∃ x, wo t p = some x ∧ Good x (wid t - 1) (hei t - 1) (hei t) := by
  intro t
  induction t with
  | one => intro p _; exact .inl ⟨rfl, rfl⟩
  | two l r il ir =>
    intro p b
    obtain ⟨b1, b2, b3, b4⟩ := b
    right
    have wl := wid_pos l
    have wr := wid_pos r
    simp only [wo]
    by_cases c : p < wid l
    · rw [if_pos c]
      rcases il p b1 with ⟨rfl, e⟩ | ⟨x, e, x1, x2, x3, x4⟩
      · rw [e]
        simp only [hei] at b3 b4
        exact ⟨r, rfl, b2, by simp only [wid]; omega, by simp only [hei]; omega, by simp only [hei]; omega⟩
      · rw [e]
        obtain ⟨⟨y1, y2, y3, y4⟩, y5⟩ := ep_good x1 b2 (by omega) (by omega)
        refine ⟨ep x r, rfl, y1, by rw [y2, x2]; simp only [wid]; omega, by simp only [hei]; omega, ?_⟩
        simp only [hei]
        by_cases d : hei r ≤ hei x + 1
        · rw [y5 (by omega) d]; omega
        · omega
    · rw [if_neg c]
      rcases ir (p - wid l) b2 with ⟨rfl, e⟩ | ⟨x, e, x1, x2, x3, x4⟩
      · rw [e]
        simp only [hei] at b3 b4
        exact ⟨l, rfl, b1, by simp only [wid]; omega, by simp only [hei]; omega, by simp only [hei]; omega⟩
      · rw [e]
        obtain ⟨⟨y1, y2, y3, y4⟩, y5⟩ := ep_good b1 x1 (by omega) (by omega)
        refine ⟨ep l x, rfl, y1, by rw [y2, x2]; simp only [wid]; omega, by simp only [hei]; omega, ?_⟩
        simp only [hei]
        by_cases d : hei l ≤ hei x + 1
        · rw [y5 d (by omega)]; omega
        · omega
end KM

set_option maxHeartbeats 4000000
namespace KM
/-! anything, looked at as a shape: more of it -/
def gh : GS → Nat
  | .one => 0
  | .bad => 0
  | .two l r => 1 + max (gh l) (gh r)
def gl : GS → Nat
  | .one => 1
  | .bad => 1
  | .two l r => gl l + gl r
def isSh : GS → Bool
  | .one => true
  | .bad => false
  | .two l r => isSh l && isSh r
def gsz : GS → Option (Nat × Nat)
  | .one => some (1, 0)
  | .bad => none
  | .two l r => match gsz l, gsz r with
    | some (a, b), some (c, d) => if b ≤ d + 1 ∧ d ≤ b + 1 then some (a + c, 1 + max b d) else none
    | _, _ => none
theorem gl_pos : ∀ g : GS, 1 ≤ gl g
  | .one => Nat.le_refl _
  | .bad => Nat.le_refl _
  | .two l r => by have := gl_pos l; simp only [gl]; omega
theorem gh_lt : ∀ g : GS, gh g < gl g
  | .one => by decide
  | .bad => by decide
  | .two l r => by have := gh_lt l; have := gh_lt r; simp only [gl, gh]; omega
theorem isSh_g : ∀ s : Sh, isSh s.g = true
  | .one => rfl
  | .two l r => by simp only [Sh.g, isSh, isSh_g l, isSh_g r, Bool.and_self]
theorem sh_of : ∀ g : GS, isSh g = true → ∃ s : Sh, g = s.g
  | .one, _ => ⟨.one, rfl⟩
  | .bad, h => by cases h
  | .two l r, h => by
    simp only [isSh, Bool.and_eq_true] at h
    obtain ⟨a, rfl⟩ := sh_of l h.1
    obtain ⟨b, rfl⟩ := sh_of r h.2
    exact ⟨.two a b, rfl⟩
theorem hei_g : ∀ s : Sh, gh s.g = hei s
  | .one => rfl
  | .two l r => by simp only [Sh.g, gh, hei, hei_g l, hei_g r]
theorem wid_g : ∀ s : Sh, gl s.g = wid s
  | .one => rfl
  | .two l r => by simp only [Sh.g, gl, wid, wid_g l, wid_g r]
theorem g_inj : ∀ {s t : Sh}, s.g = t.g → s = t
  | .one, .one, _ => rfl
  | .one, .two _ _, h => by cases h
  | .two _ _, .one, h => by cases h
  | .two a b, .two c d, h => by
    simp only [Sh.g, GS.two.injEq] at h
    rw [g_inj h.1, g_inj h.2]
theorem gsz_is : ∀ s : Sh, (bal s → gsz s.g = some (wid s, hei s)) ∧ (¬ bal s → gsz s.g = none)
  | .one => ⟨fun _ => rfl, fun h => absurd trivial h⟩
  | .two l r => by
    obtain ⟨l1, l2⟩ := gsz_is l
    obtain ⟨r1, r2⟩ := gsz_is r
    constructor
    · rintro ⟨a, b, c, d⟩
      simp only [Sh.g, gsz, l1 a, r1 b, wid, hei]
      rw [if_pos ⟨c, d⟩]
    · intro h
      by_cases a : bal l
      · by_cases b : bal r
        · simp only [Sh.g, gsz, l1 a, r1 b]
          exact if_neg fun z => h ⟨a, b, z.1, z.2⟩
        · simp only [Sh.g, gsz, l1 a, r2 b]
      · simp only [Sh.g, gsz, l2 a]
theorem gsz_bad : ∀ g : GS, isSh g = false → gsz g = none
  | .one, h => by cases h
  | .bad, _ => rfl
  | .two l r, h => by
    simp only [isSh, Bool.and_eq_false_iff] at h
    rcases h with h | h
    · simp only [gsz, gsz_bad l h]
    · simp only [gsz, gsz_bad r h]
      split
      · rename_i z; cases z
      · rfl
theorem gsz_some {g : GS} {a b : Nat} (h : gsz g = some (a, b)) : ∃ s, g = s.g ∧ bal s ∧ a = wid s ∧ b = hei s := by
  cases e : isSh g with
  | false => rw [gsz_bad g e] at h; cases h
  | true =>
    obtain ⟨s, rfl⟩ := sh_of g e
    by_cases c : bal s
    · rw [(gsz_is s).1 c] at h
      cases h
      exact ⟨s, rfl, c, rfl, rfl⟩
    · rw [(gsz_is s).2 c] at h; cases h
theorem wIn_bad : ∀ (g : GS) (m : Nat), isSh g = false → wIn m g = 0
  | .one, _, h => by cases h
  | .bad, m, _ => by cases m <;> rfl
  | .two l r, 0, _ => rfl
  | .two l r, m + 1, h => by
    simp only [isSh, Bool.and_eq_false_iff] at h
    simp only [wIn]
    rcases h with h | h
    · exact if_pos (.inl (wIn_bad l m h))
    · exact if_pos (.inr (.inl (wIn_bad r m h)))
end KM
namespace KM
theorem bal_L : ∀ s : Sh, bal s → L (hei s) ≤ wid s
  | .one, _ => Nat.le_refl _
  | .two l r, ⟨a, b, c, d⟩ => by
    have hl := bal_L l a
    have hr := bal_L r b
    simp only [hei, wid]
    by_cases k : hei r ≤ hei l
    · rw [Nat.max_eq_left k]
      cases e : hei l with
      | zero =>
        have := wid_pos l
        have := wid_pos r
        simp only [L]
        omega
      | succ n =>
        rw [e] at hl
        have := L_mono (show n ≤ hei r by omega)
        rw [show 1 + (n + 1) = n + 2 by omega]
        simp only [L]
        omega
    · rw [Nat.max_eq_right (by omega)]
      cases e : hei r with
      | zero => omega
      | succ n =>
        rw [e] at hr
        have := L_mono (show n ≤ hei l by omega)
        rw [show 1 + (n + 1) = n + 2 by omega]
        simp only [L]
        omega
theorem hei_20 {s : Sh} (b : bal s) (h : wid s ≤ 20000) : hei s ≤ 20 := by
  have k := bal_L s b
  by_cases c : hei s ≤ 20
  · exact c
  · have := L_mono (show 21 ≤ hei s by omega)
    rw [L_21] at this
    omega
theorem hei_tl {s : Sh} {h : Nat} (b : bal s) (t : Tl (wid s) h) : hei s ≤ h := by
  have k := bal_L s b
  by_cases c : hei s ≤ h
  · exact c
  · have := L_mono (show h + 1 ≤ hei s by omega)
    have := t.2
    omega
end KM

set_option maxHeartbeats 4000000
/-! documents: plain mathematics -/
namespace KM
/-- depths as those of a document -/
def Fo : Nat → List Nat → Prop
  | _, [] => True
  | m, d :: r => d ≤ m ∧ Fo (d + 1) r
theorem Fo.step : ∀ {m : Nat} {ds : List Nat}, Fo m ds → ∀ i, i < ds.length → ds.getD i 0 ≤ (if i = 0 then m else ds.getD (i - 1) 0 + 1)
  | _, [], _, i, h => by simp at h
  | m, d :: r, ⟨a, b⟩, 0, _ => by simpa using a
  | m, d :: r, ⟨a, b⟩, i + 1, h => by
    have k := Fo.step b i (by simpa using h)
    rw [if_neg (by omega)]
    by_cases c : i = 0
    · subst c
      simpa using k
    · rw [if_neg c] at k
      obtain ⟨j, rfl⟩ : ∃ j, i = j + 1 := ⟨i - 1, by omega⟩
      simpa using k
/-- the open nodes ahead of the i-th, from the top on -/
def pa (ds : List Nat) : Nat → List Nat
  | 0 => []
  | i + 1 => (pa ds i).take (ds.getD i 0) ++ [i]
def par (ds : List Nat) (i : Nat) : Option Nat := if ds.getD i 0 = 0 then none else (pa ds i)[ds.getD i 0 - 1]?
theorem pa_len {ds : List Nat} (h : Fo 0 ds) : ∀ i, i ≤ ds.length → (pa ds i).length = (if i = 0 then 0 else ds.getD (i - 1) 0 + 1)
  | 0, _ => rfl
  | i + 1, hi => by
    have k := pa_len h i (by omega)
    have s := h.step i (by omega)
    have r : ds.getD i 0 ≤ (pa ds i).length := by
      rw [k]
      by_cases c : i = 0
      · rw [if_pos c] at s ⊢; exact s
      · rw [if_neg c] at s ⊢; exact s
    rw [if_neg (Nat.succ_ne_zero i), Nat.add_sub_cancel]
    simp only [pa]
    rw [List.length_append, List.length_take, List.length_singleton]
    omega
theorem pa_room {ds : List Nat} (h : Fo 0 ds) {i : Nat} (hi : i < ds.length) : ds.getD i 0 ≤ (pa ds i).length := by
  have k := pa_len h i (by omega)
  have s := h.step i hi
  rw [k]
  by_cases c : i = 0
  · rw [if_pos c] at s ⊢; exact s
  · rw [if_neg c] at s ⊢; exact s
theorem pa_at {ds : List Nat} (h : Fo 0 ds) : ∀ i, i ≤ ds.length → ∀ j x, (pa ds i)[j]? = some x → x < i ∧ ds.getD x 0 = j ∧ par ds x = (if j = 0 then none else (pa ds i)[j - 1]?)
  | 0, _, j, x, e => by simp [pa] at e
  | i + 1, hi, j, x, e => by
    have room := pa_room h (i := i) (by omega)
    have lt : ((pa ds i).take (ds.getD i 0)).length = ds.getD i 0 := by rw [List.length_take]; omega
    simp only [pa] at e ⊢
    rcases Nat.lt_trichotomy j (ds.getD i 0) with c | c | c
    · rw [List.getElem?_append_left (by omega), List.getElem?_take, if_pos c] at e
      obtain ⟨a, b, d⟩ := pa_at h i (by omega) j x e
      refine ⟨by omega, b, ?_⟩
      rw [d]
      by_cases z : j = 0
      · rw [if_pos z, if_pos z]
      · rw [if_neg z, if_neg z, List.getElem?_append_left (by omega), List.getElem?_take, if_pos (by omega)]
    · subst c
      rw [List.getElem?_append_right (by omega), lt, Nat.sub_self] at e
      obtain rfl : i = x := by simpa using e
      refine ⟨by omega, rfl, ?_⟩
      unfold par
      by_cases z : ds.getD i 0 = 0
      · rw [if_pos z, if_pos z]
      · rw [if_neg z, if_neg z, List.getElem?_append_left (by omega), List.getElem?_take, if_pos (by omega)]
    · rw [List.getElem?_append_right (by omega), lt] at e
      obtain ⟨q, hq⟩ : ∃ q, j - ds.getD i 0 = q + 1 := ⟨j - ds.getD i 0 - 1, by omega⟩
      rw [hq] at e
      simp at e
theorem par_lt {ds : List Nat} (h : Fo 0 ds) {i k : Nat} (hi : i < ds.length) (e : par ds i = some k) : k < i := by
  unfold par at e
  by_cases c : ds.getD i 0 = 0
  · rw [if_pos c] at e; cases e
  · rw [if_neg c] at e
    exact (pa_at h i (by omega) _ _ e).1
/-- how many of the first n nodes have a parent -/
def cnt (ds : List Nat) : Nat → Option Nat → Nat
  | 0, _ => 0
  | n + 1, p => cnt ds n p + (if par ds n = p then 1 else 0)
theorem cnt_le (ds : List Nat) : ∀ n p, cnt ds n p ≤ n
  | 0, _ => Nat.le_refl _
  | n + 1, p => by
    have := cnt_le ds n p
    simp only [cnt]
    split <;> omega
/-- the sums on the way down -/
def suL (ds : List Nat) (T : Nat → Nat) (top : Nat) : Nat → List Nat
  | 0 => []
  | i + 1 => suL ds T top i ++ [(match par ds i with
    | none => top
    | some k => (suL ds T top i).getD k 0) + 1 + T i]
theorem suL_len (ds : List Nat) (T : Nat → Nat) (top : Nat) : ∀ i, (suL ds T top i).length = i
  | 0 => rfl
  | i + 1 => by simp only [suL, List.length_append, List.length_singleton, suL_len ds T top i]
theorem suL_top {ds : List Nat} (h : Fo 0 ds) (T : Nat → Nat) (top : Nat) : ∀ i, i ≤ ds.length → ∀ x ∈ suL ds T top i, top ≤ x
  | 0, _, x, z => by cases z
  | i + 1, hi, x, z => by
    simp only [suL, List.mem_append, List.mem_singleton] at z
    rcases z with z | z
    · exact suL_top h T top i (by omega) x z
    · cases e : par ds i with
      | none =>
        rw [e] at z
        simp only at z
        omega
      | some k =>
        rw [e] at z
        simp only at z
        have kl := par_lt h (by omega) e
        have hk : k < (suL ds T top i).length := by rw [suL_len]; exact kl
        have := suL_top h T top i (by omega) _ (List.getElem_mem hk)
        rw [List.getD_eq_getElem?_getD, List.getElem?_eq_getElem hk] at z
        simp only [Option.getD_some] at z
        omega
end KM

set_option maxHeartbeats 4000000
/-! rules that the kit lacks: enumerate of a tuple -/
namespace PySem
open Sem (wp)
theorem meets_enum1 {v : Value} {o : Obj} {G : Heap → Prop} (B : Begins v o G) : Meets (Builtin.«enumerate.__new__» ⟨[.type "enumerate", v], []⟩) fun _ R s =>
    G s.heap ∧ R (.ok (.ret (.ref (s.heap.push o).objs.size))) { s with heap := (s.heap.push o).push { cls := .type "enumerate", data := .fields #[.none, .bool false, .ref s.heap.objs.size, rawInt 0, .none, .none] } } := .of_wp fun prog w A R s h => by
  obtain ⟨hp, g, d, tk, os⟩ := s
  obtain ⟨h1, h⟩ := h
  have hsub := sub_enumerate
  have it1 : ∀ {A' : Around} {E Q : Value → Shared → Prop}, Q (.ref hp.objs.size) ⟨hp.push o, g, d, tk, os⟩ → wpAny (model prog w) A' (pyIter v) Q E ⟨hp, g, d, tk, os⟩ := fun q => B.iter prog w _ _ ⟨hp, g, d, tk, os⟩ _ h1 q
  wp_walk using it1
  refine wpAny_stack_any fun st => wpAny_pure ?_
  split
  · rename_i c _ _ _ _ _
    cases (c == Value.type "enumerate") <;> (wp_walk using it1; exact ⟨_, rfl, h⟩)
  · wp_walk using it1
    exact ⟨_, rfl, h⟩
theorem enum1_begins {prog : Program} {w : World} {A : Around} {E : Value → Shared → Prop} {s : Shared} {v : Value} {o : Obj} {G : Heap → Prop} {Q : Value → Shared → Prop} (B : Begins v o G) (h1 : G s.heap)
    (h : ∀ h', IsEnum h' (s.heap.objs.size + 1) s.heap.objs.size 0 .none → h'.get? s.heap.objs.size = some o → (∀ b o', s.heap.get? b = some o' → h'.get? b = some o') → Q (.ref (s.heap.objs.size + 1)) { s with heap := h' }) :
    wpAny (model prog w) A (call (.type "enumerate") [v]) Q E s := by
  refine callType_new F.called_enumerate (by decide) (F.typeCall_enumerate_1 _) (F.newCall_enumerate_1 _) (fun obj => F.args_object_init_2 obj _) F.entry_enumerate_new (meets_enum1 B) ⟨h1, ?_⟩
  have hz : (s.heap.push o).objs.size = s.heap.objs.size + 1 := Heap.size_push ..
  show _ ∧ _
  rw [hz]
  have he : IsEnum ((s.heap.push o).push { cls := .type "enumerate", data := .fields #[.none, .bool false, .ref s.heap.objs.size, rawInt 0, .none, .none] }) (s.heap.objs.size + 1) s.heap.objs.size 0 .none := by
    have z := Heap.get?_push_size (s.heap.push o) (o := { cls := .type "enumerate", data := .fields #[.none, .bool false, .ref s.heap.objs.size, rawInt 0, .none, .none] }) rfl
    rwa [hz] at z
  exact ⟨⟨_, he, rfl⟩, h _ he (Heap.get?_push_of_some _ (Heap.get?_push_size _ B.free)) fun b o' x => Heap.get?_push_of_some _ (Heap.get?_push_of_some _ x)⟩
end PySem
namespace KB
open PySem PySem.Spec PyProof.Rows L2
/-- the tuple at a, of n items, each item in a new pair -/
def IteT (K : PySem.W.Frag) (a : Addr) (n : Nat) : It :=
  ⟨fun i H => ∃ (xs : List V) (x : V), SqT K H a xs ∧ xs.length = n ∧ xs[i]? = some x,
   fun i H v H' => ∃ T x, v = .ref T ∧ H T = none ∧ H' = L2.upd H T (.tup [.int (i : Nat), x]) ∧ ∀ xs, SqT K H a xs → xs[i]? = some x,
   fun i H => ∃ xs : List V, SqT K H a xs ∧ xs.length = n ∧ n ≤ i⟩
theorem tup_apart {h : Heap} {e it a : Addr} {items : Array Value} {i j : Nat} {old : Value} (he : IsEnum h e it (j : Int) old) (hi : h.IsTupleIter it a i) (ht : h.IsTuple a items) : a ≠ it ∧ e ≠ a := by
  obtain ⟨o1, q1, c1, _⟩ := hi
  obtain ⟨o2, q2, c2, _⟩ := ht
  refine ⟨fun z => ?_, fun z => ?_⟩
  · rw [z, q1] at q2
    cases q2
    rw [c1] at c2
    injection c2 with z
    exact absurd z (by decide)
  · rw [← z] at q2
    have q3 : h.get? e = _ := he
    rw [q2] at q3
    cases q3
    injection c2 with z
    exact absurd z (by decide)
theorem turn_enumT {P : Program} {w : World} {K : PySem.W.Frag} {elts : List Expr} {kk n : Nat} {tpos : Pos} (a e it : Addr) :
    Turn P w K (.Tuple elts kk tpos) (IteT K a n) [e, it] e (fun i h => i ≤ n ∧ (∃ old, IsEnum h e it ((i : Nat) : Int) old) ∧ h.IsTupleIter it a i ∧ e ≠ it) where
  mem := by simp
  obj := fun i h st b hb => by
    obtain ⟨_, ⟨old, he⟩, ⟨o, ho, hc, hd⟩, _⟩ := st
    rcases List.mem_cons.mp hb with z | z
    · rw [z]
      exact ⟨_, he, fun v q => nomatch q⟩
    · rw [List.mem_singleton.mp z]
      exact ⟨o, ho, fun v q => by rw [hd] at q; cases q⟩
  keep := fun i h h' st k => by
    obtain ⟨hn, ⟨old, he⟩, hi, hne⟩ := st
    exact ⟨hn, ⟨old, k e (by simp) _ he⟩, hi.at fun o q => k it (by simp) o q, hne⟩
  item := by
    intro X hP hw hK hc i pins s σ H E I hf st hg
    subst hP hw hK
    obtain ⟨hin, ⟨old, he⟩, hit, hne⟩ := st
    obtain ⟨xs, x, hq, hlen, hx⟩ := hg
    obtain ⟨its, rv, p, hz⟩ := I.tuple hq
    obtain ⟨u, hu, ru⟩ := rv.get hx
    have p' : s.heap.IsTuple a its.toArray := p
    obtain ⟨n1, n2⟩ := tup_apart he hit p'
    have hh : X.A.in1.handled = none := I.ok.hd hc
    have hel : e < s.heap.objs.size := Heap.lt_size he
    have hil : it < s.heap.objs.size := by
      obtain ⟨_, q, _⟩ := hit
      exact Heap.lt_size q
    have hlt : i < its.toArray.size := by
      have := (List.getElem?_eq_some_iff.mp hu).1
      simpa using this
    refine wpAny_pyNext_enum_itemD (Draws.tuple hh it a n1 its.toArray) he ⟨hit, p'⟩ hlt hne (by simp [hne, n2]) fun y h' tk hy ho hst hT hsz hk => ?_
    have ey : y = u := by
      have hy' : its.toArray[i]? = some y := hy
      rw [List.getElem?_toArray, hu] at hy'
      exact (Option.some.inj hy').symm
    subst ey
    refine ⟨_, rfl, wpAny_letOwnedTupleGo_enum (s := { s with heap := h', toks := tk + 1 }) ho fun h'' he' sb => ?_⟩
    have hT2 : h''.get? s.heap.objs.size = some { cls := .type "tuple", data := .seq #[.int i tk, y] } := (sb.2 _ (Nat.ne_of_gt hel)).trans hT
    have new : ObjOk X.prog X.w (L2.upd H s.heap.objs.size (.tup [.int (i : Nat), x])) h'' s.heap.objs.size (.tup [.int (i : Nat), x]) :=
      ⟨by show 2 ≤ sizeLine; decide, [.int i tk, y], .cons ⟨_, rfl⟩ (.cons ru .nil), ⟨_, hT2, rfl, _, rfl⟩⟩
    have I1 : Inv X pins σ (L2.upd H s.heap.objs.size (.tup [.int (i : Nat), x])) { s with heap := h'', toks := tk + 1 } :=
      I.turnedNew (ch := [e, it]) (fun b ob hb q => (sb.2 b (fun z => hb (by simp [z]))).trans (hk b ob (fun z => hb (by simp [z])) (fun z => hb (by simp [z])) q)) hf (Nat.le_refl _) new
    have hlx := rv.length
    refine ⟨.ref s.heap.objs.size, _, I1, rfl, ⟨_, x, rfl, I.hok.fresh (Nat.le_refl _), rfl, fun ys hy => by rw [I.tuple_inj hy hq]; exact hx⟩, ⟨?_, ⟨y, ?_⟩, ?_, hne⟩, fun b hb => ?_⟩
    · rw [List.size_toArray] at hlt
      omega
    · have e1 : ((i + 1 : Nat) : Int) = (i : Int) + 1 := by omega
      rw [e1]
      exact he'
    · exact hst.1.at fun o q => (sb.2 it (Ne.symm hne)).trans q
    · have hb' : b < s.heap.objs.size := by
        rcases List.mem_cons.mp hb with z | z
        · rw [z]; exact hel
        · rw [List.mem_singleton.mp z]; exact hil
      rw [upd_ne (Nat.ne_of_lt hb')]
      exact (hf b hb).1
  done := by
    intro X hP hw hK hc i pins s σ H E I hf st hg
    subst hP hw hK
    obtain ⟨hin, ⟨old, he⟩, hit, hne⟩ := st
    obtain ⟨xs, hq, hlen, hx⟩ := hg
    obtain ⟨its, rv, p, hz⟩ := I.tuple hq
    have p' : s.heap.IsTuple a its.toArray := p
    obtain ⟨n1, n2⟩ := tup_apart he hit p'
    have hh : X.A.in1.handled = none := I.ok.hd hc
    obtain ⟨f0, f1, f2, f3, f4, f5⟩ := hf it (by simp)
    have hl := rv.length
    have ei : i = its.toArray.size := by rw [List.size_toArray]; omega
    have st2 : s.heap.IsTupleIter it a its.toArray.size ∧ s.heap.IsTuple a its.toArray := ⟨by rw [← ei]; exact hit, p'⟩
    exact wpAny_pyNext_enum_endD (Draws.tuple hh it a n1 its.toArray) he st2 fun h' eb => ⟨rfl, I.turned (t' := s.toks) (fun b o hb q => eb b o hb q) f0 f1 f3 f4 f5⟩
  self := fun A i s Q E st h => let ⟨_, ⟨_, he⟩, _⟩ := st; wpAny_pyIter_enum he h
def iEnumT (K : PySem.W.Frag) (ta : TA) : TI := fun σ H R => ta σ H fun vs H1 => ∃ a xs, vs = [.ref a] ∧ SqT K H1 a xs ∧ R (IteT K a xs.length) H1
theorem pi_enumT {X : Cx} {e : Expr} {ta : TA} {p pos tpos : Pos} {elts : List Expr} {kk : Nat} (hg : Gl X "enumerate") (hm : X.mg "enumerate" = none) (ha : PA X [e] ta)
    (hs : starEach [e] X.env = [(false, eval e X.env)] := by rfl) : PI X (.Tuple elts kk tpos) (.Call (.Name "enumerate" p) [e] [] pos) (iEnumT X.K ta) := by
  refine ⟨fun pins s σ H R I h => ?_⟩
  refine Call_ (ld_blt I hg hm boot_enumerate (PyProof.Rows.callWith_type1 (thn (ha.run pos pins s σ H _ I h) fun us s1 ⟨vs, H1, I1, r1, q1⟩ => ?_) hs rfl))
  obtain ⟨a, xs, ex, hq, q⟩ := q1
  subst ex
  cases r1 with
  | cons r rr =>
    cases rr
    cases r
    obtain ⟨its, rv, p', hz⟩ := I1.tuple hq
    refine enum1_begins (begins_tuple a its.toArray) p' fun h' he hit hk => wpAny_pyIter_enum he ?_
    have I2 : Inv X pins σ H1 { s1 with heap := h' } := I1.kept (t' := s1.toks) hk
    refine ⟨s1.heap.objs.size + 1, [s1.heap.objs.size + 1, s1.heap.objs.size], _, _, H1, rfl, I2, turn_enumT a (s1.heap.objs.size + 1) s1.heap.objs.size, ⟨Nat.zero_le _, ⟨.none, he⟩, ⟨_, hit, rfl, rfl⟩, Nat.succ_ne_self _⟩, fun b hb => ?_, q⟩
    have hle : s1.heap.objs.size ≤ b := by
      rcases List.mem_cons.mp hb with z | z
      · rw [z]; exact Nat.le_add_right _ _
      · rw [List.mem_singleton.mp z]; exact Nat.le_refl _
    exact I1.fpOk hle (I1.hok.fresh hle)
theorem i_enumT {K : PySem.W.Frag} {ta : TA} {σ : L2.St} {H : Hp} {R : It → Hp → Prop} (q : ta σ H fun vs H1 => ∃ a xs, vs = [.ref a] ∧ SqT K H1 a xs ∧ R (IteT K a xs.length) H1) : iEnumT K ta σ H R := q
/-- the turns of for i, x in enumerate(a tuple) -/
theorem for_enumT {K : PySem.W.Frag} {a : Addr} {xs : List V} {g : TG} {tb : TS} {D : Ends} {σ : L2.St} {H : Hp} (Pv : Nat → L2.St → Hp → Prop) (h0 : Pv 0 σ H) (hl : ∀ i s h, i ≤ xs.length → Pv i s h → SqT K h a xs)
    (hs : ∀ i x s h T, xs[i]? = some x → Pv i s h → h T = none → g (.ref T) s (L2.upd h T (.tup [.int (i : Nat), x])) fun s2 h2 => tb { D with nx := Pv (i + 1), ct := Pv (i + 1), bk := D.nx } s2 h2) (hd : ∀ s h, Pv xs.length s h → D.nx s h) :
    ∃ W : Nat → Nat → L2.St → Hp → Prop, (∃ m, W 0 m σ H) ∧ ∀ i m s h, W i m s h → ((IteT K a xs.length).stop i h ∧ D.nx s h) ∨ ((IteT K a xs.length).go i h ∧ ∃ N : L2.St → Hp → Prop, (∀ s' h', N s' h' → ∃ m', m' < m ∧ W (i + 1) m' s' h') ∧
      ∀ x h', (IteT K a xs.length).yld i h x h' → g x s h' fun s2 h2 => tb { D with nx := N, ct := N, bk := D.nx } s2 h2) := by
  refine ⟨fun i m s h => m = xs.length - i ∧ i ≤ xs.length ∧ Pv i s h, ⟨xs.length, by simp, Nat.zero_le _, h0⟩, ?_⟩
  rintro i m s h ⟨rfl, hi, p⟩
  have q := hl i s h hi p
  by_cases hlt : i < xs.length
  · refine .inr ⟨⟨xs, xs[i], q, rfl, by simp [hlt]⟩, Pv (i + 1), fun s' h' p' => ⟨xs.length - (i + 1), by omega, rfl, hlt, p'⟩, fun x h' y => ?_⟩
    obtain ⟨T, x', rfl, hT, rfl, y⟩ := y
    exact hs i x' s h T (y xs q) p hT
  · have e : i = xs.length := by omega
    subst e
    exact .inl ⟨⟨xs, q, rfl, Nat.le_refl _⟩, hd s h p⟩
end KB
namespace KB
open PySem PySem.Spec PyProof.Rows L2
/-! max(a list of ints, default=d) -/
def rMaxDef (K : PySem.W.Frag) : List V → List V → Hp → VK → Prop := fun vs ws H Q => ∃ (a : Addr) (ns : List Int) (d : Int), vs = [.ref a] ∧ ws = [.int d] ∧ SqL K H a (ns.map V.int) ∧ (ns = [] → Q (.int d) H) ∧ (ns ≠ [] → ∀ m, m ∈ ns → (∀ y ∈ ns, y ≤ m) → Q (.int m) H)
theorem vals_at {ns : List Int} {us : List Value} (h : Vals (ns.map V.int) us) (i : Nat) (v : Value) (e : us[i]? = some v) : i < ns.length ∧ ∃ t, v = .int (ns.getD i 0) t := by
  induction ns generalizing us i with
  | nil =>
    rw [List.map_nil] at h
    cases h
    cases e
  | cons n ns ih =>
    rw [List.map_cons] at h
    cases h with
    | cons r t =>
      cases i with
      | zero =>
        obtain ⟨k, rfl⟩ := r
        cases e
        exact ⟨by simp, k, rfl⟩
      | succ i =>
        obtain ⟨h1, h2⟩ := ih t i e
        exact ⟨by simp only [List.length_cons]; omega, h2⟩
theorem cr_maxDef {X : Cx} (hc : X.calm = true) : CallRK X (.builtin "max") [Str.ofString "default"] (rMaxDef X.K) := by
  intro pins s σ H vs zs us ws Q I r rz h
  obtain ⟨a, ns, d, rfl, rfl, hs, q0, q1⟩ := h
  obtain rfl := Vals.ref1 r
  obtain ⟨w1, rfl, e1⟩ := vals1 rz
  obtain ⟨t1, rfl⟩ := e1
  obtain ⟨its, rv, hl, hz⟩ := I.list hs
  have hlen : ns.length = its.length := by have := rv.length; rwa [List.length_map] at this
  have hh : X.A.in1.handled = none := I.ok.hd hc
  show wpAny _ _ (call (.builtin "max") [.ref a] [(Str.ofString "default", .int d t1)]) _ _ _
  have pv : ∀ (i : Nat) (v : Value), its.toArray[i]? = some v → ∃ t, v = Value.int (ns.getD i 0) t := fun i v e => (vals_at rv i v (by rwa [List.getElem?_toArray] at e)).2
  refine call_max_walkD (PySem.W.iter_listW (A := X.A.in1) hh hl.isList fun s2 e W st hfp hw hk => ?_)
  refine ⟨_, _, _, _, _, _, _, s.heap, fun i j => decide (ns.getD i 0 > ns.getD j 0), rfl, W, st, hfp, hw, hk, fun hz s' m => ?_, fun hp => ⟨fun i j vi vj s Q E _ hi hj h => CmpOf.ints_gt (fun i => ns.getD i 0) pv i j vi vj s Q E hi hj h, fun v s' hP m => ?_⟩⟩
  · obtain ⟨h', tk, rfl, hk'⟩ := PySem.W.moved_old e rfl m
    have en : ns = [] := List.eq_nil_of_length_eq_zero (by rw [hlen]; simpa using hz)
    exact ⟨.int d, H, I.kept (t' := tk) hk', ⟨t1, rfl⟩, q0 en⟩
  · obtain ⟨h', tk, rfl, hk'⟩ := PySem.W.moved_old e rfl m
    have hP' : its.toArray[argBest (fun i j => decide (ns.getD i 0 > ns.getD j 0)) (its.toArray.size - 1)]? = some v := hP
    rw [List.getElem?_toArray] at hP'
    obtain ⟨hb, t, rfl⟩ := vals_at rv _ _ hP'
    obtain ⟨b1, b2⟩ := argBest_gt (fun i => ns.getD i 0) (its.toArray.size - 1)
    refine ⟨.int _, H, I.kept (t' := tk) hk', ⟨t, rfl⟩, q1 ?_ _ ?_ fun y hy => ?_⟩
    · intro z
      rw [z] at hb
      cases hb
    · rw [List.getD_eq_getElem?_getD, List.getElem?_eq_getElem hb]
      exact List.getElem_mem hb
    · obtain ⟨j, hj, rfl⟩ := List.mem_iff_getElem.mp hy
      have := b2 j (by rw [List.size_toArray]; omega)
      rw [List.getD_eq_getElem?_getD, List.getElem?_eq_getElem hj] at this
      exact this
theorem i_kw {r : List V → List V → Hp → VK → Prop} {t tk : TA} {σ : L2.St} {H : Hp} {Q : VK} (q : t σ H fun vs H1 => tk σ H1 fun zs H2 => r vs zs H2 Q) : tCKw r t tk σ H Q := q
end KB

set_option maxHeartbeats 4000000
namespace KB
open PySem PySem.Spec PyProof.Rows L2
/-! dicts that have None among their keys -/
def kN : Option Key → V
  | none => .non
  | some k => kV k
theorem kN_is {P : Program} {w : World} {k : Option Key} {u : Value} (r : RelV (kN k) u) : (noneKind P w).is k u = true := by
  cases k with
  | none =>
    obtain rfl : u = Value.none := r
    rfl
  | some k => exact kV_is (P := P) (w := w) r
/-- a dict with such keys -/
def DNo (P : Program) (w : World) (a : Addr) (kvs : List (Option Key × V)) : HO :=
  .ext fun h => kvs.length ≤ sizeLine ∧ (a == sysModules) = false ∧ ∃ vs, KV kvs vs ∧ h.DictOf (noneKind P w) a vs
theorem dno_new {P : Program} {w : World} {H : Hp} {h : Heap} {a : Addr} {kvs : List (Option Key × V)} {vs : List (Option Key × Value)} (z : kvs.length ≤ sizeLine) (hd : (a == sysModules) = false) (rel : KV kvs vs)
    (dd : h.DictOf (noneKind P w) a vs) : ObjOk P w H h a (DNo P w a kvs) := by
  refine ⟨⟨z, hd, vs, rel, dd⟩, ?_, fun h1 h2 x k => ?_⟩
  · obtain ⟨o, _, _, e, _⟩ := dd
    exact ⟨o, e⟩
  · obtain ⟨z, hd, vs, rel, o, es, ep, e, r⟩ := x
    exact ⟨z, hd, vs, rel, o, es, ep, k _ e, r⟩
def HasN (P : Program) (w : World) (H : Hp) (a : Addr) (kvs : List (Option Key × V)) : Prop := H a = some (DNo P w a kvs) ∨ (kvs = [] ∧ H a = some (.dK []))
section
variable {X : Cx} {pins : List (Addr × Obj)} {s : Shared} {σ : L2.St} {H : Hp} {a : Addr} {kvs : List (Option Key × V)} {A : Around} {E : Value → Shared → Prop}
theorem HasN.rd (g : HasN X.prog X.w H a kvs) (I : Inv X pins σ H s) : kvs.length ≤ sizeLine ∧ (a == sysModules) = false ∧ ∃ vs, KV kvs vs ∧ s.heap.DictOf (noneKind X.prog X.w) a vs := by
  rcases g with g | ⟨rfl, g⟩
  · obtain ⟨x, _⟩ := I.hok a _ g
    exact x
  · obtain ⟨z, hd, vs, rel, dd⟩ := I.hok a _ g
    cases rel
    refine ⟨z, hd, [], .nil, ?_⟩
    obtain ⟨o, es, ep, ho, hx, hdt, hk, hp, hn⟩ := dd
    have he : es = #[] := by
      cases hq : es.toList with
      | nil => exact Array.toList_eq_nil_iff.mp hq
      | cons e r =>
        rw [hq] at hp
        cases hp
    subst he
    exact ⟨o, #[], ep, ho, hx, hdt, fun e he => by simp at he, .nil, List.nodup_nil⟩
theorem HasN.mut (g : HasN X.prog X.w H a kvs) : Mut (H a) := by
  rcases g with g | ⟨_, g⟩ <;> (rw [g]; exact True.intro)
theorem n_put {k : Option Key} {u r : Value} {v : V} {Q : Unit → Shared → Prop} (I : Inv X pins σ H s) (g : HasN X.prog X.w H a kvs) (hl : kvs.length < sizeLine) (ry : RelV (kN k) u) (rv : RelV v r)
    (h : ∀ s', Inv X pins σ (L2.upd H a (DNo X.prog X.w a (putK kvs k v))) s' → Q () s') : wpAny (model X.prog X.w) A (setItem (.ref a) u r) Q E s := by
  obtain ⟨z, hd, vs, rel, dd⟩ := g.rd I
  refine wpAny_setItem_pairs (hsz := by rw [← rel.length]; exact z) (kN_is ry) dd fun h' dd' hs => h _ ?_
  have hp : (putK kvs k v).length ≤ sizeLine := by
    have := length_putK kvs k v
    omega
  obtain ⟨q, hq⟩ : ∃ q, h'.get? a = some q := by
    obtain ⟨q, _, _, hq, _⟩ := dd'
    exact ⟨q, hq⟩
  exact d_write I g.mut hs ⟨q, hq⟩ (dno_new hp hd (rel.put k rv) dd')
theorem n_get {k : Option Key} {u : Value} {v : V} {Q : Value → Shared → Prop} (I : Inv X pins σ H s) (g : HasN X.prog X.w H a kvs) (l : valV kvs k = some v) (ry : RelV (kN k) u) (h : ∀ w' s', Inv X pins σ H s' → RelV v w' → Q w' s') :
    wpAny (model X.prog X.w) A (getItem (.ref a) u) Q E s := by
  obtain ⟨z, hd, vs, rel, dd⟩ := g.rd I
  obtain ⟨w', hw, rw'⟩ := RelO.some_of (v := v) (o := valueAt vs k) (by rw [← l]; exact rel.val k)
  exact wpAny_getItem_of (kN_is ry) dd.mapOf hw (h w' _ (I.tok _) rw')
theorem n_in {k : Option Key} {u : Value} {Q : Value → Shared → Prop} (I : Inv X pins σ H s) (g : HasN X.prog X.w H a kvs) (ry : RelV (kN k) u) (h : ∀ s', Inv X pins σ H s' → Q (.bool (valV kvs k).isSome) s') :
    wpAny (model X.prog X.w) A (compareOp .In u (.ref a)) Q E s := by
  obtain ⟨z, hd, vs, rel, dd⟩ := g.rd I
  refine wpAny_in_of (kN_is ry) hd dd.mapOf ?_
  have q := h _ (I.tok (s.toks + 1))
  rwa [(rel.val k).isSome_eq] at q
theorem n_get2 {k : Option Key} {u r : Value} {d : V} {Q : Value → Shared → Prop} (I : Inv X pins σ H s) (g : HasN X.prog X.w H a kvs) (ry : RelV (kN k) u) (rd : RelV d r)
    (h : ∀ w' s', Inv X pins σ H s' → RelV ((valV kvs k).getD d) w' → Q w' s') : wpAny (model X.prog X.w) A (call (.builtin "dict.get") [.ref a, u, r]) Q E s := by
  obtain ⟨z, hd, vs, rel, dd⟩ := g.rd I
  refine call_meetsIn PySem.F.slot_dict_get dd.typeIs PySem.F.entry_dict_get (PySem.F.args_dict_get_3 _ _ _)
    (meets_dict_get_default (noneKind X.prog X.w) a (kN_is ry) hd r) ⟨_, dd.mapOf, ?_⟩
  exact h _ _ (I.tok _) ((rel.val k).getD rd)
end
def tNGet (P : Program) (w : World) (td ty : TE) : TE := fun σ H Q => td σ H fun x H1 => ty σ H1 fun y H2 => ∃ a kvs k v, x = .ref a ∧ HasN P w H2 a kvs ∧ y = kN k ∧ valV kvs k = some v ∧ Q v H2
def tNGet2 (P : Program) (w : World) (td ty tx : TE) : TE := fun σ H Q => td σ H fun x H1 => ∃ a, x = .ref a ∧ (∃ kvs, HasN P w H1 a kvs) ∧ ty σ H1 fun y H2 => tx σ H2 fun z H3 => ∃ kvs k, HasN P w H3 a kvs ∧ y = kN k ∧ Q ((valV kvs k).getD z) H3
def tNIn (P : Program) (w : World) (ty td : TE) : TE := fun σ H Q => ty σ H fun y H1 => td σ H1 fun x H2 => ∃ a kvs k, x = .ref a ∧ HasN P w H2 a kvs ∧ y = kN k ∧ Q (.bl (valV kvs k).isSome) H2
def sNPut (P : Program) (w : World) (td ty tv : TE) : TS := fun D σ H => tv σ H fun v H1 => td σ H1 fun x H2 => ty σ H2 fun y H3 => ∃ a kvs k, x = .ref a ∧ HasN P w H3 a kvs ∧ y = kN k ∧ kvs.length < sizeLine ∧ D.nx σ (L2.upd H3 a (DNo P w a (putK kvs k v)))
section
variable {X : Cx} {o i e f value : Expr} {td ty tv tx : TE} {pos pos' apos cpos : Pos}
theorem pe_nget (ho : PE X o td) (hi : PE X i ty) (hs : NoSl i) : PE X (.Subscript o i pos) (tNGet X.prog X.w td ty) := by
  refine ⟨fun pins s σ H Q I h => subD_of PySem.F.slot_dict_getitem.lookup hs (thn (ho.run pins s σ H _ I h) fun u s1 ⟨x, H1, I1, rx, q1⟩ => thn (hi.run pins s1 σ H1 _ I1 q1) fun iv s2 ⟨y, H2, I2, ry, a, kvs, k, v, ex, g, ey, l, q2⟩ => ?_)⟩
  subst ex
  subst ey
  obtain rfl : u = Value.ref a := rx
  obtain ⟨z, hd, vs, rel, dd⟩ := g.rd I2
  exact ⟨dd.typeIs, n_get I2 g l ry fun w' s3 I3 rw' => ⟨v, H2, I3, rw', q2⟩⟩
theorem ps_nput (ho : PE X o td) (hi : PE X i ty) (hv : PE X value tv) (hs : swapsWith value (some (.Subscript o i pos')) pos.line X.env = pure false) :
    PS X (.Assign [.Subscript o i pos'] value pos) (sNPut X.prog X.w td ty tv) := by
  refine ⟨fun pins s σ H D I h => wpAny_Assign_Subscript (thn (hv.run pins s σ H _ I h) fun r s1 ⟨v, H1, I1, rv, q1⟩ => thn (ho.run pins s1 σ H1 _ I1 q1) fun u s2 ⟨x, H2, I2, rx, q2⟩ =>
    thn (hi.run pins s2 σ H2 _ I2 q2) fun iv s3 ⟨y, H3, I3, ry, a, kvs, k, ex, g, ey, l, q3⟩ => ?_) hs⟩
  subst ex
  subst ey
  obtain rfl : u = Value.ref a := rx
  exact n_put I3 g l ry rv fun s4 I4 => ⟨σ, _, I4, q3⟩
theorem pc_nin (hi : PE X i ty) (ho : PE X o td) : PC X .In i o (tNIn X.prog X.w ty td) := by
  refine ⟨fun pins s σ H Q I h => ?_⟩
  refine thn (hi.run pins s σ H _ I h) fun iv s1 ⟨y, H1, I1, ry, q1⟩ => thn (ho.run pins s1 σ H1 _ I1 q1) fun u s2 ⟨x, H2, I2, rx, a, kvs, k, ex, g, ey, q2⟩ => ?_
  subst ex
  subst ey
  obtain rfl : u = Value.ref a := rx
  exact n_in I2 g ry fun s3 I3 => ⟨.bl _, H2, I3, rfl, q2⟩
theorem pe_nget2 (ho : PE X o td) (he : PE X e ty) (hf : PE X f tx) (m : M2 X o "get" apos e f cpos) : PE X (.Call (.Attribute o "get" apos) [e, f] [] cpos) (tNGet2 X.prog X.w td ty tx) := by
  refine ⟨fun pins s σ H Q I h => wpAny_Call_method m.base m.few m.line PySem.F.plainAttrs_dict PySem.F.slot_dict_get PySem.F.type_dict_get (thn (ho.run pins s σ H _ I h) fun u s1 ⟨x, H1, I1, rx, a, ex, ⟨kv0, g0⟩, q1⟩ => ?_)⟩
  subst ex
  obtain rfl : u = Value.ref a := rx
  obtain ⟨_, _, _, _, dd⟩ := g0.rd I1
  refine ⟨dd.typeIs, dd.mapOf.noDict, ?_⟩
  rw [m.trees]
  refine Calls.callWith_builtin rfl (Calls.evalArgs_plain (Calls.spliced_cons (thn (he.run pins s1 σ H1 _ I1 q1) fun iv s2 ⟨y, H2, I2, ry, q2⟩ => Calls.spliced_cons
    (thn (hf.run pins s2 σ H2 _ I2 q2) fun fv s3 ⟨z, H3, I3, rz, kvs, k, g, ey, q3⟩ => Calls.spliced_nil ?_))))
  subst ey
  exact n_get2 I3 g ry rz fun w' s4 I4 rw' => ⟨_, H3, I4, rw', q3⟩
end
end KB

set_option maxHeartbeats 4000000
/-! the data layer: slots as data, no heap in sight. Own work over the hand layer. -/
namespace KD
open PySem PySem.Spec PyProof.Rows L2 KB

/-- data; dicts by ints and texts, by tuples of them, by these and None -/
inductive D where
  | non | bl (b : Bool) | int (i : Int) | str (s : Str)
  | tup (l : List D) | lst (l : List D) | ro (l : List D) | dk (m : List (Key × D)) | dt (m : List (List Key × D)) | dn (m : List (Option Key × D)) | tyN (n : String) | ob (C : Addr) (fs : List (Str × D))
/-- what a text's run stands on -/
structure Gb where
  P : Program
  w : World
  K : PySem.W.Frag
def kD : Key → D
  | .inl i => .int i
  | .inr x => .str x
def kO : Option Key → D
  | none => .non
  | some k => kD k
mutual
/-- v is the data d, all of it in F -/
inductive Dp (g : Gb) (F : Hp) : V → D → Prop where
  | non : Dp g F .non .non
  | bl (b : Bool) : Dp g F (.bl b) (.bl b)
  | int (i : Int) : Dp g F (.int i) (.int i)
  | str (s : Str) : Dp g F (.str s) (.str s)
  | tyN (n : String) : Dp g F (.ty n) (.tyN n)
  | tup {a : Addr} {vs : List V} {ds : List D} : SqT g.K F a vs → DpL g F vs ds → Dp g F (.ref a) (.tup ds)
  | lst {a : Addr} {vs : List V} {ds : List D} : F a = some (.lst vs) → DpL g F vs ds → Dp g F (.ref a) (.lst ds)
  | ro {a : Addr} {vs : List V} {ds : List D} : SqL g.K F a vs → DpL g F vs ds → Dp g F (.ref a) (.ro ds)
  | dk {a : Addr} {kvs : List (Key × V)} {m : List (Key × D)} : F a = some (.dK kvs) → kvs.map (·.1) = m.map (·.1) → DpL g F (kvs.map (·.2)) (m.map (·.2)) → Dp g F (.ref a) (.dk m)
  | dt {a : Addr} {kvs : List (List Key × V)} {m : List (List Key × D)} : F a = some (.dT kvs) → kvs.map (·.1) = m.map (·.1) → DpL g F (kvs.map (·.2)) (m.map (·.2)) → Dp g F (.ref a) (.dt m)
  | dn {a : Addr} {kvs : List (Option Key × V)} {m : List (Option Key × D)} : HasN g.P g.w F a kvs → kvs.map (·.1) = m.map (·.1) → DpL g F (kvs.map (·.2)) (m.map (·.2)) → Dp g F (.ref a) (.dn m)
  | ob {a C dx : Addr} {fv : List (Str × V)} {fs : List (Str × D)} : F a = some (.ins C dx fv) → fv.map (·.1) = fs.map (·.1) → DpL g F (fv.map (·.2)) (fs.map (·.2)) → Dp g F (.ref a) (.ob C fs)
inductive DpL (g : Gb) (F : Hp) : List V → List D → Prop where
  | nil : DpL g F [] []
  | cons {v : V} {d : D} {vs : List V} {ds : List D} : Dp g F v d → DpL g F vs ds → DpL g F (v :: vs) (d :: ds)
end
theorem sqT_mono {K : PySem.W.Frag} {H H' : Hp} {a : Addr} {xs : List V} (e : Same H H') (h : SqT K H a xs) : SqT K H' a xs := by
  rcases h with (h | ⟨o, h⟩) | h
  · exact .inl (.inl (e _ _ h))
  · exact .inl (.inr ⟨o, e _ _ h⟩)
  · exact .inr h
section
variable {g : Gb} {F F' H H' : Hp}
mutual
theorem Dp.mono {v : V} {d : D} (s : Same F F') : Dp g F v d → Dp g F' v d
  | .non => .non
  | .bl b => .bl b
  | .int i => .int i
  | .str x => .str x
  | .tyN n => .tyN n
  | .tup h l => .tup (sqT_mono s h) (DpL.mono s l)
  | .lst h l => .lst (s _ _ h) (DpL.mono s l)
  | .ro h l => .ro (s.seq h) (DpL.mono s l)
  | .dk h e l => .dk (s _ _ h) e (DpL.mono s l)
  | .dt h e l => .dt (s _ _ h) e (DpL.mono s l)
  | .dn h e l => .dn (h.imp (fun q => s _ _ q) fun q => ⟨q.1, s _ _ q.2⟩) e (DpL.mono s l)
  | .ob h e l => .ob (s _ _ h) e (DpL.mono s l)
theorem DpL.mono {vs : List V} {ds : List D} (s : Same F F') : DpL g F vs ds → DpL g F' vs ds
  | .nil => .nil
  | .cons h t => .cons (Dp.mono s h) (DpL.mono s t)
end
theorem DpL.length : ∀ {vs : List V} {ds : List D}, DpL g F vs ds → vs.length = ds.length
  | _, _, .nil => rfl
  | _, _, .cons _ t => by simp only [List.length_cons, DpL.length t]
theorem DpL.append : ∀ {vs ws : List V} {ds es : List D}, DpL g F vs ds → DpL g F ws es → DpL g F (vs ++ ws) (ds ++ es)
  | _, _, _, _, .nil, h => h
  | _, _, _, _, .cons a t, h => .cons a (DpL.append t h)
theorem DpL.get : ∀ {vs : List V} {ds : List D} {i : Nat} {d : D}, DpL g F vs ds → ds[i]? = some d → ∃ v, vs[i]? = some v ∧ Dp g F v d
  | _, _, _, _, .nil, e => by simp at e
  | _, _, 0, _, .cons a _, e => by
    simp only [List.length_cons, Nat.zero_lt_succ, List.getElem?_eq_getElem, List.getElem_cons_zero, Option.some.injEq] at e
    subst e
    exact ⟨_, rfl, a⟩
  | _, _, i + 1, d, .cons _ t, e => by
    obtain ⟨v, h1, h2⟩ := DpL.get (i := i) (d := d) t (by simpa using e)
    exact ⟨v, by simpa using h1, h2⟩
theorem DpL.getv : ∀ {vs : List V} {ds : List D} {i : Nat} {v : V}, DpL g F vs ds → vs[i]? = some v → ∃ d, ds[i]? = some d ∧ Dp g F v d
  | _, _, _, _, .nil, e => by simp at e
  | _, _, 0, _, .cons a _, e => by
    simp only [List.length_cons, Nat.zero_lt_succ, List.getElem?_eq_getElem, List.getElem_cons_zero, Option.some.injEq] at e
    subst e
    exact ⟨_, rfl, a⟩
  | _, _, i + 1, v, .cons _ t, e => by
    obtain ⟨d, h1, h2⟩ := DpL.getv (i := i) (v := v) t (by simpa using e)
    exact ⟨d, by simpa using h1, h2⟩
theorem DpL.set : ∀ {vs : List V} {ds : List D} {v : V} {d : D} (i : Nat), DpL g F vs ds → Dp g F v d → DpL g F (vs.set i v) (ds.set i d)
  | _, _, _, _, _, .nil, _ => .nil
  | _, _, _, _, 0, .cons _ t, h => .cons h t
  | _, _, _, _, i + 1, .cons a t, h => .cons a (DpL.set i t h)
theorem DpL.take : ∀ {vs : List V} {ds : List D} (n : Nat), DpL g F vs ds → DpL g F (vs.take n) (ds.take n)
  | _, _, 0, _ => .nil
  | _, _, _ + 1, .nil => .nil
  | _, _, n + 1, .cons a t => .cons a (DpL.take n t)
theorem DpL.drop : ∀ {vs : List V} {ds : List D} (n : Nat), DpL g F vs ds → DpL g F (vs.drop n) (ds.drop n)
  | _, _, 0, h => h
  | _, _, _ + 1, .nil => .nil
  | _, _, n + 1, .cons _ t => DpL.drop n t
theorem DpL.reverse : ∀ {vs : List V} {ds : List D}, DpL g F vs ds → DpL g F vs.reverse ds.reverse
  | _, _, .nil => .nil
  | _, _, .cons a t => by
    rw [List.reverse_cons, List.reverse_cons]
    exact (DpL.reverse t).append (.cons a .nil)
end
theorem hasN_mono {P : Program} {w : World} {H H' : Hp} {a : Addr} {kvs : List (Option Key × V)} (h : HasN P w H a kvs) (k : H' a = H a) : HasN P w H' a kvs := h.imp (fun q => k.trans q) fun q => ⟨q.1, k.trans q.2⟩
theorem hasN_has {P : Program} {w : World} {H : Hp} {a : Addr} {kvs : List (Option Key × V)} (h : HasN P w H a kvs) : H a ≠ none := by
  rcases h with e | ⟨_, e⟩
  · rw [e]; exact fun z => nomatch z
  · rw [e]; exact fun z => nomatch z
/-! ### what a slot holds alone -/
inductive OD where
  | fr (d : D)
  | fl (a : Addr) (ds : List D)
  | dk (a : Addr) (m : List (Key × D))
  | dt (a : Addr) (m : List (List Key × D))
  | dn (a : Addr) (m : List (Option Key × D))
  | nl (a : Addr) (os : List OD)
  | ob (a C : Addr) (fs : List (Str × OD))
mutual
def OD.adrs : OD → List Addr
  | .fr _ => []
  | .fl a _ => [a]
  | .dk a _ => [a]
  | .dt a _ => [a]
  | .dn a _ => [a]
  | .nl a os => a :: adrsL os
  | .ob a _ fs => a :: adrsF fs
def adrsL : List OD → List Addr
  | [] => []
  | o :: os => o.adrs ++ adrsL os
def adrsF : List (Str × OD) → List Addr
  | [] => []
  | (_, o) :: os => o.adrs ++ adrsF os
end
mutual
def OD.data : OD → D
  | .fr d => d
  | .fl _ ds => .lst ds
  | .dk _ m => .dk m
  | .dt _ m => .dt m
  | .dn _ m => .dn m
  | .nl _ os => .lst (dataL os)
  | .ob _ C fs => .ob C (dataF fs)
def dataL : List OD → List D
  | [] => []
  | o :: os => o.data :: dataL os
def dataF : List (Str × OD) → List (Str × D)
  | [] => []
  | (x, o) :: os => (x, o.data) :: dataF os
end
def OD.root : OD → Option Addr
  | .fr _ => none
  | .fl a _ => some a
  | .dk a _ => some a
  | .dt a _ => some a
  | .dn a _ => some a
  | .nl a _ => some a
  | .ob a _ _ => some a
mutual
inductive Ow (g : Gb) (H F : Hp) : V → OD → Prop where
  | fr {v : V} {d : D} : Dp g F v d → Ow g H F v (.fr d)
  | fl {a : Addr} {vs : List V} {ds : List D} : H a = some (.lst vs) → DpL g F vs ds → Ow g H F (.ref a) (.fl a ds)
  | dk {a : Addr} {kvs : List (Key × V)} {m : List (Key × D)} : H a = some (.dK kvs) → kvs.map (·.1) = m.map (·.1) → DpL g F (kvs.map (·.2)) (m.map (·.2)) → Ow g H F (.ref a) (.dk a m)
  | dt {a : Addr} {kvs : List (List Key × V)} {m : List (List Key × D)} : H a = some (.dT kvs) → kvs.map (·.1) = m.map (·.1) → DpL g F (kvs.map (·.2)) (m.map (·.2)) → Ow g H F (.ref a) (.dt a m)
  | dn {a : Addr} {kvs : List (Option Key × V)} {m : List (Option Key × D)} : HasN g.P g.w H a kvs → kvs.map (·.1) = m.map (·.1) → DpL g F (kvs.map (·.2)) (m.map (·.2)) → Ow g H F (.ref a) (.dn a m)
  | nl {a : Addr} {vs : List V} {os : List OD} : H a = some (.lst vs) → OwL g H F vs os → Ow g H F (.ref a) (.nl a os)
  | ob {a C dx : Addr} {fv : List (Str × V)} {fs : List (Str × OD)} : H a = some (.ins C dx fv) → OwF g H F fv fs → Ow g H F (.ref a) (.ob a C fs)
inductive OwL (g : Gb) (H F : Hp) : List V → List OD → Prop where
  | nil : OwL g H F [] []
  | cons {v : V} {o : OD} {vs : List V} {os : List OD} : Ow g H F v o → OwL g H F vs os → OwL g H F (v :: vs) (o :: os)
inductive OwF (g : Gb) (H F : Hp) : List (Str × V) → List (Str × OD) → Prop where
  | nil : OwF g H F [] []
  | cons {x : Str} {v : V} {o : OD} {vs : List (Str × V)} {os : List (Str × OD)} : Ow g H F v o → OwF g H F vs os → OwF g H F ((x, v) :: vs) ((x, o) :: os)
end
section
variable {g : Gb} {F F' H H' : Hp}
mutual
theorem Ow.move {v : V} {o : OD} (s : Same F F') (h : Ow g H F v o) (k : ∀ a ∈ o.adrs, H' a = H a) : Ow g H' F' v o := by
  cases h with
  | fr h => exact .fr (h.mono s)
  | fl h l => exact .fl ((k _ (by simp [OD.adrs])).trans h) (l.mono s)
  | dk h e l => exact .dk ((k _ (by simp [OD.adrs])).trans h) e (l.mono s)
  | dt h e l => exact .dt ((k _ (by simp [OD.adrs])).trans h) e (l.mono s)
  | dn h e l => exact .dn (hasN_mono h (k _ (by simp [OD.adrs]))) e (l.mono s)
  | nl h l => exact .nl ((k _ (by simp [OD.adrs])).trans h) (OwL.move s l fun a m => k a (by simp [OD.adrs, m]))
  | ob h l => exact .ob ((k _ (by simp [OD.adrs])).trans h) (OwF.move s l fun a m => k a (by simp [OD.adrs, m]))
theorem OwL.move {vs : List V} {os : List OD} (s : Same F F') (h : OwL g H F vs os) (k : ∀ a ∈ adrsL os, H' a = H a) : OwL g H' F' vs os := by
  cases h with
  | nil => exact .nil
  | cons h t => exact .cons (h.move s fun a m => k a (by simp [adrsL, m])) (OwL.move s t fun a m => k a (by simp [adrsL, m]))
theorem OwF.move {vs : List (Str × V)} {os : List (Str × OD)} (s : Same F F') (h : OwF g H F vs os) (k : ∀ a ∈ adrsF os, H' a = H a) : OwF g H' F' vs os := by
  cases h with
  | nil => exact .nil
  | cons h t => exact .cons (h.move s fun a m => k a (by simp [adrsF, m])) (OwF.move s t fun a m => k a (by simp [adrsF, m]))
end
mutual
theorem Ow.has {v : V} {o : OD} (h : Ow g H F v o) : ∀ a ∈ o.adrs, H a ≠ none := by
  cases h with
  | fr h => intro a m; simp [OD.adrs] at m
  | fl h l => intro a m; simp only [OD.adrs, List.mem_singleton] at m; subst m; rw [h]; exact fun z => nomatch z
  | dk h e l => intro a m; simp only [OD.adrs, List.mem_singleton] at m; subst m; rw [h]; exact fun z => nomatch z
  | dt h e l => intro a m; simp only [OD.adrs, List.mem_singleton] at m; subst m; rw [h]; exact fun z => nomatch z
  | dn h e l => intro a m; simp only [OD.adrs, List.mem_singleton] at m; subst m; exact hasN_has h
  | nl h l =>
    intro a m
    simp only [OD.adrs, List.mem_cons] at m
    rcases m with m | m
    · subst m; rw [h]; exact fun z => nomatch z
    · exact OwL.has l a m
  | ob h l =>
    intro a m
    simp only [OD.adrs, List.mem_cons] at m
    rcases m with m | m
    · subst m; rw [h]; exact fun z => nomatch z
    · exact OwF.has l a m
theorem OwL.has {vs : List V} {os : List OD} (h : OwL g H F vs os) : ∀ a ∈ adrsL os, H a ≠ none := by
  cases h with
  | nil => intro a m; simp [adrsL] at m
  | cons h t =>
    intro a m
    simp only [adrsL, List.mem_append] at m
    rcases m with m | m
    · exact Ow.has h a m
    · exact OwL.has t a m
theorem OwF.has {vs : List (Str × V)} {os : List (Str × OD)} (h : OwF g H F vs os) : ∀ a ∈ adrsF os, H a ≠ none := by
  cases h with
  | nil => intro a m; simp [adrsF] at m
  | cons h t =>
    intro a m
    simp only [adrsF, List.mem_append] at m
    rcases m with m | m
    · exact Ow.has h a m
    · exact OwF.has t a m
end
/-- all of it is given to F -/
def ext (F H : Hp) (l : List Addr) : Hp := fun a => if a ∈ l then H a else F a
theorem ext_in {F H : Hp} {l : List Addr} {a : Addr} (h : a ∈ l) : ext F H l a = H a := by unfold ext; rw [if_pos h]
theorem ext_out {F H : Hp} {l : List Addr} {a : Addr} (h : a ∉ l) : ext F H l a = F a := by unfold ext; rw [if_neg h]
mutual
theorem Ow.frz {v : V} {o : OD} (s : Same F F') (h : Ow g H F v o) (k : ∀ a ∈ o.adrs, F' a = H a) : Dp g F' v o.data := by
  cases h with
  | fr h => exact h.mono s
  | fl h l => exact .lst ((k _ (by simp [OD.adrs])).trans h) (l.mono s)
  | dk h e l => exact .dk ((k _ (by simp [OD.adrs])).trans h) e (l.mono s)
  | dt h e l => exact .dt ((k _ (by simp [OD.adrs])).trans h) e (l.mono s)
  | dn h e l => exact .dn (hasN_mono h (k _ (by simp [OD.adrs]))) e (l.mono s)
  | nl h l => exact .lst ((k _ (by simp [OD.adrs])).trans h) (OwL.frz s l fun a m => k a (by simp [OD.adrs, m]))
  | ob h l =>
    obtain ⟨e, q⟩ := OwF.frz s l fun a m => k a (by simp [OD.adrs, m])
    exact .ob ((k _ (by simp [OD.adrs])).trans h) e q
theorem OwL.frz {vs : List V} {os : List OD} (s : Same F F') (h : OwL g H F vs os) (k : ∀ a ∈ adrsL os, F' a = H a) : DpL g F' vs (dataL os) := by
  cases h with
  | nil => exact .nil
  | cons h t => exact .cons (h.frz s fun a m => k a (by simp [adrsL, m])) (OwL.frz s t fun a m => k a (by simp [adrsL, m]))
theorem OwF.frz {vs : List (Str × V)} {os : List (Str × OD)} (s : Same F F') (h : OwF g H F vs os) (k : ∀ a ∈ adrsF os, F' a = H a) : vs.map (·.1) = (dataF os).map (·.1) ∧ DpL g F' (vs.map (·.2)) ((dataF os).map (·.2)) := by
  cases h with
  | nil => exact ⟨rfl, .nil⟩
  | cons h t =>
    obtain ⟨e, q⟩ := OwF.frz s t fun a m => k a (by simp [adrsF, m])
    refine ⟨?_, .cons (h.frz s fun a m => k a (by simp [adrsF, m])) q⟩
    simp only [List.map_cons, dataF]
    rw [e]
end
theorem Ow.root {v : V} {o : OD} {a : Addr} (h : Ow g H F v o) (e : o.root = some a) : v = .ref a := by
  cases h with
  | fr h => cases e
  | fl h l => cases e; rfl
  | dk h _ l => cases e; rfl
  | dt h _ l => cases e; rfl
  | dn h _ l => cases e; rfl
  | nl h l => cases e; rfl
  | ob h l => cases e; rfl
end
end KD

set_option maxHeartbeats 4000000
namespace KD
open PySem PySem.Spec PyProof.Rows L2 KB
/-- a slot: not assigned, frozen data, or held alone -/
inductive Sl where
  | no
  | fz (d : D)
  | ow (o : OD)
  | rf (a : Addr)
/-- what an expression gives: frozen data, what a slot holds, a new thing -/
inductive R where
  | fz (d : D)
  | bw (i : Nat)
  | nw (o : OD)
  | rf (a : Addr)
def Sl.adrs : Sl → List Addr
  | .ow o => o.adrs
  | _ => []
def adS : List Sl → List Addr
  | [] => []
  | s :: r => s.adrs ++ adS r
/-- where a def stands: the heap and the frozen part at its entry, what it may change -/
structure Cn (g : Gb) where
  H0 : Hp
  F0 : Hp
  Fb : Hp
  M : List Addr
structure Rel {g : Gb} (c : Cn g) (σ : L2.St) (H F : Hp) (δ : List Sl) : Prop where
  sub : Same F H
  fr : ∀ a o, c.H0 a = some o → a ∉ c.M → H a = some o
  fr2 : ∀ a, c.H0 a ≠ none → H a ≠ none
  ff : ∀ a, c.H0 a ≠ none → F a = c.F0 a
  len : σ.length = δ.length
  fz : ∀ (i : Nat) (d : D), δ[i]? = some (Sl.fz d) → ∃ v, σ[i]? = some (some v) ∧ Dp g F v d
  ow : ∀ (i : Nat) (o : OD), δ[i]? = some (Sl.ow o) → ∃ v, σ[i]? = some (some v) ∧ Ow g H F v o
  nd : (adS δ).Nodup
  fa : ∀ a ∈ adS δ, F a = none ∧ (c.H0 a = none ∨ a ∈ c.M)
  lb : Same c.Fb F
  rf : ∀ (i : Nat) (a : Addr), δ[i]? = some (Sl.rf a) → σ[i]? = some (some (.ref a))
def RRep {g : Gb} (c : Cn g) (σ : L2.St) (H F : Hp) (δ : List Sl) (v : V) : R → Prop
  | .fz d => Dp g F v d
  | .bw i => σ[i]? = some (some v)
  | .nw o => Ow g H F v o ∧ (o.adrs ++ adS δ).Nodup ∧ ∀ a ∈ o.adrs, F a = none ∧ c.H0 a = none
  | .rf a => v = .ref a
/-- fit to leave a def -/
def R.out : R → Bool
  | .fz _ => true
  | .nw _ => true
  | _ => false
@[reducible] def R.frz : R → R
  | .nw o => .fz o.data
  | r => r
def R.dat (δ : List Sl) : R → Option D
  | .fz d => some d
  | .bw i => match δ[i]? with
    | some (.ow o) => some o.data
    | _ => none
  | .nw o => some o.data
  | .rf _ => none
section
variable {g : Gb} {c : Cn g} {σ σ' : L2.St} {H H' F F' : Hp} {δ δ' : List Sl} {v : V} {r : R} {o : OD} {d : D} {i : Nat}
theorem mem_adS : ∀ {δ : List Sl} {i : Nat} {o : OD} {a : Addr}, δ[i]? = some (Sl.ow o) → a ∈ o.adrs → a ∈ adS δ
  | [], _, _, _, e, _ => by simp at e
  | s :: r, 0, o, a, e, m => by
    simp only [List.length_cons, Nat.zero_lt_succ, List.getElem?_eq_getElem, List.getElem_cons_zero, Option.some.injEq] at e
    subst e
    simp [adS, Sl.adrs, m]
  | s :: r, i + 1, o, a, e, m => by
    have := mem_adS (i := i) (o := o) (a := a) (δ := r) (by simpa using e) m
    simp [adS, this]
theorem of_adS : ∀ {δ : List Sl} {a : Addr}, a ∈ adS δ → ∃ (i : Nat) (o : OD), δ[i]? = some (Sl.ow o) ∧ a ∈ o.adrs
  | [], _, m => by simp [adS] at m
  | s :: r, a, m => by
    simp only [adS, List.mem_append] at m
    rcases m with m | m
    · cases s with
      | ow o => exact ⟨0, o, rfl, m⟩
      | no => simp [Sl.adrs] at m
      | fz d => simp [Sl.adrs] at m
      | rf d => simp [Sl.adrs] at m
    · obtain ⟨i, o, e, h⟩ := of_adS m
      exact ⟨i + 1, o, by simpa using e, h⟩
theorem Rel.has (h : Rel c σ H F δ) : ∀ a ∈ adS δ, H a ≠ none := fun a m => by
  obtain ⟨i, o, e, q⟩ := of_adS m
  obtain ⟨v, _, w⟩ := h.ow i o e
  exact w.has a q
/-- the frozen part grows by new things -/
theorem Rel.grow (h : Rel c σ H F δ) (s : Same F F') (sub : Same F' H) (n : ∀ a, c.H0 a ≠ none → F' a = F a) (n2 : ∀ a ∈ adS δ, F' a = none) : Rel c σ H F' δ :=
  ⟨sub, h.fr, h.fr2, fun a z => (n a z).trans (h.ff a z), h.len, fun i d e => by
    obtain ⟨v, h1, h2⟩ := h.fz i d e
    exact ⟨v, h1, h2.mono s⟩, fun i o e => by
    obtain ⟨v, h1, h2⟩ := h.ow i o e
    exact ⟨v, h1, h2.move s fun _ _ => rfl⟩, h.nd, fun a m => ⟨n2 a m, (h.fa a m).2⟩, h.lb.trans s, h.rf⟩
/-- a new thing is frozen -/
theorem frz_ok (h : Rel c σ H F δ) (k : RRep c σ H F δ v r) : ∃ F', Same F F' ∧ Rel c σ H F' δ ∧ RRep c σ H F' δ v r.frz := by
  cases r with
  | fz d => exact ⟨F, Same.refl F, h, k⟩
  | bw i => exact ⟨F, Same.refl F, h, k⟩
  | rf a => exact ⟨F, Same.refl F, h, k⟩
  | nw o =>
    obtain ⟨w, nd, fr⟩ := k
    have s : Same F (ext F H o.adrs) := fun a u e => by
      by_cases m : a ∈ o.adrs
      · rw [(fr a m).1] at e; cases e
      · rw [ext_out m]; exact e
    refine ⟨ext F H o.adrs, s, h.grow s (fun a u e => ?_) (fun a z => ?_) (fun a m => ?_), w.frz s fun a m => ext_in m⟩
    · by_cases m : a ∈ o.adrs
      · rw [ext_in m] at e; exact e
      · rw [ext_out m] at e; exact h.sub a u e
    · by_cases m : a ∈ o.adrs
      · exact absurd (fr a m).2 z
      · exact ext_out m
    · have : a ∉ o.adrs := fun z => (List.nodup_append.mp nd).2.2 a z a m rfl
      rw [ext_out this]
      exact (h.fa a m).1
theorem rep_dat (h : Rel c σ H F δ) (k : RRep c σ H F δ v r) (e : r.dat δ = some d) : Dp g H v d := by
  cases r with
  | fz d' => cases e; exact Dp.mono h.sub k
  | bw i =>
    have k : σ[i]? = some (some v) := k
    simp only [R.dat] at e
    split at e
    · rename_i o ho
      cases e
      obtain ⟨v', h1, h2⟩ := h.ow i o ho
      rw [k] at h1
      cases h1
      exact h2.frz h.sub fun _ _ => rfl
    · cases e
  | nw o =>
    cases e
    exact k.1.frz h.sub fun _ _ => rfl
  | rf a => cases e
theorem rep_keep (k : RRep c σ H F δ v r) (n : r.frz = r) (s : Same F F') : RRep c σ H' F' δ' v r := by
  cases r with
  | fz d => exact Dp.mono s k
  | bw i => exact k
  | rf a => exact k
  | nw o => cases n
theorem frz_frz (r : R) : r.frz.frz = r.frz := by cases r <;> rfl
end
/-! ### the judgements -/
section
variable {g : Gb} (c : Cn g)
abbrev PstE (σ : L2.St) (F : Hp) (Q : R → List Sl → Prop) (QV : VK) : Prop := ∀ v H' F' r δ', Q r δ' → Rel c σ H' F' δ' → Same F F' → RRep c σ H' F' δ' v r → QV v H'
def DE (te : TE) (δ : List Sl) (Q : R → List Sl → Prop) : Prop := ∀ σ H F QV, Rel c σ H F δ → PstE c σ F Q QV → te σ H QV
def DT (tt : TT) (δ : List Sl) (Q : Bool → List Sl → Prop) : Prop := ∀ σ H F (QB : Bool → Hp → Prop), Rel c σ H F δ → (∀ b H' F' δ', Q b δ' → Rel c σ H' F' δ' → Same F F' → QB b H') → tt σ H QB
inductive RepL (σ : L2.St) (H F : Hp) (δ : List Sl) : List V → List R → Prop where
  | nil : RepL σ H F δ [] []
  | cons {v : V} {r : R} {vs : List V} {rs : List R} : r.frz = r → RRep c σ H F δ v r → RepL σ H F δ vs rs → RepL σ H F δ (v :: vs) (r :: rs)
def DA (ta : TA) (δ : List Sl) (Q : List R → List Sl → Prop) : Prop := ∀ σ H F (QA : List V → Hp → Prop), Rel c σ H F δ → (∀ vs H' F' rs δ', Q rs δ' → Rel c σ H' F' δ' → Same F F' → RepL c σ H' F' δ' vs rs → QA vs H') → ta σ H QA
/-- by values -/
def DO (f : R2) (x y : R) (δ : List Sl) (Q : R → List Sl → Prop) : Prop := ∀ σ H F v w QV, Rel c σ H F δ → RRep c σ H F δ v x → RRep c σ H F δ w y → PstE c σ F Q QV → f v w H QV
def DU (f : V → Hp → VK → Prop) (x : R) (δ : List Sl) (Q : R → List Sl → Prop) : Prop := ∀ σ H F v QV, Rel c σ H F δ → RRep c σ H F δ v x → PstE c σ F Q QV → f v H QV
def DC (f : List V → Hp → VK → Prop) (xs : List R) (δ : List Sl) (Q : R → List Sl → Prop) : Prop := ∀ σ H F vs QV, Rel c σ H F δ → RepL c σ H F δ vs xs → PstE c σ F Q QV → f vs H QV
def DM (f : V → List V → Hp → VK → Prop) (x : R) (xs : List R) (δ : List Sl) (Q : R → List Sl → Prop) : Prop := ∀ σ H F v vs QV, Rel c σ H F δ → RRep c σ H F δ v x → RepL c σ H F δ vs xs → PstE c σ F Q QV → f v vs H QV
/-- a target takes a thing -/
def DG (tg : TG) (r : R) (δ : List Sl) (Qn : List Sl → Prop) : Prop := ∀ σ H F v (S : L2.St → Hp → Prop), Rel c σ H F δ → RRep c σ H F δ v r → (∀ σ' H' F' δ', Qn δ' → Rel c σ' H' F' δ' → Same F F' → S σ' H') → tg v σ H S
end
/-- ends, by data -/
structure PD where
  nx : List Sl → Prop := fun _ => False
  rt : R → List Sl → Prop := fun _ _ => False
  bk : List Sl → Prop := fun _ => False
  ct : List Sl → Prop := fun _ => False
structure EndsOk {g : Gb} (c : Cn g) (F : Hp) (P : PD) (E : Ends) : Prop where
  nx : ∀ σ' H' F' δ', P.nx δ' → Rel c σ' H' F' δ' → Same F F' → E.nx σ' H'
  rt : ∀ σ' v H' F' r δ', P.rt r δ' → Rel c σ' H' F' δ' → Same F F' → RRep c σ' H' F' δ' v r → E.rt v H'
  bk : ∀ σ' H' F' δ', P.bk δ' → Rel c σ' H' F' δ' → Same F F' → E.bk σ' H'
  ct : ∀ σ' H' F' δ', P.ct δ' → Rel c σ' H' F' δ' → Same F F' → E.ct σ' H'
def DS {g : Gb} (c : Cn g) (ts : TS) (δ : List Sl) (P : PD) : Prop := ∀ σ H F (E : Ends), Rel c σ H F δ → EndsOk c F P E → ts E σ H
theorem EndsOk.later {g : Gb} {c : Cn g} {F F' : Hp} {P : PD} {E : Ends} (h : EndsOk c F P E) (s : Same F F') : EndsOk c F' P E :=
  ⟨fun σ H G δ q r t => h.nx σ H G δ q r (s.trans t), fun σ v H G r δ q rl t => h.rt σ v H G r δ q rl (s.trans t), fun σ H G δ q r t => h.bk σ H G δ q r (s.trans t), fun σ H G δ q r t => h.ct σ H G δ q r (s.trans t)⟩
/-! ### expressions -/
section
variable {g : Gb} {c : Cn g} {δ : List Sl} {Q : R → List Sl → Prop} {QA : List R → List Sl → Prop} {QB : Bool → List Sl → Prop} {P : PD} {te ta tb : TE} {tr : TA} {tt tu : TT} {t u : TS} {tg : TG} {i j : Nat} {d e : D} {o : OD} {r r' x y : R} {f : R2}
theorem DE.imp {Q' : R → List Sl → Prop} (h : DE c te δ Q) (k : ∀ r δ', Q r δ' → Q' r δ') : DE c te δ Q' := fun σ H F QV R q => h σ H F QV R fun v H' F' r δ' z => q v H' F' r δ' (k _ _ z)
theorem DT.imp {Q' : Bool → List Sl → Prop} (h : DT c tt δ QB) (k : ∀ r δ', QB r δ' → Q' r δ') : DT c tt δ Q' := fun σ H F QV R q => h σ H F QV R fun v H' F' δ' z => q v H' F' δ' (k _ _ z)
theorem DS.imp {P' : PD} (h : DS c t δ P) (k1 : ∀ δ, P.nx δ → P'.nx δ) (k2 : ∀ r δ, P.rt r δ → P'.rt r δ) (k3 : ∀ δ, P.bk δ → P'.bk δ) (k4 : ∀ δ, P.ct δ → P'.ct δ) : DS c t δ P' := fun σ H F E R k =>
  h σ H F E R ⟨fun σ' H' F' δ' q => k.nx σ' H' F' δ' (k1 _ q), fun σ' v H' F' r δ' q => k.rt σ' v H' F' r δ' (k2 _ _ q), fun σ' H' F' δ' q => k.bk σ' H' F' δ' (k3 _ q), fun σ' H' F' δ' q => k.ct σ' H' F' δ' (k4 _ q)⟩
/-- the result of an expression, frozen if it is new -/
theorem de_frz {σ : L2.St} {H F : Hp} {QV : VK} (h : DE c te δ Q) (R : Rel c σ H F δ) (k : ∀ v H' F' r δ', Q r δ' → Rel c σ H' F' δ' → Same F F' → RRep c σ H' F' δ' v r.frz → QV v H') : te σ H QV :=
  h σ H F QV R fun v H' F' r δ' q R' s rep => by
    obtain ⟨F2, s2, R2, rep2⟩ := frz_ok R' rep
    exact k v H' F2 r δ' q R2 (s.trans s2) rep2
theorem d_var (h : δ[i]? = some (.fz d)) (q : Q (.fz d) δ) : DE c (tVar i) δ Q := fun σ H F QV R k => by
  obtain ⟨v, h1, h2⟩ := R.fz i d h
  exact ⟨v, h1, k v H F _ _ q R (Same.refl F) h2⟩
theorem d_varO (h : δ[i]? = some (.ow o)) (q : Q (.bw i) δ) : DE c (tVar i) δ Q := fun σ H F QV R k => by
  obtain ⟨v, h1, h2⟩ := R.ow i o h
  exact ⟨v, h1, k v H F _ _ q R (Same.refl F) h1⟩
theorem d_varR {a : Addr} (h : δ[i]? = some (.rf a)) (q : Q (.rf a) δ) : DE c (tVar i) δ Q := fun σ H F QV R k => ⟨_, R.rf i a h, k _ H F _ _ q R (Same.refl F) rfl⟩
def flatD : V → Option D
  | .non => some .non
  | .bl b => some (.bl b)
  | .int i => some (.int i)
  | .str s => some (.str s)
  | .ty n => some (.tyN n)
  | _ => none
theorem flatD_ok {F : Hp} {v : V} (h : flatD v = some d) : Dp g F v d := by
  cases v <;> cases h
  · exact .non
  · exact .bl _
  · exact .int _
  · exact .str _
  · exact .tyN _
theorem d_c {v : V} (h : flatD v = some d) (q : Q (.fz d) δ) : DE c (tC v) δ Q := fun σ H F QV R k => k v H F _ _ q R (Same.refl F) (flatD_ok h)
theorem d_op (q : DE c ta δ fun x δ1 => DE c tb δ1 fun y δ2 => DO c f x.frz y.frz δ2 Q) : DE c (tOp f ta tb) δ Q := fun σ H F QV R k =>
  de_frz (QV := fun x H1 => tb σ H1 fun y H2 => f x y H2 QV) q R fun v H1 F1 x δ1 q1 R1 s1 rep1 => de_frz (QV := fun y H2 => f v y H2 QV) q1 R1 fun w H2 F2 y δ2 q2 R2 s2 rep2 =>
    q2 σ H2 F2 v w QV R2 (rep_keep rep1 (frz_frz _) s2) rep2 fun v' H' F' r δ' q' R' s' => k v' H' F' r δ' q' R' ((s1.trans s2).trans s')
theorem d_un {fu : V → Hp → VK → Prop} (q : DE c ta δ fun x δ1 => DU c fu x.frz δ1 Q) : DE c (tUn fu ta) δ Q := fun σ H F QV R k =>
  de_frz (QV := fun x H1 => fu x H1 QV) q R fun v H1 F1 x δ1 q1 R1 s1 rep1 => q1 σ H1 F1 v QV R1 rep1 fun v' H' F' r δ' q' R' s' => k v' H' F' r δ' q' R' (s1.trans s')
theorem d_nil (q : QA [] δ) : DA c tNil δ QA := fun σ H F QV R k => k [] H F _ _ q R (Same.refl F) .nil
theorem d_cons (q : DE c te δ fun x δ1 => DA c tr δ1 fun xs δ2 => QA (x.frz :: xs) δ2) : DA c (tCons te tr) δ QA := fun σ H F QV R k =>
  de_frz q R fun v H1 F1 x δ1 q1 R1 s1 rep1 => q1 σ H1 F1 _ R1 fun vs H2 F2 xs δ2 q2 R2 s2 rep2 => k (v :: vs) H2 F2 _ _ q2 R2 (s1.trans s2) (.cons (frz_frz _) (rep_keep rep1 (frz_frz _) s2) rep2)
theorem d_CB {fc : List V → Hp → VK → Prop} (q : DA c tr δ fun xs δ1 => DC c fc xs δ1 Q) : DE c (tCB fc tr) δ Q := fun σ H F QV R k =>
  q σ H F _ R fun vs H1 F1 xs δ1 q1 R1 s1 rep1 => q1 σ H1 F1 vs QV R1 rep1 fun v' H' F' r δ' q' R' s' => k v' H' F' r δ' q' R' (s1.trans s')
/-! tests -/
theorem d_test (q : DE c te δ fun x δ1 => ∃ b, x = .fz (.bl b) ∧ QB b δ1) : DT c (tTest te) δ QB := fun σ H F QV R k =>
  q σ H F _ R fun v H1 F1 x δ1 ⟨b, e, q1⟩ R1 s1 rep1 => by
    subst e
    cases rep1
    exact ⟨b, rfl, k b H1 F1 δ1 q1 R1 s1⟩
theorem d_B (q : DE c te δ fun x δ1 => ∃ b, x = .fz (.bl b) ∧ QB b δ1) : DT c (tB te) δ QB := d_test q
theorem d_and (q : DT c tt δ fun b δ1 => if b = true then DT c tu δ1 QB else QB false δ1) : DT c (tAnd tt tu) δ QB := fun σ H F QV R k =>
  q σ H F _ R fun b H1 F1 δ1 q1 R1 s1 => by
    cases b with
    | true => exact q1 σ H1 F1 _ R1 fun b H2 F2 δ2 q2 R2 s2 => k b H2 F2 δ2 q2 R2 (s1.trans s2)
    | false => exact k false H1 F1 δ1 q1 R1 s1
theorem d_or (q : DT c tt δ fun b δ1 => if b = true then QB true δ1 else DT c tu δ1 QB) : DT c (tOr tt tu) δ QB := fun σ H F QV R k =>
  q σ H F _ R fun b H1 F1 δ1 q1 R1 s1 => by
    cases b with
    | false => exact q1 σ H1 F1 _ R1 fun b H2 F2 δ2 q2 R2 s2 => k b H2 F2 δ2 q2 R2 (s1.trans s2)
    | true => exact k true H1 F1 δ1 q1 R1 s1
theorem d_not (q : DT c tt δ fun b δ1 => QB (!b) δ1) : DT c (tNot tt) δ QB := fun σ H F QV R k => q σ H F _ R fun b H1 F1 δ1 q1 R1 s1 => k _ H1 F1 δ1 q1 R1 s1
theorem d_yes (q : QB true δ) : DT c tYes δ QB := fun σ H F QV R k => k true H F δ q R (Same.refl F)
theorem d_andV (q : DE c ta δ fun x δ1 => ∃ b, x = .fz (.bl b) ∧ if b = true then DE c tb δ1 Q else Q (.fz (.bl false)) δ1) : DE c (tAndV ta tb) δ Q := fun σ H F QV R k =>
  q σ H F _ R fun v H1 F1 x δ1 ⟨b, e, q1⟩ R1 s1 rep1 => by
    subst e
    cases rep1
    refine ⟨b, rfl, ?_⟩
    cases b with
    | true => exact q1 σ H1 F1 _ R1 fun v H2 F2 r δ2 q2 R2 s2 => k v H2 F2 r δ2 q2 R2 (s1.trans s2)
    | false => exact k _ H1 F1 _ δ1 q1 R1 s1 (Dp.bl _)
theorem d_orV (q : DE c ta δ fun x δ1 => ∃ b, x = .fz (.bl b) ∧ if b = true then Q (.fz (.bl true)) δ1 else DE c tb δ1 Q) : DE c (tOrV ta tb) δ Q := fun σ H F QV R k =>
  q σ H F _ R fun v H1 F1 x δ1 ⟨b, e, q1⟩ R1 s1 rep1 => by
    subst e
    cases rep1
    refine ⟨b, rfl, ?_⟩
    cases b with
    | false => exact q1 σ H1 F1 _ R1 fun v H2 F2 r δ2 q2 R2 s2 => k v H2 F2 r δ2 q2 R2 (s1.trans s2)
    | true => exact k _ H1 F1 _ δ1 q1 R1 s1 (Dp.bl _)
theorem d_notV (q : DE c ta δ fun x δ1 => ∃ b, x = .fz (.bl b) ∧ Q (.fz (.bl (!b))) δ1) : DE c (tNotV ta) δ Q := fun σ H F QV R k =>
  q σ H F _ R fun v H1 F1 x δ1 ⟨b, e, q1⟩ R1 s1 rep1 => by
    subst e
    cases rep1
    exact ⟨b, rfl, k _ H1 F1 _ δ1 q1 R1 s1 (Dp.bl _)⟩
theorem d_if (q : DT c tt δ fun b δ1 => if b = true then DE c ta δ1 Q else DE c tb δ1 Q) : DE c (tIf tt ta tb) δ Q := fun σ H F QV R k =>
  q σ H F _ R fun b H1 F1 δ1 q1 R1 s1 => by
    cases b with
    | true => exact q1 σ H1 F1 _ R1 fun v H2 F2 r δ2 q2 R2 s2 => k v H2 F2 r δ2 q2 R2 (s1.trans s2)
    | false => exact q1 σ H1 F1 _ R1 fun v H2 F2 r δ2 q2 R2 s2 => k v H2 F2 r δ2 q2 R2 (s1.trans s2)
/-! statements -/
theorem d_seq (q : DS c t δ { P with nx := fun δ1 => DS c u δ1 P }) : DS c (tSeq t u) δ P := fun σ H F E R k =>
  q σ H F _ R ⟨fun σ1 H1 F1 δ1 q1 R1 s1 => q1 σ1 H1 F1 E R1 (k.later s1), k.rt, k.bk, k.ct⟩
theorem d_next (q : P.nx δ) : DS c tNext δ P := fun σ H F E R k => k.nx σ H F δ q R (Same.refl F)
theorem d_brk (q : P.bk δ) : DS c tBreak δ P := fun σ H F E R k => k.bk σ H F δ q R (Same.refl F)
theorem d_cnt (q : P.ct δ) : DS c tCont δ P := fun σ H F E R k => k.ct σ H F δ q R (Same.refl F)
theorem d_drop (q : DE c te δ fun _ δ1 => P.nx δ1) : DS c (tDrop te) δ P := fun σ H F E R k => q σ H F _ R fun v H1 F1 r δ1 q1 R1 s1 _ => k.nx σ H1 F1 δ1 q1 R1 s1
theorem d_ret (q : DE c te δ P.rt) : DS c (tRet te) δ P := fun σ H F E R k => q σ H F _ R fun v H1 F1 r δ1 q1 R1 s1 rep => k.rt σ v H1 F1 r δ1 q1 R1 s1 rep
theorem d_retN (q : P.rt (.fz .non) δ) : DS c tRetN δ P := fun σ H F E R k => k.rt σ .non H F _ δ q R (Same.refl F) Dp.non
theorem d_ifS (q : DT c tt δ fun b δ1 => if b = true then DS c t δ1 P else DS c u δ1 P) : DS c (tIfS tt t u) δ P := fun σ H F E R k =>
  q σ H F _ R fun b H1 F1 δ1 q1 R1 s1 => by
    cases b with
    | true => exact q1 σ H1 F1 E R1 (k.later s1)
    | false => exact q1 σ H1 F1 E R1 (k.later s1)
theorem d_asg (q : DE c te δ fun x δ1 => DG c tg x δ1 P.nx) : DS c (tAsg te tg) δ P := fun σ H F E R k =>
  q σ H F _ R fun v H1 F1 r δ1 q1 R1 s1 rep => q1 σ H1 F1 v _ R1 rep fun σ2 H2 F2 δ2 q2 R2 s2 => k.nx σ2 H2 F2 δ2 q2 R2 (s1.trans s2)
theorem Rel.setFz {σ : L2.St} {H F : Hp} {v : V} (R : Rel c σ H F δ) (h : Dp g F v d) : Rel c (σ.set i (some v)) H F (δ.set i (.fz d)) := by
  have sub : ∀ (δ : List Sl) (i : Nat), (adS (δ.set i (.fz d))).Sublist (adS δ) := by
    intro δ
    induction δ with
    | nil => intro i; exact .slnil
    | cons s r ih =>
      intro i
      cases i with
      | zero => simp only [List.set_cons_zero, adS, Sl.adrs, List.nil_append]; exact List.sublist_append_right _ _
      | succ i => simp only [List.set_cons_succ, adS]; exact (List.Sublist.refl _).append (ih i)
  refine ⟨R.sub, R.fr, R.fr2, R.ff, by rw [List.length_set, List.length_set]; exact R.len, fun k d' e => ?_, fun k o e => ?_, R.nd.sublist (sub δ i), fun a m => R.fa a ((sub δ i).subset m), R.lb, fun k a e => ?_⟩
  · by_cases z : i = k
    · subst z
      rw [List.getElem?_set] at e
      simp only [if_true] at e
      split at e
      · rename_i l
        cases e
        refine ⟨v, ?_, h⟩
        rw [List.getElem?_set, if_pos rfl, if_pos (by rw [R.len]; exact l)]
      · cases e
    · rw [List.getElem?_set_ne z] at e
      obtain ⟨v', h1, h2⟩ := R.fz k d' e
      exact ⟨v', by rw [List.getElem?_set_ne z]; exact h1, h2⟩
  · by_cases z : i = k
    · subst z
      rw [List.getElem?_set] at e
      simp only [if_true] at e
      split at e <;> cases e
    · rw [List.getElem?_set_ne z] at e
      obtain ⟨v', h1, h2⟩ := R.ow k o e
      exact ⟨v', by rw [List.getElem?_set_ne z]; exact h1, h2⟩
  · by_cases z : i = k
    · subst z
      rw [List.getElem?_set] at e
      simp only [if_true] at e
      split at e <;> cases e
    · rw [List.getElem?_set_ne z] at e ⊢
      exact R.rf k a e
theorem perm_adS : ∀ {δ : List Sl} {i : Nat} {s : Sl}, i < δ.length → (adS (δ.set i s)).Perm (s.adrs ++ adS (δ.set i .no))
  | [], _, _, h => by simp at h
  | t :: r, 0, s, h => by simp only [List.set_cons_zero, adS, Sl.adrs, List.nil_append]; exact .refl _
  | t :: r, i + 1, s, h => by
    simp only [List.set_cons_succ, adS]
    have := perm_adS (δ := r) (i := i) (s := s) (by simpa using h)
    refine (List.Perm.append_left _ this).trans ?_
    rw [← List.append_assoc, ← List.append_assoc]
    exact List.Perm.append_right _ List.perm_append_comm
theorem sub_no : ∀ (δ : List Sl) (i : Nat), (adS (δ.set i .no)).Sublist (adS δ)
  | [], i => .slnil
  | s :: r, 0 => by simp only [List.set_cons_zero, adS, Sl.adrs, List.nil_append]; exact List.sublist_append_right _ _
  | s :: r, i + 1 => by simp only [List.set_cons_succ, adS]; exact (List.Sublist.refl _).append (sub_no r i)
/-- slot i is given a thing held alone -/
theorem Rel.setOw {σ : L2.St} {H F : Hp} {v : V} (R : Rel c σ H F δ) (h : Ow g H F v o) (nd : (o.adrs ++ adS (δ.set i .no)).Nodup) (fa : ∀ a ∈ o.adrs, F a = none ∧ (c.H0 a = none ∨ a ∈ c.M)) : Rel c (σ.set i (some v)) H F (δ.set i (.ow o)) := by
  by_cases hi : i < δ.length
  · have pm := perm_adS (s := .ow o) hi
    refine ⟨R.sub, R.fr, R.fr2, R.ff, by rw [List.length_set, List.length_set]; exact R.len, fun k d' e => ?_, fun k o' e => ?_, pm.nodup_iff.mpr nd, fun a m => ?_, R.lb, fun k a e => ?_⟩
    · by_cases z : i = k
      · subst z
        rw [List.getElem?_set, if_pos rfl, if_pos hi] at e
        cases e
      · rw [List.getElem?_set_ne z] at e
        obtain ⟨v', h1, h2⟩ := R.fz k d' e
        exact ⟨v', by rw [List.getElem?_set_ne z]; exact h1, h2⟩
    · by_cases z : i = k
      · subst z
        rw [List.getElem?_set, if_pos rfl, if_pos hi] at e
        cases e
        exact ⟨v, by rw [List.getElem?_set, if_pos rfl, if_pos (by rw [R.len]; exact hi)], h⟩
      · rw [List.getElem?_set_ne z] at e
        obtain ⟨v', h1, h2⟩ := R.ow k o' e
        exact ⟨v', by rw [List.getElem?_set_ne z]; exact h1, h2⟩
    · have m' := pm.subset m
      rcases List.mem_append.mp m' with m' | m'
      · exact fa a m'
      · exact R.fa a ((sub_no δ i).subset m')
    · by_cases z : i = k
      · subst z
        rw [List.getElem?_set, if_pos rfl, if_pos hi] at e
        cases e
      · rw [List.getElem?_set_ne z] at e ⊢
        exact R.rf k a e
  · have hl := R.len
    rw [List.set_eq_of_length_le (show δ.length ≤ i by omega), List.set_eq_of_length_le (show σ.length ≤ i by omega)]
    exact R
theorem d_gname {Qn : List Sl → Prop} (q : match r.frz with
    | .fz d => Qn (δ.set i (.fz d))
    | _ => False) : DG c (gName i) r δ Qn := fun σ H F v S R rep k => by
  obtain ⟨F2, s2, R2, rep2⟩ := frz_ok R rep
  cases e : r.frz with
  | fz d =>
    rw [e] at q rep2
    exact k _ H F2 _ q (R2.setFz rep2) s2
  | bw j => rw [e] at q; exact q.elim
  | nw o => rw [e] at q; exact q.elim
  | rf a => rw [e] at q; exact q.elim
theorem Rel.setRf {σ : L2.St} {H F : Hp} {a : Addr} (R : Rel c σ H F δ) : Rel c (σ.set i (some (.ref a))) H F (δ.set i (.rf a)) := by
  have sub : (adS (δ.set i (.rf a))).Sublist (adS δ) := by
    have h1 : ∀ (δ : List Sl) (i : Nat), (adS (δ.set i (.rf a))).Sublist (adS δ) := by
      intro δ
      induction δ with
      | nil => intro i; exact .slnil
      | cons s r ih =>
        intro i
        cases i with
        | zero => simp only [List.set_cons_zero, adS, Sl.adrs, List.nil_append]; exact List.sublist_append_right _ _
        | succ i => simp only [List.set_cons_succ, adS]; exact (List.Sublist.refl _).append (ih i)
    exact h1 δ i
  refine ⟨R.sub, R.fr, R.fr2, R.ff, by rw [List.length_set, List.length_set]; exact R.len, fun k d e => ?_, fun k o e => ?_, R.nd.sublist sub, fun a m => R.fa a (sub.subset m), R.lb, fun k b e => ?_⟩
  · by_cases z : i = k
    · subst z; rw [List.getElem?_set] at e; simp only [if_true] at e; split at e <;> cases e
    · rw [List.getElem?_set_ne z] at e ⊢; exact R.fz k d e
  · by_cases z : i = k
    · subst z; rw [List.getElem?_set] at e; simp only [if_true] at e; split at e <;> cases e
    · rw [List.getElem?_set_ne z] at e ⊢; exact R.ow k o e
  · by_cases z : i = k
    · subst z
      rw [List.getElem?_set] at e ⊢
      simp only [if_true] at e ⊢
      split at e
      · rename_i l; cases e; rw [if_pos (by rw [R.len]; exact l)]
      · cases e
    · rw [List.getElem?_set_ne z] at e ⊢; exact R.rf k b e
theorem d_gnameR {a : Addr} {Qn : List Sl → Prop} (q : Qn (δ.set i (.rf a))) : DG c (gName i) (.rf a) δ Qn := fun σ H F v S R rep k => by
  have rep : v = .ref a := rep
  subst rep
  exact k _ H F _ q R.setRf (Same.refl F)
/-- the name is to hold it alone -/
def gOwn (i : Nat) : TG := gName i
theorem d_gown {Qn : List Sl → Prop} (q : Qn (δ.set i (.ow o))) : DG c (gOwn i) (.nw o) δ Qn := fun σ H F v S R rep k => by
  obtain ⟨w, nd, fr⟩ := rep
  refine k _ H F _ q (R.setOw w ?_ fun a m => ⟨(fr a m).1, .inl (fr a m).2⟩) (Same.refl F)
  exact nd.sublist ((List.Sublist.refl _).append (sub_no δ i))
/-- what slot j holds alone is frozen -/
theorem Rel.frzAt {σ : L2.St} {H F : Hp} (R : Rel c σ H F δ) (h : δ[j]? = some (.ow o)) (n : ∀ a ∈ o.adrs, a ∉ c.M) : ∃ F', Same F F' ∧ Rel c σ H F' (δ.set j (.fz o.data)) := by
  obtain ⟨v, hv, w⟩ := R.ow j o h
  have hj : j < δ.length := by
    rcases Nat.lt_or_ge j δ.length with z | z
    · exact z
    · rw [List.getElem?_eq_none_iff.mpr z] at h; cases h
  have eδ : δ.set j (.ow o) = δ := by
    rw [List.getElem?_eq_getElem hj] at h
    rw [← Option.some.inj h, List.set_getElem_self]
  have nd : (o.adrs ++ adS (δ.set j .no)).Nodup := by
    have := (perm_adS (s := .ow o) hj).nodup_iff.mp (by rw [eδ]; exact R.nd)
    exact this
  have R1 : Rel c σ H F (δ.set j .no) := by
    refine ⟨R.sub, R.fr, R.fr2, R.ff, by rw [List.length_set]; exact R.len, fun k d e => ?_, fun k o' e => ?_, R.nd.sublist (sub_no δ j), fun a m => R.fa a ((sub_no δ j).subset m), R.lb, fun k a e => ?_⟩
    · by_cases z : j = k
      · subst z; rw [List.getElem?_set, if_pos rfl, if_pos hj] at e; cases e
      · rw [List.getElem?_set_ne z] at e; exact R.fz k d e
    · by_cases z : j = k
      · subst z; rw [List.getElem?_set, if_pos rfl, if_pos hj] at e; cases e
      · rw [List.getElem?_set_ne z] at e; exact R.ow k o' e
    · by_cases z : j = k
      · subst z; rw [List.getElem?_set, if_pos rfl, if_pos hj] at e; cases e
      · rw [List.getElem?_set_ne z] at e; exact R.rf k a e
  have rep : RRep c σ H F (δ.set j .no) v (.nw o) := ⟨w, nd, fun a m => by
    obtain ⟨h1, h2⟩ := R.fa a (mem_adS h m)
    exact ⟨h1, h2.resolve_right (n a m)⟩⟩
  obtain ⟨F2, s2, R2, rep2⟩ := frz_ok R1 rep
  refine ⟨F2, s2, ?_⟩
  have := R2.setFz (i := j) rep2
  rw [List.set_set] at this
  have es : σ.set j (some v) = σ := by
    have hj' : j < σ.length := by rw [R.len]; exact hj
    rw [List.getElem?_eq_getElem hj'] at hv
    rw [← Option.some.inj hv, List.set_getElem_self]
  rw [es] at this
  exact this
end
end KD

set_option maxHeartbeats 4000000
namespace KD
open PySem PySem.Spec PyProof.Rows L2 KB
/-! ### rules by values -/
def R.els (δ : List Sl) : R → Option (List D)
  | .fz (.tup l) => some l
  | .fz (.lst l) => some l
  | .fz (.ro l) => some l
  | .bw i => match δ[i]? with
    | some (.ow (.fl _ l)) => some l
    | _ => none
  | .nw (.fl _ l) => some l
  | _ => none
/-- lists alone -/
def R.lsL (δ : List Sl) : R → Option (List D)
  | .fz (.lst l) => some l
  | .bw i => match δ[i]? with
    | some (.ow (.fl _ l)) => some l
    | _ => none
  | .nw (.fl _ l) => some l
  | _ => none
section
variable {g : Gb} {c : Cn g} {σ : L2.St} {H F F' : Hp} {δ : List Sl} {v : V} {r x y : R} {ds es : List D} {d e : D} {i j : Int} {Q : R → List Sl → Prop} {P : PD}
theorem lsL_ok (h : Rel c σ H F δ) (k : RRep c σ H F δ v r) (e : r.lsL δ = some ds) : ∃ a vs, v = .ref a ∧ H a = some (.lst vs) ∧ DpL g F vs ds := by
  cases r with
  | fz d =>
    cases d <;> simp only [R.lsL, reduceCtorEq, Option.some.injEq] at e
    subst e
    cases k with
    | lst h1 h2 => exact ⟨_, _, rfl, h.sub _ _ h1, h2⟩
  | bw i =>
    have k : σ[i]? = some (some v) := k
    simp only [R.lsL] at e
    split at e
    · rename_i a l ho
      cases e
      obtain ⟨v', h1, h2⟩ := h.ow i _ ho
      rw [k] at h1
      cases h1
      cases h2 with
      | fl h3 h4 => exact ⟨_, _, rfl, h3, h4⟩
    · cases e
  | nw o =>
    cases o <;> simp only [R.lsL, reduceCtorEq, Option.some.injEq] at e
    subst e
    cases k.1 with
    | fl h3 h4 => exact ⟨_, _, rfl, h3, h4⟩
  | rf a => cases e
theorem els_ok (h : Rel c σ H F δ) (k : RRep c σ H F δ v r) (e : r.els δ = some ds) : ∃ a vs, v = .ref a ∧ (SqL g.K H a vs ∨ SqT g.K H a vs) ∧ DpL g F vs ds := by
  cases r with
  | fz d =>
    cases d <;> simp only [R.els, reduceCtorEq, Option.some.injEq] at e
    all_goals subst e
    · cases k with
      | tup h1 h2 => exact ⟨_, _, rfl, .inr (sqT_mono h.sub h1), h2⟩
    · cases k with
      | lst h1 h2 => exact ⟨_, _, rfl, .inl (.inl (.inl (h.sub _ _ h1))), h2⟩
    · cases k with
      | ro h1 h2 => exact ⟨_, _, rfl, .inl (h.sub.seq h1), h2⟩
  | bw i =>
    obtain ⟨a, vs, h1, h2, h3⟩ := lsL_ok h k (ds := ds) (by
      simp only [R.els] at e
      simp only [R.lsL]
      exact e)
    exact ⟨a, vs, h1, .inl (.inl (.inl h2)), h3⟩
  | nw o =>
    cases o <;> simp only [R.els, reduceCtorEq, Option.some.injEq] at e
    obtain ⟨a, vs, h1, h2, h3⟩ := lsL_ok h k (ds := ds) (by subst e; rfl)
    exact ⟨a, vs, h1, .inl (.inl (.inl h2)), h3⟩
  | rf a => cases e
theorem tup_ok (h : Rel c σ H F δ) (k : Dp g F v (.tup ds)) : ∃ a vs, v = .ref a ∧ SqT g.K H a vs ∧ DpL g F vs ds := by
  cases k with
  | tup h1 h2 => exact ⟨_, _, rfl, sqT_mono h.sub h1, h2⟩
/-- what is flat -/
theorem flat_v {v : V} (k : Dp g F v d) : (∀ i, d = .int i → v = .int i) ∧ (∀ b, d = .bl b → v = .bl b) ∧ (∀ s, d = .str s → v = .str s) ∧ (d = .non → v = .non) := by
  refine ⟨fun i e => ?_, fun b e => ?_, fun s e => ?_, fun e => ?_⟩ <;> (subst e; cases k; rfl)
theorem d_rI0 {gg : Int → Int → V} (hx : x = .fz (.int i)) (hy : y = .fz (.int j)) (hd : flatD (gg i j) = some d) (q : Q (.fz d) δ) : DO c (rI0 gg) x y δ Q := fun σ H F v w QV R k1 k2 k => by
  subst hx; subst hy
  cases k1; cases k2
  exact ⟨i, j, rfl, rfl, k _ H F _ _ q R (Same.refl F) (flatD_ok hd)⟩
theorem d_rI {gg : Int → Int → V} {C : Int → Int → Prop} (hx : x = .fz (.int i)) (hy : y = .fz (.int j)) (hd : flatD (gg i j) = some d) (hC : C i j) (q : Q (.fz d) δ) : DO c (rI C gg) x y δ Q := fun σ H F v w QV R k1 k2 k => by
  subst hx; subst hy
  cases k1; cases k2
  exact ⟨i, j, rfl, rfl, hC, k _ H F _ _ q R (Same.refl F) (flatD_ok hd)⟩
theorem d_rU {gg : Int → V} (hx : x = .fz (.int i)) (hd : flatD (gg i) = some d) (q : Q (.fz d) δ) : DU c (rU gg) x δ Q := fun σ H F v QV R k1 k => by
  subst hx
  cases k1
  exact ⟨i, rfl, k _ H F _ _ q R (Same.refl F) (flatD_ok hd)⟩
def scalD : D → D → Bool
  | .non, .non => true | .non, .int _ => true | .int _, .non => true | .non, .bl _ => true | .bl _, .non => true | .non, .str _ => true | .str _, .non => true
  | .int _, .int _ => true | .bl _, .bl _ => true | .str _, .str _ => true
  | .int _, .str _ => true | .str _, .int _ => true | .bl _, .str _ => true | .str _, .bl _ => true
  | _, _ => false
def eqF : D → D → Bool
  | .non, .non => true
  | .int a, .int b => decide (a = b)
  | .bl a, .bl b => decide (a = b)
  | .str a, .str b => decide (a = b)
  | _, _ => false
theorem scal_ok {v w : V} {d e : D} (k1 : Dp g F v d) (k2 : Dp g F w e) (h : scalD d e = true) : scal v w = true ∧ decide (v = w) = eqF d e := by
  cases k1 <;> cases k2 <;> simp only [scalD, Bool.false_eq_true] at h <;> first
    | exact ⟨rfl, by simp [eqF]⟩
theorem d_eq (hx : x = .fz d) (hy : y = .fz e) (h : scalD d e = true) (q : Q (.fz (.bl (eqF d e))) δ) : DO c rEq x y δ Q := fun σ H F v w QV R k1 k2 k => by
  subst hx; subst hy
  obtain ⟨h1, h2⟩ := scal_ok k1 k2 h
  exact ⟨h1, k _ H F _ _ q R (Same.refl F) (by rw [h2]; exact .bl _)⟩
theorem d_ne (hx : x = .fz d) (hy : y = .fz e) (h : scalD d e = true) (q : Q (.fz (.bl (!eqF d e))) δ) : DO c rNe x y δ Q := fun σ H F v w QV R k1 k2 k => by
  subst hx; subst hy
  obtain ⟨h1, h2⟩ := scal_ok k1 k2 h
  exact ⟨h1, k _ H F _ _ q R (Same.refl F) (by rw [h2]; exact .bl _)⟩
/-! == at any depth -/
mutual
def pyD : D → Option PyData
  | .non => some .none
  | .bl b => some (.bool b)
  | .int i => some (.int i)
  | .str s => some (.str s)
  | .tup l => (pyL l).map PyData.tuple
  | .lst l => (pyL l).map PyData.list
  | _ => none
def pyL : List D → Option (List PyData)
  | [] => some []
  | d :: r => match pyD d, pyL r with
    | some p, some q => some (p :: q)
    | _, _ => none
end
mutual
theorem pyD_ok : ∀ {d : D} {v : V} {p : PyData}, Dp g F v d → pyD d = some p → L2.Dp g.K F v p
  | _, _, _, .non, e => by simp only [pyD, Option.some.injEq] at e; subst e; exact .non
  | _, _, _, .bl b, e => by simp only [pyD, Option.some.injEq] at e; subst e; exact .bl b
  | _, _, _, .int i, e => by simp only [pyD, Option.some.injEq] at e; subst e; exact .int i
  | _, _, _, .str s, e => by simp only [pyD, Option.some.injEq] at e; subst e; exact .str s
  | _, _, _, .tyN s, e => by simp [pyD] at e
  | _, _, _, .tup h l, e => by
    simp only [pyD, Option.map_eq_some_iff] at e
    obtain ⟨q, e1, e2⟩ := e
    subst e2
    exact .tup h (pyL_ok l e1)
  | _, _, _, .lst h l, e => by
    simp only [pyD, Option.map_eq_some_iff] at e
    obtain ⟨q, e1, e2⟩ := e
    subst e2
    exact .lst (.inl (.inl h)) (pyL_ok l e1)
  | _, _, _, .ro h l, e => by simp [pyD] at e
  | _, _, _, .dk h _ l, e => by simp [pyD] at e
  | _, _, _, .dt h _ l, e => by simp [pyD] at e
  | _, _, _, .dn h _ l, e => by simp [pyD] at e
  | _, _, _, .ob h _ l, e => by simp [pyD] at e
theorem pyL_ok : ∀ {ds : List D} {vs : List V} {ps : List PyData}, DpL g F vs ds → pyL ds = some ps → L2.DpAll g.K F vs ps
  | _, _, _, .nil, e => by simp only [pyL, Option.some.injEq] at e; subst e; exact .nil
  | _, _, _, .cons h t, e => by
    simp only [pyL] at e
    split at e
    · rename_i p q e1 e2
      cases e
      exact .cons (pyD_ok h e1) (pyL_ok t e2)
    · cases e
end
theorem d_eqD {p p' : PyData} (hx : x.dat δ = some d) (hy : y.dat δ = some e) (h1 : pyD d = some p) (h2 : pyD e = some p') (s1 : SeqAt.shaped p = true) (s2 : SeqAt.shaped p' = true) (q : Q (.fz (.bl (PyData.eqv p p'))) δ) :
    DO c (rEqD g.K) x y δ Q := fun σ H F v w QV R k1 k2 k => ⟨p, p', pyD_ok (rep_dat R k1 hx) h1, pyD_ok (rep_dat R k2 hy) h2, s1, s2, k _ H F _ _ q R (Same.refl F) (.bl _)⟩
theorem d_neD {p p' : PyData} (hx : x.dat δ = some d) (hy : y.dat δ = some e) (h1 : pyD d = some p) (h2 : pyD e = some p') (s1 : SeqAt.shaped p = true) (s2 : SeqAt.shaped p' = true) (q : Q (.fz (.bl (!PyData.eqv p p'))) δ) :
    DO c (rNeD g.K) x y δ Q := fun σ H F v w QV R k1 k2 k => ⟨p, p', pyD_ok (rep_dat R k1 hx) h1, pyD_ok (rep_dat R k2 hy) h2, s1, s2, k _ H F _ _ q R (Same.refl F) (.bl _)⟩
/-! is None, is a truth -/
def D.isN : D → Bool
  | .non => true
  | _ => false
theorem isN_ok {v : V} (k : Dp g F v d) : decide (v = .non) = d.isN := by cases k <;> rfl
theorem d_isN (hx : x.dat δ = some d) (hy : y = .fz .non) (q : Q (.fz (.bl d.isN)) δ) : DO c rIsN x y δ Q := fun σ H F v w QV R k1 k2 k => by
  subst hy
  cases k2
  exact ⟨rfl, k _ H F _ _ q R (Same.refl F) (by rw [isN_ok (rep_dat R k1 hx)]; exact .bl _)⟩
theorem d_notN (hx : x.dat δ = some d) (hy : y = .fz .non) (q : Q (.fz (.bl (!d.isN))) δ) : DO c rNotN x y δ Q := fun σ H F v w QV R k1 k2 k => by
  subst hy
  cases k2
  exact ⟨rfl, k _ H F _ _ q R (Same.refl F) (by rw [isN_ok (rep_dat R k1 hx)]; exact .bl _)⟩
theorem d_isB {a b : Bool} (hx : x = .fz (.bl a)) (hy : y = .fz (.bl b)) (q : Q (.fz (.bl (decide (a = b)))) δ) : DO c rIsB x y δ Q := fun σ H F v w QV R k1 k2 k => by
  subst hx; subst hy
  cases k1; cases k2
  exact ⟨a, b, rfl, rfl, k _ H F _ _ q R (Same.refl F) (.bl _)⟩
theorem d_notB {a b : Bool} (hx : x = .fz (.bl a)) (hy : y = .fz (.bl b)) (q : Q (.fz (.bl (!decide (a = b)))) δ) : DO c rNotB x y δ Q := fun σ H F v w QV R k1 k2 k => by
  subst hx; subst hy
  cases k1; cases k2
  exact ⟨a, b, rfl, rfl, k _ H F _ _ q R (Same.refl F) (.bl _)⟩
/-! subscripts -/
theorem atI_dp {vs : List V} (h : DpL g F vs ds) (e : atI ds i = some d) : ∃ v, atI vs i = some v ∧ Dp g F v d := by
  unfold atI at e ⊢
  rw [h.length]
  cases q : ixN ds.length i with
  | none => rw [q] at e; cases e
  | some j =>
    rw [q] at e
    exact h.get e
theorem d_ix (hx : x.els δ = some ds) (hy : y = .fz (.int i)) (ha : atI ds i = some d) (q : Q (.fz d) δ) : DO c (rIx g.K) x y δ Q := fun σ H F v w QV R k1 k2 k => by
  subst hy
  cases k2
  obtain ⟨a, vs, rfl, hs, hd⟩ := els_ok R k1 hx
  obtain ⟨u, e1, e2⟩ := atI_dp hd ha
  have kk := k u H F _ _ q R (Same.refl F) e2
  rcases hs with hs | hs
  · exact .inl ⟨a, vs, i, u, rfl, rfl, hs, e1, kk⟩
  · exact .inr (.inl ⟨a, vs, i, u, rfl, rfl, hs, e1, kk⟩)
theorem d_ixS {z : Str} {ch : Nat} (hx : x = .fz (.str z)) (hy : y = .fz (.int i)) (hz : z.length ≤ sizeLine) (ha : atI z.cps.toList i = some ch) (q : Q (.fz (.str ⟨#[ch]⟩)) δ) : DO c rIxS x y δ Q := fun σ H F v w QV R k1 k2 k => by
  subst hx; subst hy
  cases k1; cases k2
  exact ⟨z, i, ch, rfl, rfl, hz, ha, k _ H F _ _ q R (Same.refl F) (.str _)⟩
/-! built-ins -/
theorem one_rep {vs : List V} (h : RepL c σ H F δ vs [x]) : ∃ v, vs = [v] ∧ RRep c σ H F δ v x := by
  cases h with
  | cons _ h t => cases t; exact ⟨_, rfl, h⟩
theorem two_rep {vs : List V} (h : RepL c σ H F δ vs [x, y]) : ∃ v w, vs = [v, w] ∧ RRep c σ H F δ v x ∧ RRep c σ H F δ w y := by
  cases h with
  | cons _ h t =>
    obtain ⟨w, rfl, h2⟩ := one_rep t
    exact ⟨_, w, rfl, h, h2⟩
theorem d_len (hx : x.els δ = some ds) (q : Q (.fz (.int (ds.length : Nat))) δ) : DC c (rLenK g.K) [x] δ Q := fun σ H F vs QV R k1 k => by
  obtain ⟨v, rfl, h⟩ := one_rep k1
  obtain ⟨a, ws, rfl, hs, hd⟩ := els_ok R h hx
  have kk := k _ H F _ _ q R (Same.refl F) (Dp.int (g := g) (F := F) _)
  rw [← hd.length] at kk
  rcases hs with hs | hs
  · exact ⟨_, _, rfl, .inl ⟨_, hs, rfl⟩, kk⟩
  · exact ⟨_, _, rfl, .inr ⟨_, hs, rfl⟩, kk⟩
theorem d_lenS {z : Str} (hx : x = .fz (.str z)) (hz : z.length ≤ sizeLine) (q : Q (.fz (.int (z.length : Nat))) δ) : DC c (rLenK g.K) [x] δ Q := fun σ H F vs QV R k1 k => by
  obtain ⟨v, rfl, h⟩ := one_rep k1
  subst hx
  cases h
  exact ⟨_, _, rfl, ⟨hz, rfl⟩, k _ H F _ _ q R (Same.refl F) (.int _)⟩
theorem d_max2 (hx : x = .fz (.int i)) (hy : y = .fz (.int j)) (q : Q (.fz (.int (max i j))) δ) : DC c rMax2 [x, y] δ Q := fun σ H F vs QV R k1 k => by
  obtain ⟨v, w, rfl, h1, h2⟩ := two_rep k1
  subst hx; subst hy
  cases h1; cases h2
  exact i_max2 (k _ H F _ _ q R (Same.refl F) (.int _))
theorem d_min2 (hx : x = .fz (.int i)) (hy : y = .fz (.int j)) (q : Q (.fz (.int (min i j))) δ) : DC c rMin2 [x, y] δ Q := fun σ H F vs QV R k1 k => by
  obtain ⟨v, w, rfl, h1, h2⟩ := two_rep k1
  subst hx; subst hy
  cases h1; cases h2
  exact i_min2 (k _ H F _ _ q R (Same.refl F) (.int _))
theorem d_abs (hx : x = .fz (.int i)) (q : Q (.fz (.int (if i < 0 then -i else i))) δ) : DC c rAbs [x] δ Q := fun σ H F vs QV R k1 k => by
  obtain ⟨v, rfl, h1⟩ := one_rep k1
  subst hx
  cases h1
  exact i_abs (k _ H F _ _ q R (Same.refl F) (.int _))
theorem d_int1 (hx : x = .fz (.int i)) (q : Q (.fz (.int i)) δ) : DC c rInt1 [x] δ Q := fun σ H F vs QV R k1 k => by
  obtain ⟨v, rfl, h1⟩ := one_rep k1
  subst hx
  cases h1
  exact i_int1 (k _ H F _ _ q R (Same.refl F) (.int _))
/-! lists of truths, of ints -/
theorem dp_bls {bs : List Bool} : ∀ {vs : List V}, DpL g F vs (bs.map D.bl) → vs = bs.map V.bl := by
  induction bs with
  | nil => intro vs h; cases h; rfl
  | cons b bs ih =>
    intro vs h
    rw [List.map_cons] at h
    cases h with
    | cons h t => cases h; rw [ih t]; rfl
theorem dp_ints {bs : List Int} : ∀ {vs : List V}, DpL g F vs (bs.map D.int) → vs = bs.map V.int := by
  induction bs with
  | nil => intro vs h; cases h; rfl
  | cons b bs ih =>
    intro vs h
    rw [List.map_cons] at h
    cases h with
    | cons h t => cases h; rw [ih t]; rfl
/-- lists, read alone too -/
def R.lsR (δ : List Sl) : R → Option (List D)
  | .fz (.ro l) => some l
  | r => r.lsL δ
theorem lsR_ok (h : Rel c σ H F δ) (k : RRep c σ H F δ v r) (e : r.lsR δ = some ds) : ∃ a vs, v = .ref a ∧ SqL g.K H a vs ∧ DpL g F vs ds := by
  by_cases z : ∃ l, r = .fz (.ro l)
  · obtain ⟨l, rfl⟩ := z
    simp only [R.lsR, Option.some.injEq] at e
    subst e
    cases k with
    | ro h1 h2 => exact ⟨_, _, rfl, h.sub.seq h1, h2⟩
  · have e' : r.lsL δ = some ds := by
      unfold R.lsR at e
      split at e
      · exact absurd ⟨_, rfl⟩ z
      · exact e
    obtain ⟨a, vs, h1, h2, h3⟩ := lsL_ok h k e'
    exact ⟨a, vs, h1, .inl (.inl h2), h3⟩
theorem d_sum {ns : List Int} (hx : x.lsR δ = some ds) (hn : ds = ns.map D.int) (q : Q (.fz (.int ns.sum)) δ) : DC c (rSum g.K) [x] δ Q := fun σ H F vs QV R k1 k => by
  obtain ⟨v, rfl, h⟩ := one_rep k1
  obtain ⟨a, ws, rfl, hs, hd⟩ := lsR_ok R h hx
  subst hn
  rw [dp_ints hd] at hs
  exact ⟨a, ns, rfl, hs, k _ H F _ _ q R (Same.refl F) (.int _)⟩
theorem d_all {bs : List Bool} (hx : x.lsR δ = some ds) (hn : ds = bs.map D.bl) (q : Q (.fz (.bl (bs.all id))) δ) : DC c (rAll g.K) [x] δ Q := fun σ H F vs QV R k1 k => by
  obtain ⟨v, rfl, h⟩ := one_rep k1
  obtain ⟨a, ws, rfl, hs, hd⟩ := lsR_ok R h hx
  subst hn
  rw [dp_bls hd] at hs
  exact ⟨a, bs, rfl, hs, k _ H F _ _ q R (Same.refl F) (.bl _)⟩
theorem d_any {bs : List Bool} (hx : x.lsR δ = some ds) (hn : ds = bs.map D.bl) (q : Q (.fz (.bl (bs.any id))) δ) : DC c (rAny g.K) [x] δ Q := fun σ H F vs QV R k1 k => by
  obtain ⟨v, rfl, h⟩ := one_rep k1
  obtain ⟨a, ws, rfl, hs, hd⟩ := lsR_ok R h hx
  subst hn
  rw [dp_bls hd] at hs
  exact ⟨a, bs, rfl, hs, k _ H F _ _ q R (Same.refl F) (.bl _)⟩
/-! new tuples and lists -/
theorem Rel.new {p : Addr} {o : HO} (h : Rel c σ H F δ) (hp : H p = none) : Rel c σ (upd H p o) (upd F p o) δ ∧ Same F (upd F p o) ∧ Same H (upd H p o) := by
  have np : F p = none := by
    cases e : F p with
    | none => rfl
    | some u => have := h.sub p u e; rw [hp] at this; cases this
  have n0 : c.H0 p = none := by
    cases e : c.H0 p with
    | none => rfl
    | some u => exact absurd hp (h.fr2 p (by rw [e]; exact fun z => nomatch z))
  have sF : Same F (upd F p o) := Same.new np
  have sH : Same H (upd H p o) := Same.new hp
  have na : ∀ a ∈ adS δ, a ≠ p := fun a m z => h.has a m (by rw [z]; exact hp)
  refine ⟨⟨fun a u e => ?_, fun a u e1 e2 => sH _ _ (h.fr a u e1 e2), fun a z => ?_, fun a z => ?_, h.len, fun i d e => ?_, fun i o' e => ?_, h.nd, fun a m => ?_, h.lb.trans sF, h.rf⟩, sF, sH⟩
  · by_cases z : a = p
    · subst z; rw [upd_same] at e ⊢; exact e
    · rw [upd_ne z] at e ⊢; exact h.sub a u e
  · have := h.fr2 a z
    cases e : H a with
    | none => exact absurd e this
    | some u => rw [sH _ _ e]; exact fun z => nomatch z
  · have : a ≠ p := fun e => z (by rw [e]; exact n0)
    rw [upd_ne this]
    exact h.ff a z
  · obtain ⟨v, h1, h2⟩ := h.fz i d e
    exact ⟨v, h1, h2.mono sF⟩
  · obtain ⟨v, h1, h2⟩ := h.ow i o' e
    exact ⟨v, h1, h2.move sF fun a m => upd_ne (na a (mem_adS e m))⟩
  · rw [upd_ne (na a m)]
    exact h.fa a m
/-- the same, the new thing not given to the frozen part -/
theorem Rel.newO {p : Addr} {o : HO} (h : Rel c σ H F δ) (hp : H p = none) : Rel c σ (upd H p o) F δ ∧ F p = none ∧ c.H0 p = none ∧ p ∉ adS δ := by
  have np : F p = none := by
    cases e : F p with
    | none => rfl
    | some u => have := h.sub p u e; rw [hp] at this; cases this
  have n0 : c.H0 p = none := by
    cases e : c.H0 p with
    | none => rfl
    | some u => exact absurd hp (h.fr2 p (by rw [e]; exact fun z => nomatch z))
  have sH : Same H (upd H p o) := Same.new hp
  have na : ∀ a ∈ adS δ, a ≠ p := fun a m z => h.has a m (by rw [z]; exact hp)
  refine ⟨⟨fun a u e => sH _ _ (h.sub a u e), fun a u e1 e2 => sH _ _ (h.fr a u e1 e2), fun a z => ?_, h.ff, h.len, h.fz, fun i o' e => ?_, h.nd, h.fa, h.lb, h.rf⟩, np, n0, fun m => na p m rfl⟩
  · have := h.fr2 a z
    cases e : H a with
    | none => exact absurd e this
    | some u => rw [sH _ _ e]; exact fun z => nomatch z
  · obtain ⟨v, h1, h2⟩ := h.ow i o' e
    exact ⟨v, h1, h2.move (Same.refl F) fun a m => upd_ne (na a (mem_adS e m))⟩
theorem nw_ok {p : Addr} {vs : List V} (h : Rel c σ H F δ) (hp : H p = none) (hd : DpL g F vs ds) : Rel c σ (upd H p (.lst vs)) F δ ∧ RRep c σ (upd H p (.lst vs)) F δ (.ref p) (.nw (.fl p ds)) := by
  obtain ⟨R, h1, h2, h3⟩ := h.newO (o := .lst vs) hp
  refine ⟨R, .fl upd_same hd, ?_, fun a m => ?_⟩
  · simp only [OD.adrs, List.singleton_append, List.nodup_cons]
    exact ⟨h3, h.nd⟩
  · simp only [OD.adrs, List.mem_singleton] at m
    subst m
    exact ⟨h1, h2⟩
/-- all frozen data -/
inductive AllFz : List R → List D → Prop where
  | nil : AllFz [] []
  | cons {d : D} {rs : List R} {ds : List D} : AllFz rs ds → AllFz (.fz d :: rs) (d :: ds)
theorem allFz_ok : ∀ {vs : List V} {rs : List R} {ds : List D}, RepL c σ H F δ vs rs → AllFz rs ds → DpL g F vs ds
  | _, _, _, .nil, .nil => .nil
  | _, _, _, .cons _ h t, .cons a => .cons h (allFz_ok t a)
def fzs : List R → Option (List D)
  | [] => some []
  | .fz d :: rs => (fzs rs).map (d :: ·)
  | _ => none
theorem fzs_ok : ∀ {rs : List R} {ds : List D}, fzs rs = some ds → AllFz rs ds
  | [], _, e => by cases e; exact .nil
  | .fz d :: rs, ds, e => by
    simp only [fzs, Option.map_eq_some_iff] at e
    obtain ⟨q, e1, e2⟩ := e
    subst e2
    exact .cons (fzs_ok e1)
  | .bw _ :: _, _, e => by simp [fzs] at e
  | .nw _ :: _, _, e => by simp [fzs] at e
  | .rf _ :: _, _, e => by simp [fzs] at e
theorem d_tup {tr : TA} (q : DA c tr δ fun rs δ1 => ∃ ds, fzs rs = some ds ∧ ds.length ≤ sizeLine ∧ Q (.fz (.tup ds)) δ1) : DE c (tTup tr) δ Q := fun σ H F QV R k =>
  q σ H F _ R fun vs H1 F1 rs δ1 ⟨ds, e, l, q1⟩ R1 s1 rep => by
    have hd := allFz_ok rep (fzs_ok e)
    refine ⟨by rw [hd.length]; exact l, fun p hp => ?_⟩
    obtain ⟨R2, s2, _⟩ := R1.new (o := .tup vs) hp
    exact k _ _ _ _ δ1 q1 R2 (s1.trans s2) (.tup (.inl (.inl upd_same)) (hd.mono s2))
theorem d_lst {tr : TA} (q : DA c tr δ fun rs δ1 => ∃ ds, fzs rs = some ds ∧ ds.length ≤ sizeLine ∧ ∀ p, Q (.nw (.fl p ds)) δ1) : DE c (tLst tr) δ Q := fun σ H F QV R k =>
  q σ H F _ R fun vs H1 F1 rs δ1 ⟨ds, e, l, q1⟩ R1 s1 rep => by
    have hd := allFz_ok rep (fzs_ok e)
    refine ⟨by rw [hd.length]; exact l, fun p hp => ?_⟩
    obtain ⟨R2, rep2⟩ := nw_ok R1 hp hd
    exact k _ _ _ _ δ1 (q1 p) R2 s1 rep2
theorem d_listOf (hx : x.els δ = some ds) (q : ∀ p, Q (.nw (.fl p ds)) δ) : DC c (fun xs H Q => ∃ p ys, xs = [.ref p] ∧ (SqL g.K H p ys ∨ SqT g.K H p ys) ∧ ∀ l, H l = none → Q (.ref l) (upd H l (.lst ys))) [x] δ Q := fun σ H F vs QV R k1 k => by
  obtain ⟨v, rfl, h⟩ := one_rep k1
  obtain ⟨a, ws, rfl, hs, hd⟩ := els_ok R h hx
  refine ⟨a, ws, rfl, hs, fun l hl => ?_⟩
  obtain ⟨R2, rep2⟩ := nw_ok R hl hd
  exact k _ _ _ _ δ (q l) R2 (Same.refl F) rep2
theorem d_tupOf (hx : x.els δ = some ds) (q : Q (.fz (.tup ds)) δ) : DC c (fun xs H Q => ∃ p ys, xs = [.ref p] ∧ ((SqL g.K H p ys ∧ ∀ l, H l = none → Q (.ref l) (upd H l (.tup ys))) ∨ (SqT g.K H p ys ∧ Q (.ref p) H))) [x] δ Q := fun σ H F vs QV Rr k1 k => by
  obtain ⟨v, rfl, h⟩ := one_rep k1
  have new : ∀ (ws : List V), DpL g F ws ds → ∀ l, H l = none → QV (.ref l) (upd H l (.tup ws)) := fun ws hd l hl => by
    obtain ⟨R2, s2, _⟩ := Rr.new (o := .tup ws) hl
    exact k _ _ _ _ δ q R2 s2 (.tup (.inl (.inl upd_same)) (hd.mono s2))
  by_cases z : ∃ l, x = .fz (.tup l)
  · obtain ⟨l, rfl⟩ := z
    simp only [R.els, Option.some.injEq] at hx
    subst hx
    obtain ⟨a, ws, rfl, hs, hd⟩ := tup_ok Rr h
    exact ⟨a, ws, rfl, .inr ⟨hs, k _ H F _ δ q Rr (Same.refl F) h⟩⟩
  · have e' : x.lsR δ = some ds := by
      cases x with
      | fz d => cases d <;> simp only [R.els, reduceCtorEq, Option.some.injEq] at hx <;> first | exact absurd ⟨_, rfl⟩ z | (subst hx; rfl)
      | bw i => exact hx
      | nw o => cases o <;> simp only [R.els, reduceCtorEq, Option.some.injEq] at hx; subst hx; rfl
      | rf a => cases hx
    obtain ⟨a, ws, rfl, hs, hd⟩ := lsR_ok Rr h e'
    exact ⟨a, ws, rfl, .inl ⟨hs, new ws hd⟩⟩
/-! isinstance -/
def D.ty : D → String
  | .non => "NoneType"
  | .bl _ => "bool"
  | .int _ => "int"
  | .str _ => "str"
  | .tup _ => "tuple"
  | .lst _ => "list"
  | .ro _ => "list"
  | .dk _ => "dict"
  | .dt _ => "dict"
  | .dn _ => "dict"
  | .ob _ _ => "object"
  | .tyN _ => "type"
def rIsD (K : PySem.W.Frag) : List V → Hp → VK → Prop := fun xs H Q => ∃ (x : V) (T n : String) (b : Bool), xs = [x, .ty T] ∧ TyX K H x (.type n) ∧ kitB n T = some b ∧ Q (.bl b) H
theorem call_isD {X : Cx} : CallR X (.builtin "isinstance") (rIsD X.K) := by
  intro pins s σ H xs us Q I r h
  obtain ⟨x, T, n, b, e, h1, h2, q⟩ := h
  exact call_isi pins s σ H xs us Q I r ⟨x, .ty T, .type n, .type T, b, e, .ty T, h1, kit_ty h2, q⟩
/-- the data is of the type, or not -/
def D.isT (T : String) (d : D) : Option Bool :=
  match d with
  | .ob _ _ => none
  | .tyN _ => none
  | .dn _ => none
  | _ => kitB d.ty T
theorem ty_ok {v : V} (k : Dp g H v d) (n : ∀ C fs, d ≠ .ob C fs) (n2 : ∀ t, d ≠ .tyN t) (n3 : ∀ l, d ≠ .dn l) : TyX g.K H v (.type d.ty) := by
  cases k with
  | non => exact .base .non
  | bl b => exact .base (.bl b)
  | int i => exact .base (.int i)
  | str s => exact .base (.str s)
  | tyN t => exact absurd rfl (n2 t)
  | tup h l =>
    rcases h with (h | ⟨o, h⟩) | ⟨o, its, m, h, h1, _⟩
    · exact .base (.tup h)
    · exact .fTuple h
    · exact .kTuple h h1
  | lst h l => exact .base (.lst h)
  | ro h l =>
    rcases h with (h | ⟨o, h⟩) | ⟨o, its, m, h, h1, _⟩
    · exact .base (.lst h)
    · exact .base (.frz h)
    · exact .kList h h1
  | dk h _ l => exact .base (.dK h)
  | dt h _ l => exact .base (.dT h)
  | dn h _ l => exact absurd rfl (n3 _)
  | ob h _ l => exact absurd rfl (n _ _)
theorem d_isinst {T : String} {b : Bool} (hx : x.dat δ = some d) (ht : d.isT T = some b) (q : Q (.fz (.bl b)) δ) : DC c (rIsD g.K) [x, .fz (.tyN T)] δ Q := fun σ H F vs QV R k1 k => by
  obtain ⟨v, w, rfl, k3, k4⟩ := two_rep k1
  cases k4
  have hd := rep_dat R k3 hx
  refine ⟨v, T, d.ty, b, rfl, ty_ok hd (fun C fs z => ?_) (fun t z => ?_) (fun l z => ?_), ?_, k _ H F _ _ q R (Same.refl F) (.bl _)⟩
  · subst z; simp [D.isT] at ht
  · subst z; simp [D.isT] at ht
  · subst z; simp [D.isT] at ht
  · cases d <;> first | exact ht | (simp [D.isT] at ht; done)
end
end KD

set_option maxHeartbeats 4000000
namespace KD
open PySem PySem.Spec PyProof.Rows L2 KB
/-! ### what is held alone is changed -/
section
variable {g : Gb} {c : Cn g} {σ : L2.St} {H F F' H' : Hp} {δ : List Sl} {v : V} {r x y : R} {ds es : List D} {d e : D} {o o2 : OD} {i j : Nat} {Q : R → List Sl → Prop} {P : PD}
theorem at_lt {δ : List Sl} {i : Nat} {s : Sl} (h : δ[i]? = some s) : i < δ.length := by
  rcases Nat.lt_or_ge i δ.length with z | z
  · exact z
  · rw [List.getElem?_eq_none_iff.mpr z] at h; cases h
theorem nd_at (R : Rel c σ H F δ) (hi : δ[i]? = some (.ow o)) : (o.adrs ++ adS (δ.set i .no)).Nodup := by
  have hl := at_lt hi
  have eδ : δ.set i (.ow o) = δ := by
    rw [List.getElem?_eq_getElem hl] at hi
    rw [← Option.some.inj hi, List.set_getElem_self]
  exact (perm_adS (s := .ow o) hl).nodup_iff.mp (by rw [eδ]; exact R.nd)
/-- the general change: by a call, by a method -/
theorem Rel.chg (R : Rel c σ H F δ) (hi : δ[i]? = some (.ow o)) (sF : Same F F') (sub : Same F' H') (k : ∀ b u, H b = some u → b ∉ o.adrs → H' b = some u) (k2 : ∀ b, H b ≠ none → H' b ≠ none) (kf : ∀ b, H b ≠ none → F' b = F b)
    (w : ∀ v, σ[i]? = some (some v) → Ow g H F v o → Ow g H' F' v o2) (nd : o2.adrs.Nodup) (fa : ∀ b ∈ o2.adrs, F' b = none ∧ (H b = none ∨ b ∈ o.adrs)) : Rel c σ H' F' (δ.set i (.ow o2)) := by
  have hl := at_lt hi
  have nd0 := nd_at R hi
  have h0H : ∀ b, c.H0 b ≠ none → H b ≠ none := R.fr2
  have other : ∀ j o', i ≠ j → δ[j]? = some (Sl.ow o') → ∀ b ∈ o'.adrs, b ∉ o.adrs := fun j o' ne e b m z => by
    have m' : b ∈ adS (δ.set i .no) := mem_adS (i := j) (o := o') (by rw [List.getElem?_set_ne ne]; exact e) m
    exact (List.nodup_append.mp nd0).2.2 b z b m' rfl
  have pm := perm_adS (s := .ow o2) hl
  have mine : ∀ b ∈ o.adrs, b ∈ adS δ := fun b m => mem_adS hi m
  refine ⟨sub, fun a u e1 e2 => k a u (R.fr a u e1 e2) fun m => ?_, fun a z => k2 a (h0H a z), fun a z => (kf a (h0H a z)).trans (R.ff a z), by rw [List.length_set]; exact R.len, fun j d e => ?_, fun j o' e => ?_, pm.nodup_iff.mpr ?_, fun a m => ?_, R.lb.trans sF, fun j a e => ?_⟩
  · rcases (R.fa a (mine a m)).2 with z | z
    · rw [e1] at z; cases z
    · exact e2 z
  · by_cases z : i = j
    · subst z; rw [List.getElem?_set, if_pos rfl, if_pos hl] at e; cases e
    · rw [List.getElem?_set_ne z] at e
      obtain ⟨v, h1, h2⟩ := R.fz j d e
      exact ⟨v, h1, h2.mono sF⟩
  · by_cases z : i = j
    · subst z
      rw [List.getElem?_set, if_pos rfl, if_pos hl] at e
      cases e
      obtain ⟨v, h1, h2⟩ := R.ow i o hi
      exact ⟨v, h1, w v h1 h2⟩
    · rw [List.getElem?_set_ne z] at e
      obtain ⟨v, h1, h2⟩ := R.ow j o' e
      refine ⟨v, h1, h2.move sF fun b m => ?_⟩
      have hb := h2.has b m
      cases q : H b with
      | none => exact absurd q hb
      | some u => exact k b u q (other j o' z e b m)
  · refine List.nodup_append.mpr ⟨nd, (List.nodup_append.mp nd0).2.1, fun a m1 b m2 z => ?_⟩
    subst z
    rcases (fa a m1).2 with q | q
    · exact R.has a ((sub_no δ i).subset m2) q
    · exact (List.nodup_append.mp nd0).2.2 a q a m2 rfl
  · rcases List.mem_append.mp (pm.subset m) with m | m
    · refine ⟨(fa a m).1, ?_⟩
      rcases (fa a m).2 with q | q
      · left
        cases z : c.H0 a with
        | none => rfl
        | some u => exact absurd q (h0H a (by rw [z]; exact fun z => nomatch z))
      · exact (R.fa a (mine a q)).2
    · have m' := (sub_no δ i).subset m
      have hb := R.has a m'
      exact ⟨(kf a hb).trans (R.fa a m').1, (R.fa a m').2⟩
  · by_cases z : i = j
    · subst z; rw [List.getElem?_set, if_pos rfl, if_pos hl] at e; cases e
    · rw [List.getElem?_set_ne z] at e; exact R.rf j a e
/-- one object of it is changed -/
theorem Rel.chg1 {a : Addr} {u : HO} (R : Rel c σ H F δ) (hi : δ[i]? = some (.ow o)) (ha : a ∈ o.adrs) (e : o2.adrs = o.adrs) (w : ∀ v, Ow g H F v o → Ow g (upd H a u) F v o2) : Rel c σ (upd H a u) F (δ.set i (.ow o2)) := by
  have fa := R.fa
  have mine : ∀ b ∈ o.adrs, b ∈ adS δ := fun b m => mem_adS hi m
  have nF : F a = none := (fa a (mine a ha)).1
  refine R.chg hi (Same.refl F) (fun b z q => ?_) (fun b z q nb => ?_) (fun b q => ?_) (fun b _ => rfl) (fun v _ h => w v h) (by rw [e]; exact (List.nodup_append.mp (nd_at R hi)).1) fun b m => ⟨(fa b (mine b (by rw [← e]; exact m))).1, .inr (by rw [← e]; exact m)⟩
  · have : b ≠ a := fun z => by subst z; rw [nF] at q; cases q
    rw [upd_ne this]; exact R.sub b z q
  · have : b ≠ a := fun z => by subst z; exact nb ha
    rw [upd_ne this]; exact q
  · by_cases z : b = a
    · subst z; rw [upd_same]; exact fun z => nomatch z
    · rw [upd_ne z]; exact q
theorem fl_chg {a : Addr} {ws : List V} (R : Rel c σ H F δ) (hi : δ[i]? = some (.ow (.fl a ds))) (hd : DpL g F ws es) : Rel c σ (upd H a (.lst ws)) F (δ.set i (.ow (.fl a es))) := by
  refine R.chg1 hi (by simp [OD.adrs]) rfl fun v h => ?_
  cases h with
  | fl _ _ => exact .fl upd_same hd
theorem fl_at {a : Addr} (R : Rel c σ H F δ) (hi : δ[i]? = some (.ow (.fl a ds))) (hv : σ[i]? = some (some v)) : ∃ vs, v = .ref a ∧ H a = some (.lst vs) ∧ DpL g F vs ds := by
  obtain ⟨w, h1, h2⟩ := R.ow i _ hi
  rw [hv] at h1
  cases h1
  cases h2 with
  | fl h3 h4 => exact ⟨_, rfl, h3, h4⟩
/-! methods of lists -/
theorem d_BM {K : PySem.W.Frag} {f : V → List V → Hp → VK → Prop} {te : TE} {tr : TA} (hK : K = g.K) (q : DE c te δ fun x δ1 => (∃ ds, x.frz.lsL δ1 = some ds) ∧ DA c tr δ1 fun xs δ2 => DM c f x.frz xs δ2 Q) : DE c (tBM K "list" f te tr) δ Q := fun σ H F QV R k => by
  subst hK
  refine de_frz (QV := fun x H1 => tyV g.K "list" x H1 ∧ tr σ H1 fun xs H2 => f x xs H2 QV) q R fun v H1 F1 x δ1 ⟨⟨ds, e⟩, q1⟩ R1 s1 rep1 => ?_
  obtain ⟨a, vs, rfl, h1, _⟩ := lsL_ok R1 rep1 e
  refine ⟨.inl ⟨rfl, _, .inl (.inl h1)⟩, q1 σ H1 F1 _ R1 fun ws H2 F2 xs δ2 q2 R2 s2 rep2 => ?_⟩
  exact q2 σ H2 F2 _ ws QV R2 (rep_keep rep1 (frz_frz _) s2) rep2 fun v' H' F' r δ' q' R' s' => k v' H' F' r δ' q' R' ((s1.trans s2).trans s')
theorem d_BM0 {K : PySem.W.Frag} {f : V → List V → Hp → VK → Prop} {te : TE} (hK : K = g.K) (q : DE c te δ fun x δ1 => (∃ ds, x.frz.lsL δ1 = some ds) ∧ DM c f x.frz [] δ1 Q) : DE c (tBM0 K "list" f te) δ Q := fun σ H F QV R k => by
  subst hK
  refine de_frz (QV := fun x H1 => tyV g.K "list" x H1 ∧ f x [] H1 QV) q R fun v H1 F1 x δ1 ⟨⟨ds, e⟩, q1⟩ R1 s1 rep1 => ?_
  obtain ⟨a, vs, rfl, h1, _⟩ := lsL_ok R1 rep1 e
  exact ⟨.inl ⟨rfl, _, .inl (.inl h1)⟩, q1 σ H1 F1 _ [] QV R1 rep1 .nil fun v' H' F' r δ' q' R' s' => k v' H' F' r δ' q' R' (s1.trans s')⟩
theorem d_append {a : Addr} (hx : x = .bw i) (hy : y = .fz d) (hi : δ[i]? = some (.ow (.fl a ds))) (hl : ds.length < sizeLine) (q : Q (.fz .non) (δ.set i (.ow (.fl a (ds ++ [d]))))) : DM c rAppend x [y] δ Q := fun σ H F v vs QV R k1 k2 k => by
  subst hx; subst hy
  obtain ⟨w, rfl, hw⟩ := one_rep k2
  obtain ⟨ws, rfl, h1, h2⟩ := fl_at R hi k1
  exact ⟨a, ws, w, rfl, rfl, h1, by rw [h2.length]; exact hl, k _ _ F _ _ q (fl_chg R hi (h2.append (.cons hw .nil))) (Same.refl F) .non⟩
theorem d_extend {a : Addr} (hx : x = .bw i) (hy : y.lsL δ = some es) (hi : δ[i]? = some (.ow (.fl a ds))) (hl : ds.length + es.length ≤ sizeLine) (q : Q (.fz .non) (δ.set i (.ow (.fl a (ds ++ es))))) : DM c rExtend x [y] δ Q := fun σ H F v vs QV R k1 k2 k => by
  subst hx
  obtain ⟨w, rfl, hw⟩ := one_rep k2
  obtain ⟨ws, rfl, h1, h2⟩ := fl_at R hi k1
  obtain ⟨b, us, rfl, h3, h4⟩ := lsL_ok R hw hy
  exact ⟨a, b, ws, us, rfl, rfl, h1, h3, by rw [h2.length, h4.length]; exact hl, k _ _ F _ _ q (fl_chg R hi (h2.append h4)) (Same.refl F) .non⟩
theorem DpL.dropLast {vs : List V} (h : DpL g F vs ds) : DpL g F vs.dropLast ds.dropLast := by
  rw [List.dropLast_eq_take, List.dropLast_eq_take, h.length]
  exact h.take _
theorem d_pop {a : Addr} (hx : x = .bw i) (hi : δ[i]? = some (.ow (.fl a ds))) (hl : ds[ds.length - 1]? = some d) (q : Q (.fz d) (δ.set i (.ow (.fl a ds.dropLast)))) : DM c rPop x [] δ Q := fun σ H F v vs QV R k1 k2 k => by
  subst hx
  cases k2
  obtain ⟨ws, rfl, h1, h2⟩ := fl_at R hi k1
  obtain ⟨u, e1, e2⟩ := h2.get hl
  rw [← h2.length] at e1
  exact ⟨a, ws, u, rfl, rfl, h1, e1, k _ _ F _ _ q (fl_chg R hi h2.dropLast) (Same.refl F) e2⟩
/-! stores -/
theorem d_setL {a : Addr} {k : Int} {to ti : TE} {Qn : List Sl → Prop} (q : DE c to δ fun x δ1 => DE c ti δ1 fun z δ2 => ∃ i a ds k j d, x = .bw i ∧ z = .fz (.int k) ∧ r.frz = .fz d ∧ δ2[i]? = some (.ow (.fl a ds)) ∧ ixN ds.length k = some j ∧ Qn (δ2.set i (.ow (.fl a (ds.set j d))))) : DG c (gSub to ti rSetL) r δ Qn := fun σ H F v S R rep kk => by
  obtain ⟨F0, s0, R0, rep0⟩ := frz_ok R rep
  refine q σ H F0 _ R0 fun u H1 F1 x δ1 q1 R1 s1 rep1 => q1 σ H1 F1 _ R1 fun w H2 F2 z δ2 q2 R2 s2 rep2 => ?_
  obtain ⟨i, a, ds, k, j, d, rfl, rfl, e, hi, hj, q⟩ := q2
  cases rep2
  rw [e] at rep0
  obtain ⟨vs, rfl, h1, h2⟩ := fl_at R2 hi rep1
  refine ⟨a, vs, k, j, rfl, rfl, h1, by rw [h2.length]; exact hj, ?_⟩
  exact kk _ _ F2 _ q (fl_chg R2 hi (h2.set j (Dp.mono (s1.trans s2) rep0))) ((s0.trans s1).trans s2)
/-! targets -/
theorem d_gtup {K : PySem.W.Frag} {n : Nat} {t : TGs} {Qn : List Sl → Prop} (hK : K = g.K) (hx : r = .fz (.tup ds)) (hn : ds.length = n) (q : ∀ vs σ H F S, DpL g F vs ds → Rel c σ H F δ → (∀ σ' H' F' δ', Qn δ' → Rel c σ' H' F' δ' → Same F F' → S σ' H') → t vs σ H S) : DG c (gTup K n t) r δ Qn := fun σ H F v S R rep k => by
  subst hK; subst hx
  obtain ⟨a, vs, rfl, h1, h2⟩ := tup_ok R rep
  exact ⟨a, vs, rfl, h1, by rw [h2.length]; exact hn, q vs σ H F S h2 R k⟩
/-- many targets take many things -/
def DGs (c : Cn g) (t : TGs) (ds : List D) (δ : List Sl) (Qn : List Sl → Prop) : Prop := ∀ vs σ H F (S : L2.St → Hp → Prop), DpL g F vs ds → Rel c σ H F δ → (∀ σ' H' F' δ', Qn δ' → Rel c σ' H' F' δ' → Same F F' → S σ' H') → t vs σ H S
theorem d_gcons {t : TG} {u : TGs} {Qn : List Sl → Prop} (q : DG c t (.fz d) δ fun δ1 => DGs c u ds δ1 Qn) : DGs c (gCons t u) (d :: ds) δ Qn := fun vs σ H F S h R k => by
  cases h with
  | cons h1 h2 => exact ⟨_, _, rfl, q σ H F _ _ R h1 fun σ1 H1 F1 δ1 q1 R1 s1 => q1 _ σ1 H1 F1 S (h2.mono s1) R1 fun σ2 H2 F2 δ2 q2 R2 s2 => k σ2 H2 F2 δ2 q2 R2 (s1.trans s2)⟩
theorem d_gnil {Qn : List Sl → Prop} (q : Qn δ) : DGs c gNil [] δ Qn := fun vs σ H F S h R k => by
  cases h
  exact ⟨rfl, k σ H F δ q R (Same.refl F)⟩
theorem d_gnameF {Qn : List Sl → Prop} (q : Qn (δ.set i (.fz d))) : DG c (gName i) (.fz d) δ Qn := d_gname q
theorem d_gnameN {Qn : List Sl → Prop} (q : Qn (δ.set i (.fz o.data))) : DG c (gName i) (.nw o) δ Qn := d_gname q
theorem d_gtupF {K : PySem.W.Frag} {n : Nat} {t : TGs} {Qn : List Sl → Prop} (hK : K = g.K) (hn : ds.length = n) (q : DGs c t ds δ Qn) : DG c (gTup K n t) (.fz (.tup ds)) δ Qn := d_gtup hK rfl hn q
theorem d_gsub {to ti : TE} {ts : TSet} {Qn : List Sl → Prop} (q : DG c (gSub to ti ts) r δ Qn) : DG c (gSub to ti ts) r δ Qn := q
/-- a, b = e1, e2 -/
theorem Rel.setR (h : Rel c σ H F δ) (k : RRep c σ H F δ v r) (n : r.frz = .fz d) : ∃ F', Same F F' ∧ Rel c (σ.set i (some v)) H F' (δ.set i (.fz d)) := by
  obtain ⟨F2, s2, R2, rep2⟩ := frz_ok h k
  rw [n] at rep2
  exact ⟨F2, s2, R2.setFz rep2⟩
theorem d_par {tr : TA} (q : DA c tr δ fun rs δ1 => ∃ d e, rs = [.fz d, .fz e] ∧ P.nx ((δ1.set i (.fz d)).set j (.fz e))) : DS c (tPar i j tr) δ P := fun σ H F E R k =>
  q σ H F _ R fun vs H1 F1 rs δ1 ⟨d, e, er, q1⟩ R1 s1 rep => by
    subst er
    obtain ⟨v, w, rfl, h1, h2⟩ := two_rep rep
    exact ⟨v, w, rfl, k.nx _ H1 F1 _ q1 ((R1.setFz h1).setFz h2) s1⟩
theorem d_par3 {l : Nat} {tr : TA} (q : DA c tr δ fun rs δ1 => ∃ d e f, rs = [.fz d, .fz e, .fz f] ∧ P.nx (((δ1.set i (.fz d)).set j (.fz e)).set l (.fz f))) : DS c (tPar3 i j l tr) δ P := fun σ H F E R k =>
  q σ H F _ R fun vs H1 F1 rs δ1 ⟨d, e, f, er, q1⟩ R1 s1 rep => by
    subst er
    cases rep with
    | cons _ h0 t =>
      obtain ⟨v, w, rfl, h1, h2⟩ := two_rep t
      exact ⟨_, v, w, rfl, k.nx _ H1 F1 _ q1 (((R1.setFz h0).setFz h1).setFz h2) s1⟩
end
/-! ### loops -/
structure ItOk {g : Gb} (c : Cn g) (F1 : Hp) (J : It) (n : Nat) (it : Nat → D) (ok : List Sl → Prop) : Prop where
  go : ∀ i σ H F δ, i < n → Rel c σ H F δ → Same F1 F → ok δ → J.go i H
  yld : ∀ i σ H F δ x H', i < n → Rel c σ H F δ → Same F1 F → ok δ → J.yld i H x H' → ∃ F', Rel c σ H' F' δ ∧ Same F F' ∧ Same H H' ∧ (∀ a, H a ≠ none → F' a = F a) ∧ Dp g F' x (it i)
  stop : ∀ σ H F δ, Rel c σ H F δ → Same F1 F → ok δ → J.stop n H
def DI {g : Gb} (c : Cn g) (wi : TI) (δ : List Sl) (Q : Nat → (Nat → D) → (List Sl → Prop) → List Sl → Prop) : Prop :=
  ∀ σ H F (S : It → Hp → Prop), Rel c σ H F δ → (∀ J H' F' n it ok δ', Q n it ok δ' → Rel c σ H' F' δ' → Same F F' → ItOk c F' J n it ok → S J H') → wi σ H S
section
variable {g : Gb} {c : Cn g} {σ : L2.St} {H F F' H' : Hp} {δ : List Sl} {v : V} {r x y : R} {ds es : List D} {d e : D} {o o2 : OD} {i j : Nat} {Q : R → List Sl → Prop} {P : PD} {QI : Nat → (Nat → D) → (List Sl → Prop) → List Sl → Prop}
theorem getD_dp {vs : List V} {v : V} (h : DpL g F vs ds) (e : vs[i]? = some v) : Dp g F v (ds.getD i .non) := by
  obtain ⟨d, h1, h2⟩ := h.getv e
  rw [List.getD_eq_getElem?_getD, h1]
  exact h2
theorem itl_fz {a : Addr} {vs : List V} (hs : SqL g.K F a vs) (hd : DpL g F vs ds) : ItOk c F (Itl g.K a) ds.length (fun i => ds.getD i .non) (fun _ => True) where
  go := fun i σ H F2 δ hi R s _ => by
    have hi' : i < vs.length := by rw [hd.length]; exact hi
    exact ⟨vs, vs[i], (s.trans R.sub).seq hs, by rw [List.getElem?_eq_getElem hi']⟩
  yld := fun i σ H F2 δ x H' hi R s _ y => by
    obtain ⟨rfl, y⟩ := y
    exact ⟨F2, R, Same.refl F2, Same.refl _, fun _ _ => rfl, (getD_dp hd (y vs ((s.trans R.sub).seq hs))).mono s⟩
  stop := fun σ H F2 δ R s _ => ⟨vs, (s.trans R.sub).seq hs, by rw [hd.length]; exact Nat.le_refl _⟩
theorem itt_fz {a : Addr} {vs : List V} (hs : SqT g.K F a vs) (hd : DpL g F vs ds) : ItOk c F (Itt g.K a) ds.length (fun i => ds.getD i .non) (fun _ => True) where
  go := fun i σ H F2 δ hi R s _ => by
    have hi' : i < vs.length := by rw [hd.length]; exact hi
    exact ⟨vs, vs[i], sqT_mono (s.trans R.sub) hs, by rw [List.getElem?_eq_getElem hi']⟩
  yld := fun i σ H F2 δ x H' hi R s _ y => by
    obtain ⟨rfl, y⟩ := y
    exact ⟨F2, R, Same.refl F2, Same.refl _, fun _ _ => rfl, (getD_dp hd (y vs (sqT_mono (s.trans R.sub) hs))).mono s⟩
  stop := fun σ H F2 δ R s _ => ⟨vs, sqT_mono (s.trans R.sub) hs, by rw [hd.length]; exact Nat.le_refl _⟩
theorem itl_ow {a : Addr} {k : Nat} : ItOk c F (Itl g.K a) ds.length (fun i => ds.getD i .non) (fun δ => δ[k]? = some (.ow (.fl a ds))) where
  go := fun i σ H F2 δ hi R s h => by
    obtain ⟨v, h1, h2⟩ := R.ow k _ h
    cases h2 with
    | fl h3 h4 =>
      rename_i vs
      have hi' : i < vs.length := by rw [h4.length]; exact hi
      exact ⟨vs, vs[i], .inl (.inl h3), by rw [List.getElem?_eq_getElem hi']⟩
  yld := fun i σ H F2 δ x H' hi R s h y => by
    obtain ⟨rfl, y⟩ := y
    obtain ⟨v, h1, h2⟩ := R.ow k _ h
    cases h2 with
    | fl h3 h4 => exact ⟨F2, R, Same.refl F2, Same.refl _, fun _ _ => rfl, getD_dp h4 (y _ (.inl (.inl h3)))⟩
  stop := fun σ H F2 δ R s h => by
    obtain ⟨v, h1, h2⟩ := R.ow k _ h
    cases h2 with
    | fl h3 h4 => exact ⟨_, .inl (.inl h3), by rw [h4.length]; exact Nat.le_refl _⟩
theorem itr_ok {lo : Int} {n : Nat} : ItOk c F (Itr lo n) n (fun i => .int (lo + i)) (fun _ => True) where
  go := fun i σ H F2 δ hi R s _ => hi
  yld := fun i σ H F2 δ x H' hi R s _ y => by
    obtain ⟨rfl, rfl⟩ := y
    exact ⟨F2, R, Same.refl F2, Same.refl _, fun _ _ => rfl, .int _⟩
  stop := fun σ H F2 δ R s _ => Nat.le_refl n
theorem itc_ok {lo k : Int} {n : Nat} : ItOk c F (Itc lo k n) n (fun i => .int (lo + (i : Nat) * k)) (fun _ => True) where
  go := fun i σ H F2 δ hi R s _ => hi
  yld := fun i σ H F2 δ x H' hi R s _ y => by
    obtain ⟨rfl, rfl⟩ := y
    exact ⟨F2, R, Same.refl F2, Same.refl _, fun _ _ => rfl, .int _⟩
  stop := fun σ H F2 δ R s _ => Nat.le_refl n
/-- frozen lists -/
def lsFr : R → Option (List D)
  | .fz (.lst l) => some l
  | .fz (.ro l) => some l
  | _ => none
theorem d_iL {K : PySem.W.Frag} {te : TE} (hK : K = g.K) (q : DE c te δ fun x δ1 => ∃ ds, lsFr x.frz = some ds ∧ QI ds.length (fun i => ds.getD i .non) (fun _ => True) δ1) : DI c (iList K te) δ QI := fun σ H F S R k => by
  subst hK
  refine de_frz (QV := fun x H1 => ∃ a, x = .ref a ∧ (∃ xs, SqL g.K H1 a xs) ∧ S (Itl g.K a) H1) q R fun v H1 F1 x δ1 ⟨ds, e, q1⟩ R1 s1 rep => ?_
  cases hx : x.frz with
  | fz d =>
    rw [hx] at e rep
    cases d <;> simp only [lsFr, reduceCtorEq, Option.some.injEq] at e
    · subst e
      cases rep with
      | lst h1 h2 => exact ⟨_, rfl, ⟨_, .inl (.inl (R1.sub _ _ h1))⟩, k _ H1 F1 _ _ _ δ1 q1 R1 s1 (itl_fz (.inl (.inl h1)) h2)⟩
    · subst e
      cases rep with
      | ro h1 h2 => exact ⟨_, rfl, ⟨_, R1.sub.seq h1⟩, k _ H1 F1 _ _ _ δ1 q1 R1 s1 (itl_fz h1 h2)⟩
  | bw i => rw [hx] at e; simp [lsFr] at e
  | nw o => rw [hx] at e; simp [lsFr] at e
  | rf o => rw [hx] at e; simp [lsFr] at e
theorem d_iLo {K : PySem.W.Frag} {te : TE} (hK : K = g.K) (q : DE c te δ fun x δ1 => ∃ k a ds, x = .bw k ∧ δ1[k]? = some (.ow (.fl a ds)) ∧ QI ds.length (fun i => ds.getD i .non) (fun δ => δ[k]? = some (.ow (.fl a ds))) δ1) : DI c (iList K te) δ QI := fun σ H F S R k => by
  subst hK
  refine q σ H F _ R fun v H1 F1 x δ1 ⟨j, a, ds, e, hj, q1⟩ R1 s1 rep => ?_
  subst e
  obtain ⟨vs, rfl, h1, h2⟩ := fl_at R1 hj rep
  exact ⟨a, rfl, ⟨vs, .inl (.inl h1)⟩, k _ H1 F1 _ _ _ δ1 q1 R1 s1 itl_ow⟩
theorem d_iT {K : PySem.W.Frag} {te : TE} (hK : K = g.K) (q : DE c te δ fun x δ1 => ∃ ds, x = .fz (.tup ds) ∧ QI ds.length (fun i => ds.getD i .non) (fun _ => True) δ1) : DI c (iTup K te) δ QI := fun σ H F S R k => by
  subst hK
  refine q σ H F _ R fun v H1 F1 x δ1 ⟨ds, e, q1⟩ R1 s1 rep => ?_
  subst e
  cases rep with
  | tup h1 h2 => exact ⟨_, rfl, ⟨_, sqT_mono R1.sub h1⟩, k _ H1 F1 _ _ _ δ1 q1 R1 s1 (itt_fz h1 h2)⟩
theorem d_iR1 {ta : TA} (q : DA c ta δ fun rs δ1 => ∃ n : Int, rs = [.fz (.int n)] ∧ -(2 ^ 62) ≤ n ∧ n < 2 ^ 62 ∧ QI n.toNat (fun i => .int (0 + (i : Nat))) (fun _ => True) δ1) : DI c (iRng1 ta) δ QI := fun σ H F S R k =>
  q σ H F _ R fun vs H1 F1 rs δ1 ⟨n, e, h1, h2, q1⟩ R1 s1 rep => by
    subst e
    obtain ⟨v, rfl, hv⟩ := one_rep rep
    cases hv
    exact ⟨n, rfl, h1, h2, k _ H1 F1 _ _ _ δ1 q1 R1 s1 itr_ok⟩
theorem d_iR2 {ta : TA} (q : DA c ta δ fun rs δ1 => ∃ lo hi : Int, rs = [.fz (.int lo), .fz (.int hi)] ∧ (-(2 ^ 62) ≤ lo ∧ lo < 2 ^ 62 ∧ -(2 ^ 62) ≤ hi ∧ hi < 2 ^ 62) ∧ QI (hi - lo).toNat (fun i => .int (lo + (i : Nat))) (fun _ => True) δ1) : DI c (iRng2 ta) δ QI := fun σ H F S R k =>
  q σ H F _ R fun vs H1 F1 rs δ1 ⟨lo, hi, e, h1, q1⟩ R1 s1 rep => by
    subst e
    obtain ⟨v, w, rfl, hv, hw⟩ := two_rep rep
    cases hv; cases hw
    exact ⟨lo, hi, rfl, h1, k _ H1 F1 _ _ _ δ1 q1 R1 s1 itr_ok⟩
theorem d_for {wi : TI} {tg : TG} {tb : TS} (q : DI c wi δ fun n it ok δ1 => ∃ Iv : Nat → List Sl → Prop, Iv 0 δ1 ∧ (∀ i δ, Iv i δ → ok δ) ∧ (∀ i δ, i < n → Iv i δ → DG c tg (.fz (it i)) δ fun δ2 => DS c tb δ2 { nx := Iv (i + 1), ct := Iv (i + 1), bk := P.nx, rt := P.rt }) ∧ ∀ δ, Iv n δ → P.nx δ) :
    DS c (tFor wi tg tb) δ P := fun σ H F E R k =>
  q σ H F _ R fun J H1 F1 n it ok δ1 ⟨Iv, h0, hok, hs, hd⟩ R1 s1 I => by
    refine ⟨fun i m s h => ∃ F2 δ2, m = n - i ∧ i ≤ n ∧ Rel c s h F2 δ2 ∧ Same F1 F2 ∧ Iv i δ2, ⟨n, F1, δ1, by omega, Nat.zero_le _, R1, Same.refl F1, h0⟩, ?_⟩
    rintro i m s h ⟨F2, δ2, rfl, hi, R2, s2, inv⟩
    by_cases hlt : i < n
    · refine .inr ⟨I.go i s h F2 δ2 hlt R2 s2 (hok i δ2 inv), fun s' h' => ∃ F3 δ3, Rel c s' h' F3 δ3 ∧ Same F1 F3 ∧ Iv (i + 1) δ3, ?_, ?_⟩
      · rintro s' h' ⟨F3, δ3, R3, s3, inv3⟩
        exact ⟨n - (i + 1), by omega, F3, δ3, rfl, hlt, R3, s3, inv3⟩
      · intro x h' y
        obtain ⟨F3, R3, s3, _, _, hx⟩ := I.yld i s h F2 δ2 x h' hlt R2 s2 (hok i δ2 inv) y
        refine hs i δ2 hlt inv s h' F3 x _ R3 hx fun s4 h4 F4 δ4 q4 R4 s4' => ?_
        have S4 := (s2.trans s3).trans s4'
        exact q4 s4 h4 F4 _ R4 ⟨fun σ' H' F' δ' q R s => ⟨F', δ', R, S4.trans s, q⟩, fun σ' v H' F' r δ' q R s rep => k.rt σ' v H' F' r δ' q R ((s1.trans S4).trans s) rep, fun σ' H' F' δ' q R s => k.nx σ' H' F' δ' q R ((s1.trans S4).trans s), fun σ' H' F' δ' q R s => ⟨F', δ', R, S4.trans s, q⟩⟩
    · have e : i = n := by omega
      subst e
      exact .inl ⟨I.stop s h F2 δ2 R2 s2 (hok i δ2 inv), k.nx s h F2 δ2 (hd δ2 inv) R2 (s1.trans s2)⟩
theorem d_while {tt : TT} {tb : TS} (Iv : Nat → List Sl → Prop) (m₀ : Nat) (h0 : Iv m₀ δ) (turn : ∀ m δ, Iv m δ → DT c tt δ fun b δ1 => if b = true then DS c tb δ1 { nx := fun δ2 => ∃ m', m' < m ∧ Iv m' δ2, ct := fun δ2 => ∃ m', m' < m ∧ Iv m' δ2, bk := P.nx, rt := P.rt } else P.nx δ1) :
    DS c (tWhile tt tb) δ P := fun σ H F E R k => by
  refine ⟨fun m s h => ∃ F2 δ2, Rel c s h F2 δ2 ∧ Same F F2 ∧ Iv m δ2, ⟨m₀, F, δ, R, Same.refl F, h0⟩, ?_⟩
  rintro m s h ⟨F2, δ2, R2, s2, inv⟩
  refine turn m δ2 inv s h F2 _ R2 fun b H3 F3 δ3 q3 R3 s3 => ?_
  cases b with
  | true =>
    refine ⟨fun s' h' => ∃ m' F4 δ4, m' < m ∧ Rel c s' h' F4 δ4 ∧ Same F F4 ∧ Iv m' δ4, ?_, ?_⟩
    · rintro s' h' ⟨m', F4, δ4, hm, R4, s4, inv4⟩
      exact ⟨m', hm, F4, δ4, R4, s4, inv4⟩
    · have S3 := s2.trans s3
      exact q3 s H3 F3 _ R3 ⟨fun σ' H' F' δ' ⟨m', hm, q⟩ R s => ⟨m', F', δ', hm, R, S3.trans s, q⟩, fun σ' v H' F' r δ' q R s rep => k.rt σ' v H' F' r δ' q R (S3.trans s) rep, fun σ' H' F' δ' q R s => k.nx σ' H' F' δ' q R (S3.trans s), fun σ' H' F' δ' ⟨m', hm, q⟩ R s => ⟨m', F', δ', hm, R, S3.trans s, q⟩⟩
  | false => exact k.nx s H3 F3 δ3 q3 R3 (s2.trans s3)
end
end KD

set_option maxHeartbeats 4000000
namespace KD
open PySem PySem.Spec PyProof.Rows L2 KB
/-! ### defs: what they promise by data -/
inductive Ar where
  | fz (d : D)
  | mu (o : OD)
def Ar.sl : Ar → Sl
  | .fz d => .fz d
  | .mu o => .ow o
def muO : List Ar → List OD
  | [] => []
  | .fz _ :: r => muO r
  | .mu o :: r => o :: muO r
def muA (as : List Ar) : List Addr := adrsL (muO as)
structure DPst where
  rt : R → List OD → Prop
  ex : Addr → List OD → Prop
abbrev DSp := List Ar → DPst → Prop
inductive ArgR (g : Gb) (H F : Hp) : List V → List Ar → Prop where
  | nil : ArgR g H F [] []
  | fz {v : V} {d : D} {vs : List V} {as : List Ar} : Dp g F v d → ArgR g H F vs as → ArgR g H F (v :: vs) (.fz d :: as)
  | mu {v : V} {o : OD} {vs : List V} {as : List Ar} : Ow g H F v o → ArgR g H F vs as → ArgR g H F (v :: vs) (.mu o :: as)
structure Ent (g : Gb) (H F : Hp) (vs : List V) (as : List Ar) : Prop where
  sub : Same F H
  args : ArgR g H F vs as
  nd : (muA as).Nodup
  fa : ∀ a ∈ muA as, F a = none
/-- what the changed arguments hold behind the call -/
inductive MuR (g : Gb) (H F : Hp) : List V → List Ar → List OD → Prop where
  | nil : MuR g H F [] [] []
  | fz {v : V} {d : D} {vs : List V} {as : List Ar} {os : List OD} : MuR g H F vs as os → MuR g H F (v :: vs) (.fz d :: as) os
  | mu {v : V} {o o' : OD} {vs : List V} {as : List Ar} {os : List OD} : Ow g H F v o' → MuR g H F vs as os → MuR g H F (v :: vs) (.mu o :: as) (o' :: os)
structure Aft (g : Gb) (H F : Hp) (vs : List V) (as : List Ar) (os : List OD) (H' F' : Hp) : Prop where
  sub : Same F' H'
  fr : ∀ a o, H a = some o → a ∉ muA as → H' a = some o
  fr2 : ∀ a, H a ≠ none → H' a ≠ none
  ff : ∀ a, H a ≠ none → F' a = F a
  mu : MuR g H' F' vs as os
  nd : (adrsL os).Nodup
  fa : ∀ a ∈ adrsL os, F' a = none ∧ (H a = none ∨ a ∈ muA as)
def RepN (g : Gb) (H : Hp) (os : List OD) (v : V) (H' F' : Hp) : R → Prop
  | .fz d => Dp g F' v d
  | .nw o => Ow g H' F' v o ∧ (o.adrs ++ adrsL os).Nodup ∧ ∀ a ∈ o.adrs, F' a = none ∧ H a = none
  | _ => False
/-- sp as P: called with as, all that may come is told by P -/
def toSp (g : Gb) (sp : DSp) : Sp := fun vs H Q E => ∃ F as P, Ent g H F vs as ∧ sp as P ∧ (∀ r os v H' F', P.rt r os → Aft g H F vs as os H' F' → RepN g H os v H' F' r → Q v H') ∧ ∀ C os H' F', P.ex C os → Aft g H F vs as os H' F' → E (.ref C) none H'
/-- what is raised is looked for -/
def XOk {g : Gb} (c : Cn g) (W : WX) (Ex : Addr → List Sl → Prop) : Prop := ∀ C σ H F δ, Rel c σ H F δ → Ex C δ → W (.ref C) none σ H
/-- the wish of a def's own body -/
def WF (E : XK) : WX := fun cls d _ H => E cls d H
def MuAt : List Ar → List Sl → List OD → Prop
  | [], _, os => os = []
  | .fz _ :: as, δ, os => MuAt as δ.tail os
  | .mu o :: as, δ, os => ∃ o' a r, δ.head? = some (.ow o') ∧ o.root = some a ∧ o'.root = some a ∧ os = o' :: r ∧ MuAt as δ.tail r
section
variable {g : Gb} {c : Cn g} {σ : L2.St} {H F F' H' : Hp} {δ : List Sl} {v : V} {r x y : R} {ds es : List D} {d e : D} {o o2 : OD} {i j : Nat} {Q : R → List Sl → Prop} {P : PD} {vs : List V} {as : List Ar} {os : List OD}
theorem ArgR.length : ∀ {vs : List V} {as : List Ar}, ArgR g H F vs as → vs.length = as.length
  | _, _, .nil => rfl
  | _, _, .fz _ t => by simp only [List.length_cons, ArgR.length t]
  | _, _, .mu _ t => by simp only [List.length_cons, ArgR.length t]
theorem len_toSp {sp : DSp} {n : Nat} (h : ∀ as P, sp as P → as.length = n) : ∀ vs H Q E, toSp g sp vs H Q E → vs.length = n := fun vs H Q E ⟨F, as, P, ent, s, _⟩ => by rw [ent.args.length]; exact h _ _ s
theorem adS_app (a b : List Sl) : adS (a ++ b) = adS a ++ adS b := by
  induction a with
  | nil => rfl
  | cons s r ih => simp only [List.cons_append, adS, ih, List.append_assoc]
theorem adS_no (n : Nat) : adS (List.replicate n .no) = [] := by
  induction n with
  | zero => rfl
  | succ n ih => simp only [List.replicate_succ, adS, Sl.adrs, ih, List.append_nil]
theorem adS_as : ∀ as : List Ar, adS (as.map Ar.sl) = muA as
  | [] => rfl
  | .fz d :: r => by simp only [List.map_cons, adS, Ar.sl, Sl.adrs, List.nil_append, adS_as r]; rfl
  | .mu o :: r => by simp only [List.map_cons, adS, Ar.sl, Sl.adrs, adS_as r]; rfl
theorem argR_fz : ∀ {vs : List V} {as : List Ar} {i : Nat} {d : D}, ArgR g H F vs as → (as.map Ar.sl)[i]? = some (Sl.fz d) → ∃ v, vs[i]? = some v ∧ Dp g F v d
  | _, _, _, _, .nil, e => by simp at e
  | _, _, 0, d, .fz h t, e => by simp [Ar.sl] at e; subst e; exact ⟨_, rfl, h⟩
  | _, _, 0, d, .mu h t, e => by simp [Ar.sl] at e
  | _, _, i + 1, d, .fz h t, e => by
    obtain ⟨v, h1, h2⟩ := argR_fz (i := i) (d := d) t (by simpa using e)
    exact ⟨v, by simpa using h1, h2⟩
  | _, _, i + 1, d, .mu h t, e => by
    obtain ⟨v, h1, h2⟩ := argR_fz (i := i) (d := d) t (by simpa using e)
    exact ⟨v, by simpa using h1, h2⟩
theorem argR_ow : ∀ {vs : List V} {as : List Ar} {i : Nat} {o : OD}, ArgR g H F vs as → (as.map Ar.sl)[i]? = some (Sl.ow o) → ∃ v, vs[i]? = some v ∧ Ow g H F v o
  | _, _, _, _, .nil, e => by simp at e
  | _, _, 0, d, .fz h t, e => by simp [Ar.sl] at e
  | _, _, 0, d, .mu h t, e => by simp [Ar.sl] at e; subst e; exact ⟨_, rfl, h⟩
  | _, _, i + 1, d, .fz h t, e => by
    obtain ⟨v, h1, h2⟩ := argR_ow (i := i) (o := d) t (by simpa using e)
    exact ⟨v, by simpa using h1, h2⟩
  | _, _, i + 1, d, .mu h t, e => by
    obtain ⟨v, h1, h2⟩ := argR_ow (i := i) (o := d) t (by simpa using e)
    exact ⟨v, by simpa using h1, h2⟩
theorem app_get {α : Type} {a : List α} {n : Nat} {b s : α} {i : Nat} (h : (a ++ List.replicate n b)[i]? = some s) : a[i]? = some s ∨ s = b := by
  rcases Nat.lt_or_ge i a.length with z | z
  · rw [List.getElem?_append_left z] at h; exact .inl h
  · rw [List.getElem?_append_right z, List.getElem?_replicate] at h
    split at h
    · exact .inr (Option.some.inj h).symm
    · cases h
theorem at_lt' {α : Type} {l : List α} {i : Nat} {s : α} (h : l[i]? = some s) : i < l.length := by
  rcases Nat.lt_or_ge i l.length with z | z
  · exact z
  · rw [List.getElem?_eq_none_iff.mpr z] at h; cases h
theorem ent_rel (h : Ent g H F vs as) (n : Nat) : Rel (⟨H, F, F, muA as⟩ : Cn g) (vs.map some ++ List.replicate n none) H F (as.map Ar.sl ++ List.replicate n .no) := by
  have ea : adS (as.map Ar.sl ++ List.replicate n .no) = muA as := by rw [adS_app, adS_no, List.append_nil, adS_as]
  refine ⟨h.sub, fun a o e _ => e, fun a z => z, fun a _ => rfl, ?_, fun i d e => ?_, fun i o e => ?_, by rw [ea]; exact h.nd, fun a m => ?_, Same.refl F, fun i a e => ?_⟩
  · rw [List.length_append, List.length_append, List.length_map, List.length_map, List.length_replicate, List.length_replicate, h.args.length]
  · rcases app_get e with z | z
    · obtain ⟨v, h1, h2⟩ := argR_fz h.args z
      have hl := at_lt' h1
      exact ⟨v, by rw [List.getElem?_append_left (by rw [List.length_map]; exact hl), List.getElem?_map, h1]; rfl, h2⟩
    · cases z
  · rcases app_get e with z | z
    · obtain ⟨v, h1, h2⟩ := argR_ow h.args z
      have hl := at_lt' h1
      exact ⟨v, by rw [List.getElem?_append_left (by rw [List.length_map]; exact hl), List.getElem?_map, h1]; rfl, h2⟩
    · cases z
  · rw [ea] at m
    exact ⟨h.fa a m, .inr m⟩
  · rcases app_get e with z | z
    · exact absurd z (by
        rw [List.getElem?_map]
        cases as[i]? with
        | none => exact fun z => nomatch z
        | some x => cases x <;> exact fun z => nomatch z)
    · cases z
/-- the changed arguments, from where the body stands -/
theorem adS_tail : ∀ δ : List Sl, (adS δ.tail).Sublist (adS δ)
  | [] => .slnil
  | s :: δ => List.sublist_append_right _ _
theorem muAt_ok : ∀ {vs : List V} {as : List Ar} {δ : List Sl} {os : List OD} {H0 F0 : Hp} (σ : L2.St), ArgR g H0 F0 vs as → MuAt as δ os → (∀ (i : Nat) (o : OD), δ[i]? = some (Sl.ow o) → ∃ v, σ[i]? = some (some v) ∧ Ow g H F v o) → MuR g H F vs as os ∧ (adrsL os).Sublist (adS δ)
  | _, _, δ, os, _, _, σ, .nil, m, _ => by
    simp only [MuAt] at m; subst m
    exact ⟨.nil, by simp only [adrsL]; exact List.nil_sublist _⟩
  | _, _, δ, os, _, _, σ, .fz h t, m, k => by
    simp only [MuAt] at m
    obtain ⟨a, b⟩ := muAt_ok σ.tail t m fun i o e => by
      obtain ⟨v, h1, h2⟩ := k (i + 1) o (by rw [List.getElem?_tail] at e; exact e)
      exact ⟨v, by rw [List.getElem?_tail]; exact h1, h2⟩
    exact ⟨.fz a, b.trans (adS_tail δ)⟩
  | v :: _, _, δ, os, _, _, σ, .mu h t, m, k => by
    simp only [MuAt] at m
    obtain ⟨o', a, r, e0, e1, e2, e3, m⟩ := m
    subst e3
    obtain ⟨A, B⟩ := muAt_ok σ.tail t m fun i o e => by
      obtain ⟨v, h1, h2⟩ := k (i + 1) o (by rw [List.getElem?_tail] at e; exact e)
      exact ⟨v, by rw [List.getElem?_tail]; exact h1, h2⟩
    cases δ with
    | nil => cases e0
    | cons s δ =>
      simp only [List.head?_cons, Option.some.injEq] at e0
      subst e0
      obtain ⟨w, h1, h2⟩ := k 0 o' rfl
      have ew : w = v := by rw [h2.root e2, h.root e1]
      subst ew
      exact ⟨.mu h2 A, (List.Sublist.refl _).append B⟩
theorem muA_fz : ∀ ds : List D, muA (ds.map Ar.fz) = []
  | [] => rfl
  | _ :: r => muA_fz r
theorem aft_of (h : Ent g H F vs as) (R : Rel (⟨H, F, F, muA as⟩ : Cn g) σ H' F' δ) (m : MuAt as δ os) : Aft g H F vs as os H' F' ∧ (adrsL os).Sublist (adS δ) := by
  obtain ⟨A, B⟩ := muAt_ok σ h.args m R.ow
  exact ⟨⟨R.sub, R.fr, R.fr2, R.ff, A, R.nd.sublist B, fun a m => R.fa a (B.subset m)⟩, B⟩
theorem repN_of (R : Rel (⟨H, F, F, muA as⟩ : Cn g) σ H' F' δ) (B : (adrsL os).Sublist (adS δ)) (k : RRep (⟨H, F, F, muA as⟩ : Cn g) σ H' F' δ v r) (n : r.out = true) : RepN g H os v H' F' r := by
  cases r with
  | fz d => exact k
  | bw i => cases n
  | rf i => cases n
  | nw o => exact ⟨k.1, k.2.1.sublist ((List.Sublist.refl _).append B), k.2.2⟩
/-- a body from its start -/
theorem d_start {t : TS} {N : List Str} {Q : VK} {E : XK} {sp : DSp} (h : toSp g sp vs H Q E)
    (q : ∀ as (P : DPst), sp as P → ∀ (c : Cn g), XOk c (WF E) (fun C δ => ∃ os, MuAt as δ os ∧ P.ex C os) → c.M = muA as →
      DS c t (as.map Ar.sl ++ List.replicate (N.length - as.length) .no) { nx := fun δ => ∃ os, MuAt as δ os ∧ P.rt (.fz .non) os, rt := fun r δ => r.out = true ∧ ∃ os, MuAt as δ os ∧ P.rt r os }) :
    t { nx := fun _ H' => Q .non H', rt := Q } (L2.start N vs) H := by
  obtain ⟨F, as, P, ent, s, kr, ke⟩ := h
  have R := ent_rel ent (N.length - vs.length)
  refine q as P s ⟨H, F, F, muA as⟩ (fun C σ H' F' δ R' ⟨os, m, ex⟩ => ?_) rfl (L2.start N vs) H F _ ?_ ⟨fun σ' H' F' δ' ⟨os, m, rt⟩ R' _ => ?_, fun σ' v H' F' r δ' ⟨n, os, m, rt⟩ R' _ rep => ?_, fun _ _ _ _ z => z.elim, fun _ _ _ _ z => z.elim⟩
  · exact ke C os H' F' ex (aft_of ent R' m).1
  · rw [← ent.args.length]
    exact R
  · exact kr _ os .non H' F' rt (aft_of ent R' m).1 Dp.non
  · obtain ⟨A, B⟩ := aft_of ent R' m
    exact kr r os v H' F' rt A (repN_of R' B rep n)
end
/-! ### calls -/
section
variable {g : Gb} {c : Cn g} {σ : L2.St} {H F F' H' : Hp} {δ : List Sl} {v : V} {r x y : R} {ds es : List D} {d e : D} {o o2 : OD} {i j : Nat} {Q : R → List Sl → Prop} {P : PD} {vs : List V} {as : List Ar} {os : List OD} {rs : List R}
def argsOf (δ : List Sl) : List R → Option (List Ar)
  | [] => some []
  | .fz d :: rs => (argsOf δ rs).map (.fz d :: ·)
  | .bw i :: rs => match δ[i]? with
    | some (.ow o) => (argsOf δ rs).map (.mu o :: ·)
    | _ => none
  | .nw _ :: _ => none
  | .rf _ :: _ => none
def muI : List R → List Nat
  | [] => []
  | .bw i :: rs => i :: muI rs
  | _ :: rs => muI rs
theorem args_ok (R0 : Rel c σ H F δ) : ∀ {vs : List V} {rs : List R} {as : List Ar}, RepL c σ H F δ vs rs → argsOf δ rs = some as → ArgR g H F vs as
  | _, _, _, .nil, e => by simp only [argsOf, Option.some.injEq] at e; subst e; exact .nil
  | _, .fz d :: rs, as, .cons _ h t, e => by
    simp only [argsOf, Option.map_eq_some_iff] at e
    obtain ⟨q, e1, e2⟩ := e
    subst e2
    exact .fz h (args_ok R0 t e1)
  | v :: _, .bw i :: rs, as, .cons _ h t, e => by
    have h : σ[i]? = some (some v) := h
    simp only [argsOf] at e
    split at e
    · rename_i o ho
      simp only [Option.map_eq_some_iff] at e
      obtain ⟨q, e1, e2⟩ := e
      subst e2
      obtain ⟨w, h1, h2⟩ := R0.ow i o ho
      rw [h] at h1
      cases h1
      exact .mu h2 (args_ok R0 t e1)
    · cases e
  | _, .nw i :: rs, as, .cons _ h t, e => by simp [argsOf] at e
  | _, .rf i :: rs, as, .cons _ h t, e => by simp [argsOf] at e
theorem mu0 : ∀ {rs : List R} {as : List Ar}, argsOf δ rs = some as → muI rs = [] → muO as = []
  | [], as, e, _ => by simp only [argsOf, Option.some.injEq] at e; subst e; rfl
  | .fz d :: rs, as, e, m => by
    simp only [argsOf, Option.map_eq_some_iff] at e
    obtain ⟨q, e1, e2⟩ := e
    subst e2
    exact mu0 (rs := rs) (as := q) e1 m
  | .bw i :: rs, as, e, m => by simp [muI] at m
  | .nw i :: rs, as, e, m => by simp [argsOf] at e
  | .rf i :: rs, as, e, m => by simp [argsOf] at e
theorem mu1 : ∀ {rs : List R} {as : List Ar}, argsOf δ rs = some as → muI rs = [i] → ∃ o, muO as = [o] ∧ δ[i]? = some (.ow o)
  | [], as, e, m => by simp [muI] at m
  | .fz d :: rs, as, e, m => by
    simp only [argsOf, Option.map_eq_some_iff] at e
    obtain ⟨q, e1, e2⟩ := e
    subst e2
    exact mu1 (rs := rs) (as := q) e1 m
  | .bw k :: rs, as, e, m => by
    simp only [muI, List.cons.injEq] at m
    obtain ⟨rfl, m⟩ := m
    simp only [argsOf] at e
    split at e
    · rename_i o ho
      simp only [Option.map_eq_some_iff] at e
      obtain ⟨q, e1, e2⟩ := e
      subst e2
      exact ⟨o, by simp only [muO, mu0 e1 m], ho⟩
    · cases e
  | .nw i :: rs, as, e, m => by simp [argsOf] at e
  | .rf i :: rs, as, e, m => by simp [argsOf] at e
theorem muR0 : ∀ {vs : List V} {as : List Ar} {os : List OD}, MuR g H F vs as os → muO as = [] → os = []
  | _, _, _, .nil, _ => rfl
  | _, _, _, .fz h, e => muR0 h e
  | _, _, _, .mu _ h, e => by simp [muO] at e
theorem muR1 (R0 : Rel c σ H F δ) : ∀ {vs : List V} {rs : List R} {as : List Ar} {os : List OD}, RepL c σ H F δ vs rs → argsOf δ rs = some as → muI rs = [i] → MuR g H' F' vs as os → ∃ o', os = [o'] ∧ ∀ v, σ[i]? = some (some v) → Ow g H' F' v o'
  | _, _, _, _, .nil, e, m, _ => by simp [muI] at m
  | _, .fz d :: rs, as, os, .cons _ h t, e, m, w => by
    simp only [argsOf, Option.map_eq_some_iff] at e
    obtain ⟨q, e1, e2⟩ := e
    subst e2
    cases w with
    | fz w => exact muR1 R0 (rs := rs) t e1 m w
  | v :: _, .bw k :: rs, as, os, .cons _ h t, e, m, w => by
    have h : σ[k]? = some (some v) := h
    simp only [muI, List.cons.injEq] at m
    obtain ⟨rfl, m⟩ := m
    simp only [argsOf] at e
    split at e
    · rename_i o ho
      simp only [Option.map_eq_some_iff] at e
      obtain ⟨q, e1, e2⟩ := e
      subst e2
      cases w with
      | mu w1 w2 =>
        rw [muR0 w2 (mu0 e1 m)]
        refine ⟨_, rfl, fun v' hv => ?_⟩
        rw [h] at hv
        cases hv
        exact w1
    · cases e
  | _, .nw i :: rs, as, os, .cons _ h t, e, m, w => by simp [argsOf] at e
  | _, .rf i :: rs, as, os, .cons _ h t, e, m, w => by simp [argsOf] at e
theorem same_aft (R : Rel c σ H F δ) (A : Aft g H F vs as os H' F') : Same F F' := fun a u e => by
  have : H a ≠ none := by rw [R.sub a u e]; exact fun z => nomatch z
  rw [A.ff a this]; exact e
/-- behind a call that changes nothing that was there -/
theorem rel_aft0 (R : Rel c σ H F δ) (m : muO as = []) (A : Aft g H F vs as os H' F') : Rel c σ H' F' δ := by
  have sF := same_aft R A
  have em : ∀ a, a ∉ muA as := fun a z => by unfold muA at z; rw [m] at z; cases z
  refine ⟨A.sub, fun a u e1 e2 => A.fr a u (R.fr a u e1 e2) (em a), fun a z => A.fr2 a (R.fr2 a z), fun a z => (A.ff a (R.fr2 a z)).trans (R.ff a z), R.len, fun i d e => ?_, fun i o e => ?_, R.nd, fun a m => ?_, R.lb.trans sF, R.rf⟩
  · obtain ⟨v, h1, h2⟩ := R.fz i d e
    exact ⟨v, h1, h2.mono sF⟩
  · obtain ⟨v, h1, h2⟩ := R.ow i o e
    refine ⟨v, h1, h2.move sF fun b m => ?_⟩
    cases q : H b with
    | none => exact absurd q (h2.has b m)
    | some u => exact A.fr b u q (em b)
  · exact ⟨(A.ff a (R.has a m)).trans (R.fa a m).1, (R.fa a m).2⟩
theorem rel_aft1 (R : Rel c σ H F δ) (hi : δ[i]? = some (.ow o)) (m : muO as = [o]) (A : Aft g H F vs as [o2] H' F') (w : ∀ v, σ[i]? = some (some v) → Ow g H' F' v o2) : Rel c σ H' F' (δ.set i (.ow o2)) := by
  have em : muA as = o.adrs := by unfold muA; rw [m]; simp only [adrsL, List.append_nil]
  have e2 : adrsL [o2] = o2.adrs := by simp only [adrsL, List.append_nil]
  refine R.chg hi (same_aft R A) A.sub (fun b u e1 e2 => A.fr b u e1 (by rw [em]; exact e2)) A.fr2 A.ff (fun v h _ => w v h) (by rw [← e2]; exact A.nd) fun b m => ?_
  have := A.fa b (by rw [e2]; exact m)
  rw [em] at this
  exact this
theorem rep_aft0 (R : Rel c σ H F δ) (R' : Rel c σ H' F' δ) (k : RepN g H os v H' F' r) : RRep c σ H' F' δ v r := by
  cases r with
  | fz d => exact k
  | bw i => exact k.elim
  | rf i => exact k.elim
  | nw o =>
    refine ⟨k.1, List.nodup_append.mpr ⟨(List.nodup_append.mp k.2.1).1, R'.nd, fun a m1 b m2 z => ?_⟩, fun a m => ⟨(k.2.2 a m).1, ?_⟩⟩
    · subst z
      exact R.has a m2 (k.2.2 a m1).2
    · cases q : c.H0 a with
      | none => rfl
      | some u => exact absurd (k.2.2 a m).2 (R.fr2 a (by rw [q]; exact fun z => nomatch z))
theorem rep_aft1 (R : Rel c σ H F δ) (hi : δ[i]? = some (.ow o)) (R' : Rel c σ H' F' (δ.set i (.ow o2))) (k : RepN g H [o2] v H' F' r) : RRep c σ H' F' (δ.set i (.ow o2)) v r := by
  cases r with
  | fz d => exact k
  | bw i => exact k.elim
  | rf i => exact k.elim
  | nw o3 =>
    have e2 : adrsL [o2] = o2.adrs := by simp only [adrsL, List.append_nil]
    have k2 := k.2.1
    rw [e2] at k2
    refine ⟨k.1, List.nodup_append.mpr ⟨(List.nodup_append.mp k2).1, R'.nd, fun a m1 b m2 z => ?_⟩, fun a m => ⟨(k.2.2 a m).1, ?_⟩⟩
    · subst z
      have pm := (perm_adS (s := .ow o2) (at_lt hi)).subset m2
      rcases List.mem_append.mp pm with q | q
      · exact (List.nodup_append.mp k2).2.2 a m1 a q rfl
      · exact R.has a ((sub_no δ i).subset q) (k.2.2 a m1).2
    · cases q : c.H0 a with
      | none => rfl
      | some u => exact absurd (k.2.2 a m).2 (R.fr2 a (by rw [q]; exact fun z => nomatch z))
theorem ent_of (R : Rel c σ H F δ) (rep : RepL c σ H F δ vs rs) (e : argsOf δ rs = some as) (m : muO as = [] ∨ ∃ (i : Nat) (o : OD), muO as = [o] ∧ δ[i]? = some (Sl.ow o)) : Ent g H F vs as := by
  refine ⟨R.sub, args_ok R rep e, ?_, fun a z => ?_⟩
  · rcases m with m | ⟨i, o, m, hi⟩
    · unfold muA; rw [m]; exact List.nodup_nil
    · unfold muA; rw [m]; simp only [adrsL, List.append_nil]
      exact (List.nodup_append.mp (nd_at R hi)).1
  · rcases m with m | ⟨i, o, m, hi⟩
    · unfold muA at z; rw [m] at z; cases z
    · unfold muA at z; rw [m] at z; simp only [adrsL, List.append_nil] at z
      exact (R.fa a (mem_adS hi z)).1
/-- a call that changes none of its arguments -/
theorem d_call {sp : DSp} {W : WX} {Ex : Addr → List Sl → Prop} {tr : TA} (hx : XOk c W Ex) (q : DA c tr δ fun rs δ1 => ∃ as P', argsOf δ1 rs = some as ∧ muI rs = [] ∧ sp as P' ∧ (∀ r, P'.rt r [] → Q r δ1) ∧ ∀ C, P'.ex C [] → Ex C δ1) : DE c (tCallS (toSp g sp) (WE W) tr) δ Q := fun σ H F QV R k =>
  q σ H F _ R fun vs H1 F1 rs δ1 ⟨as, P', e, m, s, kr, ke⟩ R1 s1 rep => by
    have m0 := mu0 e m
    refine ⟨F1, as, P', ent_of R1 rep e (.inl m0), s, fun r os v H' F' h A rn => ?_, fun C os H' F' h A => ?_⟩
    · have eo := muR0 A.mu m0
      subst eo
      have R' := rel_aft0 R1 m0 A
      exact k v H' F' r δ1 (kr r h) R' (s1.trans (same_aft R1 A)) (rep_aft0 R1 R' rn)
    · have eo := muR0 A.mu m0
      subst eo
      exact hx C σ H' F' δ1 (rel_aft0 R1 m0 A) (ke C h)
/-- a call that changes one of them -/
theorem d_call1 {sp : DSp} {W : WX} {Ex : Addr → List Sl → Prop} {tr : TA} (hx : XOk c W Ex) (q : DA c tr δ fun rs δ1 => ∃ as P' i, argsOf δ1 rs = some as ∧ muI rs = [i] ∧ sp as P' ∧ (∀ r o, P'.rt r [o] → Q r (δ1.set i (.ow o))) ∧ ∀ C o, P'.ex C [o] → Ex C (δ1.set i (.ow o))) : DE c (tCallS (toSp g sp) (WE W) tr) δ Q := fun σ H F QV R k =>
  q σ H F _ R fun vs H1 F1 rs δ1 ⟨as, P', i, e, m, s, kr, ke⟩ R1 s1 rep => by
    obtain ⟨o, m1, hi⟩ := mu1 e m
    refine ⟨F1, as, P', ent_of R1 rep e (.inr ⟨i, o, m1, hi⟩), s, fun r os v H' F' h A rn => ?_, fun C os H' F' h A => ?_⟩
    · obtain ⟨o2, rfl, w⟩ := muR1 R1 rep e m A.mu
      have R' := rel_aft1 R1 hi m1 A w
      exact k v H' F' r _ (kr r o2 h) R' (s1.trans (same_aft R1 A)) (rep_aft1 R1 hi R' rn)
    · obtain ⟨o2, rfl, w⟩ := muR1 R1 rep e m A.mu
      exact hx C σ H' F' _ (rel_aft1 R1 hi m1 A w) (ke C o2 h)
end
/-! raising -/
def tRaise (W : WX) (C : Addr) : TS := fun _ σ H => W (.ref C) none σ H
theorem ps_raiseD {X : Cx} {W : WX} {x m : Str} {C : Addr} {j : Nat} {p p2 pos pos' : Pos} (ec : ExcC X.K X.mg x C) (tk : Takes X W) (hc : X.calm = true := by rfl) (hg : Gl X x := by rfl) (hdb : (x == ("__debug__" : Str)) = false := by decide) :
    PS X (.Raise (some (.Call (.Name x p) [.Constant (.str m) j p2] [] pos)) none pos') (tRaise W C) := ps_raiseX ec tk hc hg hdb
theorem d_raise {g : Gb} {c : Cn g} {δ : List Sl} {P : PD} {W : WX} {Ex : Addr → List Sl → Prop} {C : Addr} (hx : XOk c W Ex) (q : Ex C δ) : DS c (tRaise W C) δ P := fun σ H F E R k => hx C σ H F δ R q
end KD

set_option maxHeartbeats 4000000
namespace KD
open PySem PySem.Spec PyProof.Rows L2 KB
/-! ### comprehensions -/
theorem wipe_get (σ : L2.St) (vs : List Nat) (i : Nat) : (wipe σ vs)[i]? = if i ∈ vs then (σ[i]?).map (fun _ => none) else σ[i]? := by
  induction vs with
  | nil => simp [wipe]
  | cons v vs ih =>
    unfold wipe
    by_cases h : v = i
    · subst h
      rw [List.getElem?_set, if_pos rfl, if_pos (List.mem_cons_self), wipe_length]
      by_cases z : v < σ.length
      · rw [if_pos z, List.getElem?_eq_getElem z]; rfl
      · rw [if_neg z, List.getElem?_eq_none_iff.mpr (by omega)]; rfl
    · rw [List.getElem?_set_ne h, ih]
      by_cases m : i ∈ vs
      · rw [if_pos m, if_pos (List.mem_cons_of_mem _ m)]
      · rw [if_neg m, if_neg fun z => by rcases List.mem_cons.mp z with e | e; exact h e.symm; exact m e]
def Only (tg : TG) (vs : List Nat) : Prop := ∀ v σ H (S S' : L2.St → Hp → Prop), (∀ σ2 H2, wipe σ2 vs = wipe σ vs → S σ2 H2 → S' σ2 H2) → tg v σ H S → tg v σ H S'
def OnlyS (tg : TGs) (vs : List Nat) : Prop := ∀ v σ H (S S' : L2.St → Hp → Prop), (∀ σ2 H2, wipe σ2 vs = wipe σ vs → S σ2 H2 → S' σ2 H2) → tg v σ H S → tg v σ H S'
theorem only_name {i : Nat} {vs : List Nat} (h : i ∈ vs) : Only (gName i) vs := fun v σ H S S' k q => k _ _ (by
  refine List.ext_getElem? fun j => ?_
  rw [wipe_get, wipe_get]
  by_cases m : j ∈ vs
  · rw [if_pos m, if_pos m, List.getElem?_set]
    split
    · rename_i e
      subst e
      split
      · rename_i l; rw [List.getElem?_eq_getElem l]; rfl
      · rename_i l; rw [List.getElem?_eq_none_iff.mpr (by omega)]
    · rfl
  · rw [if_neg m, if_neg m, List.getElem?_set_ne fun z => m (by rw [← z]; exact h)]) q
theorem only_nil {vs : List Nat} : OnlyS gNil vs := fun v σ H S S' k q => ⟨q.1, k _ _ rfl q.2⟩
theorem only_cons {t : TG} {u : TGs} {vs : List Nat} (h1 : Only t vs) (h2 : OnlyS u vs) : OnlyS (gCons t u) vs := fun v σ H S S' k ⟨x, r, e, q⟩ =>
  ⟨x, r, e, h1 x σ H _ _ (fun σ2 H2 e2 q2 => h2 r σ2 H2 _ _ (fun σ3 H3 e3 q3 => k σ3 H3 (e3.trans e2) q3) q2) q⟩
theorem only_tup {K : PySem.W.Frag} {n : Nat} {t : TGs} {vs : List Nat} (h : OnlyS t vs) : Only (gTup K n t) vs := fun v σ H S S' k ⟨a, xs, e, hs, hl, q⟩ => ⟨a, xs, e, hs, hl, h xs σ H S S' k q⟩
def wipeD (δ : List Sl) : List Nat → List Sl
  | [] => δ
  | v :: vs => (wipeD δ vs).set v .no
def back (δ δ' : List Sl) : List Nat → List Sl
  | [] => δ'
  | v :: vs => (back δ δ' vs).set v (δ.getD v .no)
def NoOw (δ : List Sl) (vs : List Nat) : Bool := vs.all fun v => match δ.getD v .no with
  | .ow _ => false
  | _ => true
theorem wipeD_len (δ : List Sl) : ∀ vs : List Nat, (wipeD δ vs).length = δ.length
  | [] => rfl
  | v :: vs => by unfold wipeD; rw [List.length_set, wipeD_len δ vs]
theorem back_len (δ δ' : List Sl) : ∀ vs : List Nat, (back δ δ' vs).length = δ'.length
  | [] => rfl
  | v :: vs => by unfold back; rw [List.length_set, back_len δ δ' vs]
theorem wipeD_some {δ : List Sl} {vs : List Nat} {i : Nat} {s : Sl} (h : (wipeD δ vs)[i]? = some s) (n : s ≠ .no) : i ∉ vs ∧ δ[i]? = some s := by
  induction vs with
  | nil => exact ⟨by simp, h⟩
  | cons v vs ih =>
    unfold wipeD at h
    by_cases e : v = i
    · subst e
      rw [List.getElem?_set, if_pos rfl] at h
      split at h
      · exact absurd (Option.some.inj h).symm n
      · cases h
    · rw [List.getElem?_set_ne e] at h
      obtain ⟨h1, h2⟩ := ih h
      exact ⟨fun z => by rcases List.mem_cons.mp z with q | q; exact e q.symm; exact h1 q, h2⟩
theorem back_get {δ δ' : List Sl} {vs : List Nat} {i : Nat} {s : Sl} (h : (back δ δ' vs)[i]? = some s) : (i ∈ vs ∧ δ.getD i .no = s) ∨ (i ∉ vs ∧ δ'[i]? = some s) := by
  induction vs with
  | nil => exact .inr ⟨by simp, h⟩
  | cons v vs ih =>
    unfold back at h
    by_cases e : v = i
    · subst e
      rw [List.getElem?_set, if_pos rfl] at h
      split at h
      · exact .inl ⟨List.mem_cons_self, Option.some.inj h⟩
      · cases h
    · rw [List.getElem?_set_ne e] at h
      rcases ih h with ⟨h1, h2⟩ | ⟨h1, h2⟩
      · exact .inl ⟨List.mem_cons_of_mem _ h1, h2⟩
      · exact .inr ⟨fun z => by rcases List.mem_cons.mp z with q | q; exact e q.symm; exact h1 q, h2⟩
theorem set_sub {δ : List Sl} {i : Nat} {s : Sl} (h : s.adrs = []) : (adS (δ.set i s)).Sublist (adS δ) := by
  induction δ generalizing i with
  | nil => exact .slnil
  | cons t r ih =>
    cases i with
    | zero => simp only [List.set_cons_zero, adS, h, List.nil_append]; exact List.sublist_append_right _ _
    | succ i => simp only [List.set_cons_succ, adS]; exact (List.Sublist.refl _).append ih
theorem wipeD_sub (δ : List Sl) : ∀ vs : List Nat, (adS (wipeD δ vs)).Sublist (adS δ)
  | [] => List.Sublist.refl _
  | v :: vs => (set_sub rfl).trans (wipeD_sub δ vs)
theorem back_sub {δ δ' : List Sl} : ∀ {vs : List Nat}, NoOw δ vs = true → (adS (back δ δ' vs)).Sublist (adS δ')
  | [], _ => List.Sublist.refl _
  | v :: vs, h => by
    simp only [NoOw, List.all_cons, Bool.and_eq_true] at h
    refine (set_sub ?_).trans (back_sub (vs := vs) h.2)
    have h1 := h.1
    cases e : δ.getD v .no with
    | no => rfl
    | fz d => rfl
    | rf d => rfl
    | ow o => rw [e] at h1; cases h1
theorem noOw_at {δ : List Sl} {vs : List Nat} {i : Nat} {o : OD} (h : NoOw δ vs = true) (m : i ∈ vs) : δ.getD i .no ≠ .ow o := by
  intro e
  have := List.all_eq_true.mp h i m
  rw [e] at this
  cases this
section
variable {g : Gb} {c : Cn g} {σ : L2.St} {H F F' H' : Hp} {δ : List Sl} {v : V} {r x y : R} {ds es : List D} {d e : D} {o o2 : OD} {i j : Nat} {Q : R → List Sl → Prop} {P : PD}
/-- into a comprehension's turn -/
theorem rel_in (R : Rel c σ H F δ) (vs : List Nat) : Rel (⟨H, F, F, adS (wipeD δ vs)⟩ : Cn g) (wipe σ vs) H F (wipeD δ vs) := by
  refine ⟨R.sub, fun _ _ e _ => e, fun _ z => z, fun _ _ => rfl, by rw [wipe_length, wipeD_len]; exact R.len, fun i d e => ?_, fun i o e => ?_, R.nd.sublist (wipeD_sub δ vs), fun a m => ⟨(R.fa a ((wipeD_sub δ vs).subset m)).1, .inr m⟩, Same.refl F, fun i a e => ?_⟩
  · obtain ⟨n, e⟩ := wipeD_some e (fun z => nomatch z)
    obtain ⟨v, h1, h2⟩ := R.fz i d e
    exact ⟨v, by rw [wipe_get, if_neg n]; exact h1, h2⟩
  · obtain ⟨n, e⟩ := wipeD_some e (fun z => nomatch z)
    obtain ⟨v, h1, h2⟩ := R.ow i o e
    exact ⟨v, by rw [wipe_get, if_neg n]; exact h1, h2⟩
  · obtain ⟨n, e⟩ := wipeD_some e (fun z => nomatch z)
    rw [wipe_get, if_neg n]
    exact R.rf i a e
/-- and out of it -/
theorem rel_out {σ2 : L2.St} {δ' : List Sl} {vs : List Nat} (R : Rel c σ H F δ) (hn : NoOw δ vs = true) (R' : Rel (⟨H, F, F, adS (wipeD δ vs)⟩ : Cn g) σ2 H' F' δ') (ew : wipe σ2 vs = wipe σ vs) : Rel c σ H' F' (back δ δ' vs) := by
  have sF : Same F F' := R'.lb
  have el : σ2.length = σ.length := by have := congrArg List.length ew; rwa [wipe_length, wipe_length] at this
  have eg : ∀ i, i ∉ vs → σ2[i]? = σ[i]? := fun i m => by
    have := congrArg (fun l : L2.St => l[i]?) ew
    have this : (wipe σ2 vs)[i]? = (wipe σ vs)[i]? := this
    rw [wipe_get, wipe_get, if_neg m, if_neg m] at this
    exact this
  refine ⟨R'.sub, fun a u e1 e2 => R'.fr a u (R.fr a u e1 e2) fun m => ?_, fun a z => R'.fr2 a (R.fr2 a z), fun a z => (R'.ff a (R.fr2 a z)).trans (R.ff a z), by rw [back_len, ← R'.len, el], fun i d e => ?_, fun i o e => ?_, R'.nd.sublist (back_sub hn), fun a m => ?_, R.lb.trans sF, fun i a e => ?_⟩
  · rcases (R.fa a ((wipeD_sub δ vs).subset m)).2 with z | z
    · rw [e1] at z; cases z
    · exact e2 z
  · rcases back_get e with ⟨m, h⟩ | ⟨m, h⟩
    · have h' : δ[i]? = some (.fz d) := by
        rw [List.getD_eq_getElem?_getD] at h
        cases q : δ[i]? with
        | none => rw [q] at h; cases h
        | some s => rw [q] at h; simp only [Option.getD_some] at h; rw [h]
      obtain ⟨v, h1, h2⟩ := R.fz i d h'
      exact ⟨v, h1, h2.mono sF⟩
    · obtain ⟨v, h1, h2⟩ := R'.fz i d h
      exact ⟨v, by rw [← eg i m]; exact h1, h2⟩
  · rcases back_get e with ⟨m, h⟩ | ⟨m, h⟩
    · exact absurd h (noOw_at hn m)
    · obtain ⟨v, h1, h2⟩ := R'.ow i o h
      exact ⟨v, by rw [← eg i m]; exact h1, h2⟩
  · obtain ⟨h1, h2⟩ := R'.fa a ((back_sub hn).subset m)
    refine ⟨h1, ?_⟩
    rcases h2 with z | z
    · left
      cases q : c.H0 a with
      | none => rfl
      | some u => exact absurd z (R.fr2 a (by rw [q]; exact fun z => nomatch z))
    · exact (R.fa a ((wipeD_sub δ vs).subset z)).2
  · rcases back_get e with ⟨m, h⟩ | ⟨m, h⟩
    · have h' : δ[i]? = some (.rf a) := by
        rw [List.getD_eq_getElem?_getD] at h
        cases q : δ[i]? with
        | none => rw [q] at h; cases h
        | some s => rw [q] at h; simp only [Option.getD_some] at h; rw [h]
      exact R.rf i a h'
    · rw [← eg i m]; exact R'.rf i a h
/-- a list of its own that no slot holds is changed -/
theorem rel_off {p : Addr} {u : HO} (R : Rel c σ H F δ) (h0 : c.H0 p = none) (hF : F p = none) (ha : p ∉ adS δ) : Rel c σ (upd H p u) F δ := by
  refine ⟨fun b z q => ?_, fun b z q nb => ?_, fun b q => ?_, R.ff, R.len, R.fz, fun i o e => ?_, R.nd, R.fa, R.lb, R.rf⟩
  · have : b ≠ p := fun z => by subst z; rw [hF] at q; cases q
    rw [upd_ne this]; exact R.sub b z q
  · have : b ≠ p := fun z => by subst z; rw [h0] at q; cases q
    rw [upd_ne this]; exact R.fr b z q nb
  · have : b ≠ p := fun z => by subst z; exact q h0
    rw [upd_ne this]; exact R.fr2 b q
  · obtain ⟨v, h1, h2⟩ := R.ow i o e
    exact ⟨v, h1, h2.move (Same.refl F) fun a m => upd_ne fun z => ha (by rw [← z]; exact mem_adS e m)⟩
theorem d_lc {wi : TI} {tg : TG} {tt : TT} {te : TE} {vs : List Nat} (hg : Only tg vs) (q : DI c wi δ fun n it ok δ1 => n ≤ sizeLine ∧ ∃ Iv : Nat → List D → List Sl → Prop, Iv 0 [] δ1 ∧ (∀ i acc δ, Iv i acc δ → ok δ ∧ NoOw δ vs = true) ∧
    (∀ (c' : Cn g) i acc δ, i < n → Iv i acc δ → DG c' tg (.fz (it i)) (wipeD δ vs) fun δ2 => DT c' tt δ2 fun b δ3 => if b = true then DE c' te δ3 fun r δ4 => ∃ d, r.frz = .fz d ∧ Iv (i + 1) (acc ++ [d]) (back δ δ4 vs) else Iv (i + 1) acc (back δ δ3 vs)) ∧
    ∀ p acc δ', Iv n acc δ' → Q (.nw (.fl p acc)) δ') : DE c (tLc wi tg tt te vs) δ Q := fun σ H F QV R k =>
  q σ H F _ R fun J H1 F1 n it ok δ1 ⟨hn, Iv, h0, hok, hs, hd⟩ R1 s1 I => by
    intro D hD
    obtain ⟨R1', n1, n2, n3⟩ := R1.newO (o := .lst []) hD
    refine ⟨fun i m h => ∃ F2 δ2 acc accV, m = n - i ∧ i ≤ n ∧ Rel c σ h F2 δ2 ∧ Same F1 F2 ∧ Iv i acc δ2 ∧ acc.length ≤ i ∧ h D = some (.lst accV) ∧ DpL g F2 accV acc ∧ F2 D = none ∧ D ∉ adS δ2, ⟨n, F1, δ1, [], [], by omega, Nat.zero_le _, R1', Same.refl F1, h0, Nat.le_refl 0, upd_same, .nil, n1, n3⟩, ?_⟩
    rintro i m h ⟨F2, δ2, acc, accV, rfl, hi, R2, s2, inv, hl, hD2, hacc, fD2, aD2⟩
    obtain ⟨hok2, hno⟩ := hok i acc δ2 inv
    by_cases hlt : i < n
    · refine .inr ⟨I.go i σ h F2 δ2 hlt R2 s2 hok2, fun h' => ∃ F3 δ3 acc accV, Rel c σ h' F3 δ3 ∧ Same F1 F3 ∧ Iv (i + 1) acc δ3 ∧ acc.length ≤ i + 1 ∧ h' D = some (.lst accV) ∧ DpL g F3 accV acc ∧ F3 D = none ∧ D ∉ adS δ3, ?_, ?_⟩
      · rintro h' ⟨F3, δ3, acc, accV, a1, a2, a3, a4, a5, a6, a7, a8⟩
        exact ⟨n - (i + 1), by omega, F3, δ3, acc, accV, rfl, hlt, a1, a2, a3, a4, a5, a6, a7, a8⟩
      · intro x h' y
        obtain ⟨F3, R3, s3, sH, kF, hx⟩ := I.yld i σ h F2 δ2 x h' hlt R2 s2 hok2 y
        have hD3 : h' D = some (.lst accV) := sH _ _ hD2
        have fD3 : F3 D = none := (kF D (by rw [hD2]; exact fun z => nomatch z)).trans fD2
        have Rin := rel_in R3 vs
        have fin : ∀ (σ2 : L2.St) (H4 F4 : Hp) (δ4 : List Sl), wipe σ2 vs = wipe σ vs → Rel (⟨h', F3, F3, adS (wipeD δ2 vs)⟩ : Cn g) σ2 H4 F4 δ4 →
            Rel c σ H4 F4 (back δ2 δ4 vs) ∧ Same F3 F4 ∧ H4 D = some (.lst accV) ∧ F4 D = none ∧ D ∉ adS (back δ2 δ4 vs) := fun σ2 H4 F4 δ4 ew R4 => by
          have hD4 : H4 D = some (.lst accV) := R4.fr D _ hD3 fun z => aD2 ((wipeD_sub δ2 vs).subset z)
          refine ⟨rel_out R3 hno R4 ew, R4.lb, hD4, (R4.ff D (by show h' D ≠ none; rw [hD3]; exact fun z => nomatch z)).trans fD3, fun z => ?_⟩
          rcases (R4.fa D ((back_sub hno).subset z)).2 with q | q
          · have q : h' D = none := q
            rw [hD3] at q; cases q
          · exact aD2 ((wipeD_sub δ2 vs).subset q)
        refine hg x (wipe σ vs) h' _ _ ?_ (hs ⟨h', F3, F3, adS (wipeD δ2 vs)⟩ i acc δ2 hlt inv (wipe σ vs) h' F3 x
          (fun σ2 H2 => wipe σ2 vs = wipe σ vs → tt σ2 H2 fun b H3 => if b = true then te σ2 H3 fun y H4 => ∃ acc, H4 D = some (.lst acc) ∧ acc.length < sizeLine ∧ ∃ F3 δ3 acc2 accV, Rel c σ (upd H4 D (.lst (acc ++ [y]))) F3 δ3 ∧ Same F1 F3 ∧ Iv (i + 1) acc2 δ3 ∧ acc2.length ≤ i + 1 ∧ upd H4 D (.lst (acc ++ [y])) D = some (.lst accV) ∧ DpL g F3 accV acc2 ∧ F3 D = none ∧ D ∉ adS δ3
            else ∃ F3 δ3 acc accV, Rel c σ H3 F3 δ3 ∧ Same F1 F3 ∧ Iv (i + 1) acc δ3 ∧ acc.length ≤ i + 1 ∧ H3 D = some (.lst accV) ∧ DpL g F3 accV acc ∧ F3 D = none ∧ D ∉ adS δ3) Rin hx ?_)
        · intro σ2 H2 ew q
          have ew' : wipe σ2 vs = wipe σ vs := by
            rw [ew]
            refine List.ext_getElem? fun j => ?_
            rw [wipe_get, wipe_get]
            by_cases m : j ∈ vs
            · rw [if_pos m, if_pos m]; cases σ[j]? <;> rfl
            · rw [if_neg m, if_neg m]
          exact ⟨ew', q ew'⟩
        · intro σ2 H2 F4 δ3 q3 R4 s4 ew
          refine q3 σ2 H2 F4 _ R4 fun b H3 F5 δ4 q4 R5 s5 => ?_
          cases b with
          | true =>
            refine (show te σ2 H3 _ from de_frz q4 R5 fun y H4 F6 r δ5 ⟨d, er, q5⟩ R6 s6 rep => ?_)
            rw [er] at rep
            obtain ⟨Ro, sF, hD4, fD4, aD4⟩ := fin σ2 H4 F6 δ5 ew R6
            have hlen : accV.length = acc.length := hacc.length
            refine ⟨accV, hD4, by omega, F6, _, acc ++ [d], accV ++ [y], rel_off Ro n2 fD4 aD4, (s2.trans s3).trans sF, q5, by rw [List.length_append, List.length_singleton]; omega, upd_same, (hacc.mono (s3.trans sF)).append (.cons rep .nil), fD4, aD4⟩
          | false =>
            obtain ⟨Ro, sF, hD4, fD4, aD4⟩ := fin σ2 H3 F5 δ4 ew R5
            exact ⟨F5, _, acc, accV, Ro, (s2.trans s3).trans sF, q4, by omega, hD4, hacc.mono (s3.trans sF), fD4, aD4⟩
    · have e : i = n := by omega
      subst e
      refine .inl ⟨I.stop σ h F2 δ2 R2 s2 hok2, k _ h F2 _ δ2 (hd D acc δ2 inv) R2 (s1.trans s2) ⟨.fl hD2 hacc, ?_, fun a m => ?_⟩⟩
      · simp only [OD.adrs, List.singleton_append, List.nodup_cons]
        exact ⟨aD2, R2.nd⟩
      · simp only [OD.adrs, List.mem_singleton] at m
        subst m
        exact ⟨fD2, n2⟩
/-! enumerate, zip -/
theorem new_keep {p : Addr} {u : HO} (hp : H p = none) : ∀ a, H a ≠ none → upd F p u a = F a := fun a z => upd_ne fun e => z (by rw [e]; exact hp)
theorem iteT_fz {a : Addr} {vs : List V} (hs : SqT g.K F a vs) (hd : DpL g F vs ds) : ItOk c F (IteT g.K a vs.length) ds.length (fun i => .tup [.int (i : Nat), ds.getD i .non]) (fun _ => True) where
  go := fun i σ H F2 δ hi R s _ => by
    have hi' : i < vs.length := by rw [hd.length]; exact hi
    exact ⟨vs, vs[i], sqT_mono (s.trans R.sub) hs, rfl, by rw [List.getElem?_eq_getElem hi']⟩
  yld := fun i σ H F2 δ x H' hi R s _ y => by
    obtain ⟨T, u, rfl, hT, rfl, y⟩ := y
    obtain ⟨R2, s2, sH⟩ := R.new (o := .tup [.int (i : Nat), u]) hT
    exact ⟨_, R2, s2, sH, new_keep hT, .tup (.inl (.inl upd_same)) (.cons (.int _) (.cons ((getD_dp hd (y vs (sqT_mono (s.trans R.sub) hs))).mono (s.trans s2)) .nil))⟩
  stop := fun σ H F2 δ R s _ => ⟨vs, sqT_mono (s.trans R.sub) hs, rfl, by rw [hd.length]; exact Nat.le_refl _⟩
theorem ite_fz {a : Addr} {vs : List V} (hs : SqL g.K F a vs) (hd : DpL g F vs ds) : ItOk c F (Ite g.K a) ds.length (fun i => .tup [.int (i : Nat), ds.getD i .non]) (fun _ => True) where
  go := fun i σ H F2 δ hi R s _ => by
    have hi' : i < vs.length := by rw [hd.length]; exact hi
    exact ⟨vs, vs[i], (s.trans R.sub).seq hs, by rw [List.getElem?_eq_getElem hi']⟩
  yld := fun i σ H F2 δ x H' hi R s _ y => by
    obtain ⟨T, u, rfl, hT, rfl, y⟩ := y
    obtain ⟨R2, s2, sH⟩ := R.new (o := .tup [.int (i : Nat), u]) hT
    exact ⟨_, R2, s2, sH, new_keep hT, .tup (.inl (.inl upd_same)) (.cons (.int _) (.cons ((getD_dp hd (y vs ((s.trans R.sub).seq hs))).mono (s.trans s2)) .nil))⟩
  stop := fun σ H F2 δ R s _ => ⟨vs, (s.trans R.sub).seq hs, by rw [hd.length]; exact Nat.le_refl _⟩
theorem itz_fz {a b : Addr} {vs ws : List V} (hs : SqL g.K F a vs) (hd : DpL g F vs ds) (hs2 : SqL g.K F b ws) (hd2 : DpL g F ws es) : ItOk c F (Itz g.K a b) (min ds.length es.length) (fun i => .tup [ds.getD i .non, es.getD i .non]) (fun _ => True) where
  go := fun i σ H F2 δ hi R s _ => by
    have h1 : i < vs.length := by rw [hd.length]; omega
    have h2 : i < ws.length := by rw [hd2.length]; omega
    exact ⟨vs, ws, vs[i], ws[i], (s.trans R.sub).seq hs, (s.trans R.sub).seq hs2, by rw [List.getElem?_eq_getElem h1], by rw [List.getElem?_eq_getElem h2]⟩
  yld := fun i σ H F2 δ x H' hi R s _ y => by
    obtain ⟨T, u, w, rfl, hT, rfl, y, z⟩ := y
    obtain ⟨R2, s2, sH⟩ := R.new (o := .tup [u, w]) hT
    exact ⟨_, R2, s2, sH, new_keep hT, .tup (.inl (.inl upd_same)) (.cons ((getD_dp hd (y vs ((s.trans R.sub).seq hs))).mono (s.trans s2)) (.cons ((getD_dp hd2 (z ws ((s.trans R.sub).seq hs2))).mono (s.trans s2)) .nil))⟩
  stop := fun σ H F2 δ R s _ => ⟨vs, ws, (s.trans R.sub).seq hs, (s.trans R.sub).seq hs2, by rw [hd.length, hd2.length]; omega⟩
theorem itzT_fz {a b : Addr} {vs ws : List V} (hs : SqT g.K F a vs) (hd : DpL g F vs ds) (hs2 : SqT g.K F b ws) (hd2 : DpL g F ws es) : ItOk c F (RZ.ItzT g.K a b) (min ds.length es.length) (fun i => .tup [ds.getD i .non, es.getD i .non]) (fun _ => True) where
  go := fun i σ H F2 δ hi R s _ => by
    have h1 : i < vs.length := by rw [hd.length]; omega
    have h2 : i < ws.length := by rw [hd2.length]; omega
    exact ⟨vs, ws, vs[i], ws[i], sqT_mono (s.trans R.sub) hs, sqT_mono (s.trans R.sub) hs2, by rw [List.getElem?_eq_getElem h1], by rw [List.getElem?_eq_getElem h2]⟩
  yld := fun i σ H F2 δ x H' hi R s _ y => by
    obtain ⟨T, u, w, rfl, hT, rfl, y, z⟩ := y
    obtain ⟨R2, s2, sH⟩ := R.new (o := .tup [u, w]) hT
    exact ⟨_, R2, s2, sH, new_keep hT, .tup (.inl (.inl upd_same)) (.cons ((getD_dp hd (y vs (sqT_mono (s.trans R.sub) hs))).mono (s.trans s2)) (.cons ((getD_dp hd2 (z ws (sqT_mono (s.trans R.sub) hs2))).mono (s.trans s2)) .nil))⟩
  stop := fun σ H F2 δ R s _ => ⟨vs, ws, sqT_mono (s.trans R.sub) hs, sqT_mono (s.trans R.sub) hs2, by rw [hd.length, hd2.length]; omega⟩
variable {QI : Nat → (Nat → D) → (List Sl → Prop) → List Sl → Prop}
theorem d_iEnumT {K : PySem.W.Frag} {ta : TA} (hK : K = g.K) (q : DA c ta δ fun rs δ1 => ∃ ds, rs = [.fz (.tup ds)] ∧ QI ds.length (fun i => .tup [.int (i : Nat), ds.getD i .non]) (fun _ => True) δ1) : DI c (iEnumT K ta) δ QI := fun σ H F S R k => by
  subst hK
  refine q σ H F _ R fun vs H1 F1 rs δ1 ⟨ds, e, q1⟩ R1 s1 rep => ?_
  subst e
  obtain ⟨v, rfl, hv⟩ := one_rep rep
  cases hv with
  | tup h1 h2 => exact ⟨_, _, rfl, sqT_mono R1.sub h1, k _ H1 F1 _ _ _ δ1 q1 R1 s1 (iteT_fz h1 h2)⟩
theorem d_iEnum {K : PySem.W.Frag} {ta : TA} (hK : K = g.K) (q : DA c ta δ fun rs δ1 => ∃ r ds, rs = [r] ∧ lsFr r = some ds ∧ QI ds.length (fun i => .tup [.int (i : Nat), ds.getD i .non]) (fun _ => True) δ1) : DI c (iEnum K ta) δ QI := fun σ H F S R k => by
  subst hK
  refine q σ H F _ R fun vs H1 F1 rs δ1 ⟨x, ds, e, el, q1⟩ R1 s1 rep => ?_
  subst e
  obtain ⟨v, rfl, hv⟩ := one_rep rep
  cases x with
  | fz d =>
    cases d <;> simp only [lsFr, reduceCtorEq, Option.some.injEq] at el
    · subst el
      cases hv with
      | lst h1 h2 => exact ⟨_, _, rfl, .inl (.inl (R1.sub _ _ h1)), k _ H1 F1 _ _ _ δ1 q1 R1 s1 (ite_fz (.inl (.inl h1)) h2)⟩
    · subst el
      cases hv with
      | ro h1 h2 => exact ⟨_, _, rfl, R1.sub.seq h1, k _ H1 F1 _ _ _ δ1 q1 R1 s1 (ite_fz h1 h2)⟩
  | bw i => simp [lsFr] at el
  | nw o => simp [lsFr] at el
  | rf o => simp [lsFr] at el
theorem d_iZipL {K : PySem.W.Frag} {ta : TA} (hK : K = g.K) (q : DA c ta δ fun rs δ1 => ∃ ds es, rs = [.fz (.lst ds), .fz (.lst es)] ∧ QI (min ds.length es.length) (fun i => .tup [ds.getD i .non, es.getD i .non]) (fun _ => True) δ1) : DI c (RZ.iZipA K ta) δ QI := fun σ H F S R k => by
  subst hK
  refine q σ H F _ R fun vs H1 F1 rs δ1 ⟨ds, es, e, q1⟩ R1 s1 rep => ?_
  subst e
  obtain ⟨v, w, rfl, hv, hw⟩ := two_rep rep
  cases hv with
  | lst h1 h2 => cases hw with
    | lst h3 h4 => exact ⟨_, _, _, _, rfl, .inl ⟨.inl (.inl (R1.sub _ _ h1)), .inl (.inl (R1.sub _ _ h3)), k _ H1 F1 _ _ _ δ1 q1 R1 s1 (itz_fz (.inl (.inl h1)) h2 (.inl (.inl h3)) h4)⟩⟩
theorem d_iZipT {K : PySem.W.Frag} {ta : TA} (hK : K = g.K) (q : DA c ta δ fun rs δ1 => ∃ ds es, rs = [.fz (.tup ds), .fz (.tup es)] ∧ QI (min ds.length es.length) (fun i => .tup [ds.getD i .non, es.getD i .non]) (fun _ => True) δ1) : DI c (RZ.iZipA K ta) δ QI := fun σ H F S R k => by
  subst hK
  refine q σ H F _ R fun vs H1 F1 rs δ1 ⟨ds, es, e, q1⟩ R1 s1 rep => ?_
  subst e
  obtain ⟨v, w, rfl, hv, hw⟩ := two_rep rep
  cases hv with
  | tup h1 h2 => cases hw with
    | tup h3 h4 => exact ⟨_, _, _, _, rfl, .inr ⟨sqT_mono R1.sub h1, sqT_mono R1.sub h3, k _ H1 F1 _ _ _ δ1 q1 R1 s1 (itzT_fz h1 h2 h3 h4)⟩⟩
/-! try -/
def tTry (K : PySem.W.Frag) (Wout : WX) (l : List (Value × (Addr → Value → Option Addr → TS))) (tb : WX → TS) : TS := fun D σ H => tb (wMany K Wout D l) D σ H
def ExM (c : Cn g) (P : PD) (Ex : Addr → List Sl → Prop) : List (Value × (Addr → Value → Option Addr → TS)) → Addr → List Sl → Prop
  | [] => Ex
  | (cv, ts) :: r => fun C δ => ∃ b, PySem.W.exmOne g.K (.ref C) cv = some b ∧ (b = true → ∀ a, DS c (ts a (.ref C) none) δ P) ∧ (b = false → ExM c P Ex r C δ)
theorem exM_ok {Wout : WX} {Ex : Addr → List Sl → Prop} {E : Ends} (c' : Cn g) (hc : ∀ σ H F δ, Rel c' σ H F δ → EndsOk c' F P E) (hx : XOk c' Wout Ex) : ∀ l, XOk c' (wMany g.K Wout E l) (ExM c' P Ex l)
  | [] => hx
  | (cv, ts) :: r => fun C σ H F δ R ⟨b, e, h1, h2⟩ => ⟨b, e, fun hb a _ => h1 hb a σ H F E R (hc σ H F δ R), fun hb => exM_ok c' hc hx r C σ H F δ R (h2 hb)⟩
theorem d_try {K : PySem.W.Frag} {Wout : WX} {Ex : Addr → List Sl → Prop} {l : List (Value × (Addr → Value → Option Addr → TS))} {tb : WX → TS} (hK : K = g.K) (hx : XOk c Wout Ex)
    (q : ∀ (c' : Cn g) W, c'.M = c.M → XOk c' Wout Ex → XOk c' W (ExM c' P Ex l) → DS c' (tb W) δ P) : DS c (tTry K Wout l tb) δ P := fun σ H F E R k => by
  subst hK
  have dn : ∀ σ H F' δ, Rel (⟨c.H0, c.F0, F, c.M⟩ : Cn g) σ H F' δ → Rel c σ H F' δ := fun σ H F' δ R' => ⟨R'.sub, R'.fr, R'.fr2, R'.ff, R'.len, R'.fz, R'.ow, R'.nd, R'.fa, R.lb.trans R'.lb, R'.rf⟩
  have up : Rel (⟨c.H0, c.F0, F, c.M⟩ : Cn g) σ H F δ := ⟨R.sub, R.fr, R.fr2, R.ff, R.len, R.fz, R.ow, R.nd, R.fa, Same.refl F, R.rf⟩
  have rp : ∀ {σ H F' δ v r}, RRep (⟨c.H0, c.F0, F, c.M⟩ : Cn g) σ H F' δ v r → RRep c σ H F' δ v r := fun {σ H F' δ v r} h => by cases r <;> exact h
  have k' : EndsOk (⟨c.H0, c.F0, F, c.M⟩ : Cn g) F P E := ⟨fun σ H G δ q R s => k.nx σ H G δ q (dn _ _ _ _ R) s, fun σ v H G r δ q R s rep => k.rt σ v H G r δ q (dn _ _ _ _ R) s (rp rep), fun σ H G δ q R s => k.bk σ H G δ q (dn _ _ _ _ R) s, fun σ H G δ q R s => k.ct σ H G δ q (dn _ _ _ _ R) s⟩
  have hx' : XOk (⟨c.H0, c.F0, F, c.M⟩ : Cn g) Wout Ex := fun C σ H G δ R e => hx C σ H G δ (dn _ _ _ _ R) e
  exact q ⟨c.H0, c.F0, F, c.M⟩ (wMany g.K Wout E l) rfl hx' (exM_ok _ (fun σ H G δ R' => k'.later R'.lb) hx' l) σ H F E up k'
end
section
variable {X : Cx} {body : List Stmt} {h₀ : ExceptHandler} {hds : List ExceptHandler} {l : List (Value × (Addr → Value → Option Addr → TS))} {pos : Pos} {tb : WX → TS} {Wout : WX}
theorem ps_tryD (hs : X.stack = X.env :: X.outer) (hf : X.env.frame = some X.env.locals) (tk : Takes X Wout)
    (hb : ∀ (W : WX) (pn : List (Addr × Obj)) (xe : Value → Shared → Prop), Takes (X.tr pn xe) W → PassesOwn (model X.prog X.w) X.A X.env xe → PSs (X.tr pn xe) body (tb W))
    (hh : HdsOk X (h₀ :: hds) l) : PS X (.Try body (h₀ :: hds) [] [] pos) (tTry X.K Wout l tb) := ps_try_many hs hf tk hb hh
end
end KD

set_option maxHeartbeats 4000000
namespace KD
open PySem PySem.Spec PyProof.Rows L2 KB
/-! ### names that hold alone -/
section
variable {X : Cx}
theorem pg_own {i : Nat} {x : Str} {pos : Pos} (hN : X.N.Nodup) (hi : X.N[i]? = some x) (hx : Loc X.env.scope x) (hf : X.fn x = true ∨ X.env.scope.names.lookup x = some .local := by first | exact .inl rfl | exact .inr rfl | assumption) : PG X (.Name x pos) (gOwn i) := pg_name hN hi hx hf
theorem ps_setO {i : Nat} {x : Str} {e : Expr} {te : TE} {pos pos' : Pos} (hN : X.N.Nodup) (hi : X.N[i]? = some x) (hx : Loc X.env.scope x) (he : PE X e te) (hs : swapsWith e (some (.Name x pos')) pos.line X.env = pure false := by rfl)
    (hf : X.fn x = true ∨ X.env.scope.names.lookup x = some .local := by first | exact .inl rfl | exact .inr rfl | assumption) : PS X (.Assign [.Name x pos'] e pos) (tAsg te (gOwn i)) := ps_set hN hi hx he hs hf
theorem ps_setLcO {i : Nat} {y : Str} {py : Pos} {elt tg iter : Expr} {ifs : List Expr} {scope : Scope} {own : List (Str × Nat)} {pos spos : Pos} {wi : TI} {g : TG} {tt : TT} {te : TE} (hc : X.calm = true) (hN : X.N.Nodup) (hy : X.N[i]? = some y) (hyl : X.env.scope.names.lookup y = some .local)
    (hsw : swapsWith (.ListComp elt [⟨tg, iter, ifs, 0⟩] scope pos) (some (.Name y py)) spos.line X.env = pure true) (hi : PI X tg iter wi) (ok : BlkOk X.N X.env.scope scope own)
    (hg : ∀ (s : Shared) (H : Hp) (C : Addr) (cl : List (Str × Addr)) (fp : List Addr), PG (X.blk s H scope (compEnvC scope cl C X.env) fp) tg g) (ht : ∀ (s : Shared) (H : Hp) (C : Addr) (cl : List (Str × Addr)) (fp : List Addr), PTs (X.blk s H scope (compEnvC scope cl C X.env) fp) ifs tt)
    (he : ∀ (s : Shared) (H : Hp) (C : Addr) (cl : List (Str × Addr)) (fp : List Addr), PE (X.blk s H scope (compEnvC scope cl C X.env) fp) elt te) (hs : ∀ x, foldedSetIterable iter X.env x = pure x := by intro _; rfl) :
    PS X (.Assign [.Name y py] (.ListComp elt [⟨tg, iter, ifs, 0⟩] scope pos) spos) (tAsg (tLc wi g tt te (own.map (·.2))) (gOwn i)) := ps_setLc hc hN hy hyl hsw hi ok hg ht he hs
end
theorem pe_gstr {X : Cx} {x : Str} {z : Str} {pos : Pos} (hm : ∃ t, X.mg x = some (.str z t)) (hg : Gl X x := by rfl) (hd : (x == ("__debug__" : Str)) = false := by decide) : PE X (.Name x pos) (tC (.str z)) := by
  obtain ⟨t, hm⟩ := hm
  exact pe_glob hg hm ⟨t, rfl⟩ hd
/-! texts in texts -/
def inStr (i j : Str) : Bool := !(Builtin.Str.occurrences j i 0 j.length 1).isEmpty
def rInStr : R2 := fun x y H Q => ∃ i j, x = .str i ∧ y = .str j ∧ Q (.bl (inStr i j)) H
def rNotInStr : R2 := fun x y H Q => ∃ i j, x = .str i ∧ y = .str j ∧ Q (.bl (!inStr i j)) H
theorem op_inStrD {X : Cx} : OpR X (compareOp .In) rInStr := op_in_str
theorem op_notInStrD {X : Cx} : OpR X (compareOp .NotIn) rNotInStr := op_notin_str
def tTruth (K : PySem.W.Frag) (ta : TE) : TT := fun σ H Q => ta σ H fun x H' => ∃ k, TruV K x H' k ∧ Q k H'
theorem pt_truthD {X : Cx} {a : Expr} {ta : TE} (ha : PE X a ta) (he : ∀ whole, isTrue a X.env whole = (do let v ← whole; standAt a.pos; holding [v] (truthy v)) := by intro _; rfl) : PT X a (tTruth X.K ta) := pt_truth ha he
def rListOf (K : PySem.W.Frag) : List V → Hp → VK → Prop := fun xs H Q => ∃ p ys, xs = [.ref p] ∧ (SqL K H p ys ∨ SqT K H p ys) ∧ ∀ l, H l = none → Q (.ref l) (upd H l (.lst ys))
theorem call_listD {X : Cx} : CallR X (.type "list") (rListOf X.K) := call_list_of
def rTupOf (K : PySem.W.Frag) : List V → Hp → VK → Prop := fun xs H Q => ∃ p ys, xs = [.ref p] ∧ ((SqL K H p ys ∧ ∀ l, H l = none → Q (.ref l) (upd H l (.tup ys))) ∨ (SqT K H p ys ∧ Q (.ref p) H))
theorem call_tupD {X : Cx} : CallR X (.type "tuple") (rTupOf X.K) := call_tuple_of
section
variable {g : Gb} {c : Cn g} {σ : L2.St} {H F F' H' : Hp} {δ : List Sl} {v : V} {r x y : R} {ds es : List D} {d e : D} {o o2 : OD} {i j : Nat} {Q : R → List Sl → Prop} {P : PD} {tr : TA} {ta tb tc te : TE}
theorem d_inStr {a b : Str} (hx : x = .fz (.str a)) (hy : y = .fz (.str b)) (q : Q (.fz (.bl (inStr a b))) δ) : DO c rInStr x y δ Q := fun σ H F v w QV R k1 k2 k => by
  subst hx; subst hy
  cases k1; cases k2
  exact ⟨a, b, rfl, rfl, k _ H F _ _ q R (Same.refl F) (.bl _)⟩
theorem d_notInStr {a b : Str} (hx : x = .fz (.str a)) (hy : y = .fz (.str b)) (q : Q (.fz (.bl (!inStr a b))) δ) : DO c rNotInStr x y δ Q := fun σ H F v w QV R k1 k2 k => by
  subst hx; subst hy
  cases k1; cases k2
  exact ⟨a, b, rfl, rfl, k _ H F _ _ q R (Same.refl F) (.bl _)⟩
theorem d_listD (hx : x.els δ = some ds) (q : ∀ p, Q (.nw (.fl p ds)) δ) : DC c (rListOf g.K) [x] δ Q := d_listOf hx q
theorem d_tupD (hx : x.els δ = some ds) (q : Q (.fz (.tup ds)) δ) : DC c (rTupOf g.K) [x] δ Q := d_tupOf hx q
/-- truth of a list or tuple -/
theorem d_truthL {K : PySem.W.Frag} {QB : Bool → List Sl → Prop} (hK : K = g.K) (q : DE c te δ fun x δ1 => ∃ ds, x.els δ1 = some ds ∧ QB (!ds.isEmpty) δ1) : DT c (tTruth K te) δ QB := fun σ H F QV R k => by
  subst hK
  refine q σ H F _ R fun v H1 F1 x δ1 ⟨ds, e, q1⟩ R1 s1 rep => ?_
  obtain ⟨a, vs, rfl, hs, hd⟩ := els_ok R1 rep e
  have ee : vs.isEmpty = ds.isEmpty := by have := hd.length; cases vs <;> cases ds <;> simp_all
  refine ⟨!ds.isEmpty, ?_, k _ H1 F1 δ1 q1 R1 s1⟩
  rcases hs with hs | hs
  · exact .inl ⟨vs, hs, by rw [ee]⟩
  · exact .inr (.inl ⟨vs, hs, by rw [ee]⟩)
theorem d_chain {f f' : R2} (q : DE c ta δ fun x δ1 => DE c tb δ1 fun y δ2 => DO c f x.frz y.frz δ2 fun z δ3 => ∃ k, z = .fz (.bl k) ∧ if k = true then DE c tc δ3 fun w δ4 => DO c f' y.frz w.frz δ4 Q else Q (.fz (.bl false)) δ3) : DE c (tChain f f' ta tb tc) δ Q := fun σ H F QV R k =>
  de_frz (QV := fun x H1 => tb σ H1 fun y H2 => f x y H2 fun z H3 => ∃ k, z = .bl k ∧ (if k = true then tc σ H3 fun w' H4 => f' y w' H4 QV else QV (.bl false) H3)) q R fun v H1 F1 x δ1 q1 R1 s1 rep1 =>
    de_frz (QV := fun y H2 => f v y H2 fun z H3 => ∃ k, z = .bl k ∧ (if k = true then tc σ H3 fun w' H4 => f' y w' H4 QV else QV (.bl false) H3)) q1 R1 fun w H2 F2 y δ2 q2 R2 s2 rep2 =>
      q2 σ H2 F2 v w _ R2 (rep_keep rep1 (frz_frz _) s2) rep2 fun u H3 F3 z δ3 ⟨b, e, q3⟩ R3 s3 rep3 => by
        subst e
        cases rep3
        refine ⟨b, rfl, ?_⟩
        cases b with
        | true =>
          exact de_frz (QV := fun w' H4 => f' w w' H4 QV) q3 R3 fun w' H4 F4 w2 δ4 q4 R4 s4 rep4 => q4 σ H4 F4 w w' QV R4 (rep_keep rep2 (frz_frz _) (s3.trans s4)) rep4 fun v' H' F' r δ' q' R' s' => k v' H' F' r δ' q' R' (((s1.trans s2).trans s3).trans (s4.trans s'))
        | false => exact k _ H3 F3 _ δ3 q3 R3 ((s1.trans s2).trans s3) (Dp.bl _)
theorem d_augI {f : Int → Int → Int} {n : Int} (hi : δ[i]? = some (.fz (.int n))) (q : DE c te δ fun y δ1 => ∃ m, y = .fz (.int m) ∧ P.nx (δ1.set i (.fz (.int (f n m))))) : DS c (tAug i te (ipI f)) δ P := fun σ H F E R k => by
  obtain ⟨v, h1, h2⟩ := R.fz i _ hi
  cases h2
  refine ⟨_, h1, q σ H F _ R fun w H1 F1 y δ1 ⟨m, e, q1⟩ R1 s1 rep => ?_⟩
  subst e
  cases rep
  exact ⟨n, m, rfl, rfl, k.nx _ H1 F1 _ q1 (R1.setFz (.int _)) s1⟩
theorem i_nT {A B : Prop} (q : A) : if (!false) = true then A else B := q
theorem i_nF {A B : Prop} (q : B) : if (!true) = true then A else B := q
theorem d_small {n : Nat} (h : Nat.ble n sizeLine = true) : n ≤ sizeLine := Nat.le_of_ble_eq_true h
theorem d_bl {b : Bool} {S : Bool → Prop} (q : S b) : ∃ b', R.fz (D.bl b) = .fz (.bl b') ∧ S b' := ⟨b, rfl, q⟩
theorem d_blI {n : Int} {S : Int → Prop} (q : S n) : ∃ n', R.fz (D.int n) = .fz (.int n') ∧ S n' := ⟨n, rfl, q⟩
theorem d_mk {rs : List R} {S : List D → Prop} (h : fzs rs = some ds) (l : Nat.ble ds.length sizeLine = true) (q : S ds) : ∃ ds, fzs rs = some ds ∧ ds.length ≤ sizeLine ∧ S ds := ⟨ds, h, d_small l, q⟩
theorem d_par2 {S : D → D → Prop} (hx : x = .fz d) (hy : y = .fz e) (q : S d e) : ∃ d e, [x, y] = [.fz d, .fz e] ∧ S d e := ⟨d, e, by rw [hx, hy], q⟩
theorem d_par3x {z : R} {d3 : D} {S : D → D → D → Prop} (hx : x = .fz d) (hy : y = .fz e) (hz : z = .fz d3) (q : S d e d3) : ∃ d e f, [x, y, z] = [.fz d, .fz e, .fz f] ∧ S d e f := ⟨d, e, d3, by rw [hx, hy, hz], q⟩
/-! ### what a def gives: one end -/
inductive Out where
  | ret (d : D)
  | lst (l : List D)
  | exc (x : Str)
def OutR : Out → R → Prop
  | .ret d, r => r = .fz d
  | .lst l, r => ∃ a, r = .nw (.fl a l)
  | .exc _, _ => False
def OutX (K : PySem.W.Frag) : Out → Addr → Prop
  | .exc x, C => C = He.ga K x
  | _, _ => False
/-- called with told data it gives one told thing, and changes nothing -/
def spO (K : PySem.W.Frag) (S : List D → Out → Prop) : DSp := fun as P => ∃ ds out, as = ds.map Ar.fz ∧ S ds out ∧ P = ⟨fun r os => os = [] ∧ OutR out r, fun C os => os = [] ∧ OutX K out C⟩
theorem len_spO {S : List D → Out → Prop} {n : Nat} (h : ∀ ds out, S ds out → ds.length = n) : ∀ vs H Q E, toSp g (spO g.K S) vs H Q E → vs.length = n := len_toSp fun as P ⟨ds, out, e, s, _⟩ => by rw [e, List.length_map]; exact h ds out s
theorem sl_fz (ds : List D) : (ds.map Ar.fz).map Ar.sl = ds.map Sl.fz := by rw [List.map_map]; rfl
theorem muAt_fz : ∀ (ds : List D) (δ : List Sl), MuAt (ds.map Ar.fz) δ []
  | [], _ => rfl
  | _ :: ds, δ => muAt_fz ds δ.tail
/-- its body -/
theorem d_startO {t : TS} {N : List Str} {Q : VK} {E : XK} {vs : List V} {S : List D → Out → Prop} (h : toSp g (spO g.K S) vs H Q E)
    (q : ∀ ds out, S ds out → ∀ (c : Cn g), XOk c (WF E) (fun C _ => OutX g.K out C) → c.M = [] →
      DS c t (ds.map Sl.fz ++ List.replicate (N.length - ds.length) .no) { nx := fun _ => OutR out (.fz .non), rt := fun r _ => OutR out r }) :
    t { nx := fun _ H' => Q .non H', rt := Q } (L2.start N vs) H := by
  refine d_start h fun as P ⟨ds, out, e, s, eP⟩ c hx hM => ?_
  subst e; subst eP
  rw [sl_fz, List.length_map]
  refine (q ds out s c (fun C σ H F δ R z => hx C σ H F δ R ⟨[], muAt_fz ds δ, rfl, z⟩) (by rw [hM, muA_fz])).imp (fun δ z => ⟨[], muAt_fz ds δ, rfl, z⟩) (fun r δ z => ⟨?_, [], muAt_fz ds δ, rfl, z⟩) (fun _ z => z) (fun _ z => z)
  cases out with
  | ret d => cases z; rfl
  | lst l => obtain ⟨a, z⟩ := z; cases z; rfl
  | exc x => exact z.elim
theorem args_fz {rs : List R} : ∀ {rs : List R} {ds : List D}, fzs rs = some ds → argsOf δ rs = some (ds.map Ar.fz) ∧ muI rs = []
  | [], _, e => by simp only [fzs, Option.some.injEq] at e; subst e; exact ⟨rfl, rfl⟩
  | .fz d :: rs, ds, e => by
    simp only [fzs, Option.map_eq_some_iff] at e
    obtain ⟨q, e1, e2⟩ := e
    subst e2
    obtain ⟨h1, h2⟩ := args_fz (rs := rs) e1
    exact ⟨by simp only [argsOf, h1, Option.map_some, List.map_cons], h2⟩
  | .bw _ :: _, _, e => by simp [fzs] at e
  | .nw _ :: _, _, e => by simp [fzs] at e
  | .rf _ :: _, _, e => by simp [fzs] at e
theorem d_callO {S : List D → Out → Prop} {W : WX} {Ex : Addr → List Sl → Prop} (hx : XOk c W Ex) (q : DA c tr δ fun rs δ1 => ∃ ds out, fzs rs = some ds ∧ S ds out ∧ (∀ r, OutR out r → Q r δ1) ∧ ∀ C, OutX g.K out C → Ex C δ1) : DE c (tCallS (toSp g (spO g.K S)) (WE W) tr) δ Q := by
  refine d_call hx fun σ H F QV R k => q σ H F QV R fun vs H' F' rs δ' ⟨ds, out, e, s, k1, k2⟩ R' s' rep => ?_
  obtain ⟨h1, h2⟩ := args_fz (δ := δ') (rs := rs) e
  exact k vs H' F' rs δ' ⟨_, _, h1, h2, ⟨ds, out, rfl, s, rfl⟩, fun r z => k1 r z.2, fun C z => k2 C z.2⟩ R' s' rep
/-- it returns -/
theorem d_callR {S : List D → Out → Prop} {W : WX} {Ex : Addr → List Sl → Prop} (hx : XOk c W Ex) (q : DA c tr δ fun rs δ1 => ∃ ds d, fzs rs = some ds ∧ S ds (.ret d) ∧ Q (.fz d) δ1) : DE c (tCallS (toSp g (spO g.K S)) (WE W) tr) δ Q :=
  d_callO hx fun σ H F QV R k => q σ H F QV R fun vs H' F' rs δ' ⟨ds, d, e, s, k1⟩ R' s' rep => k vs H' F' rs δ' ⟨ds, _, e, s, fun r z => by rw [show r = .fz d from z]; exact k1, fun C z => z.elim⟩ R' s' rep
theorem d_callL {S : List D → Out → Prop} {W : WX} {Ex : Addr → List Sl → Prop} (hx : XOk c W Ex) (q : DA c tr δ fun rs δ1 => ∃ ds l, fzs rs = some ds ∧ S ds (.lst l) ∧ ∀ a, Q (.nw (.fl a l)) δ1) : DE c (tCallS (toSp g (spO g.K S)) (WE W) tr) δ Q :=
  d_callO hx fun σ H F QV R k => q σ H F QV R fun vs H' F' rs δ' ⟨ds, l, e, s, k1⟩ R' s' rep => k vs H' F' rs δ' ⟨ds, _, e, s, fun r ⟨a, z⟩ => by rw [z]; exact k1 a, fun C z => z.elim⟩ R' s' rep
/-- it raises -/
theorem d_callX {S : List D → Out → Prop} {W : WX} {Ex : Addr → List Sl → Prop} (hx : XOk c W Ex) (q : DA c tr δ fun rs δ1 => ∃ ds x, fzs rs = some ds ∧ S ds (.exc x) ∧ Ex (He.ga g.K x) δ1) : DE c (tCallS (toSp g (spO g.K S)) (WE W) tr) δ Q :=
  d_callO hx fun σ H F QV R k => q σ H F QV R fun vs H' F' rs δ' ⟨ds, x, e, s, k1⟩ R' s' rep => k vs H' F' rs δ' ⟨ds, _, e, s, fun r z => z.elim, fun C z => by rw [show C = _ from z]; exact k1⟩ R' s' rep
/-! what a slot holds alone is given out -/
theorem d_retO {M : List Addr} (hi : δ[i]? = some (.ow o)) (hM : c.M = M) (n : M = [] ∨ ∃ j oj, j ≠ i ∧ δ[j]? = some (Sl.ow oj) ∧ M = oj.adrs) (q : P.rt (.nw o) (δ.set i .no)) : DS c (tRet (tVar i)) δ P := fun σ H F E R k => by
  obtain ⟨v, h1, h2⟩ := R.ow i o hi
  have nd := nd_at R hi
  refine ⟨v, h1, k.rt σ v H F _ _ q ?_ (Same.refl F) ⟨h2, nd, fun a m => ?_⟩⟩
  · have hl := at_lt hi
    refine ⟨R.sub, R.fr, R.fr2, R.ff, by rw [List.length_set]; exact R.len, fun k d e => ?_, fun k o' e => ?_, R.nd.sublist (sub_no δ i), fun a m => R.fa a ((sub_no δ i).subset m), R.lb, fun k a e => ?_⟩
    · by_cases z : i = k
      · subst z; rw [List.getElem?_set, if_pos rfl, if_pos hl] at e; cases e
      · rw [List.getElem?_set_ne z] at e; exact R.fz k d e
    · by_cases z : i = k
      · subst z; rw [List.getElem?_set, if_pos rfl, if_pos hl] at e; cases e
      · rw [List.getElem?_set_ne z] at e; exact R.ow k o' e
    · by_cases z : i = k
      · subst z; rw [List.getElem?_set, if_pos rfl, if_pos hl] at e; cases e
      · rw [List.getElem?_set_ne z] at e; exact R.rf k a e
  · obtain ⟨z1, z2⟩ := R.fa a (mem_adS hi m)
    refine ⟨z1, z2.resolve_right fun z => ?_⟩
    rw [hM] at z
    rcases n with n | ⟨j, oj, ne, hj, e⟩
    · rw [n] at z; cases z
    · rw [e] at z
      have : a ∈ adS (δ.set i .no) := mem_adS (i := j) (o := oj) (by rw [List.getElem?_set_ne ne.symm]; exact hj) z
      exact (List.nodup_append.mp nd).2.2 a m a this rfl
/-! isinstance, by kinds -/
theorem kit_int : ∀ n ∈ ["NoneType", "bool", "int", "str", "list", "tuple", "dict"], kitB n "int" = some (n == "int" || n == "bool") := by decide +kernel
theorem kit_bool : ∀ n ∈ ["NoneType", "bool", "int", "str", "list", "tuple", "dict"], kitB n "bool" = some (n == "bool") := by decide +kernel
theorem kit_tuple : ∀ n ∈ ["NoneType", "bool", "int", "str", "list", "tuple", "dict"], kitB n "tuple" = some (n == "tuple") := by decide +kernel
theorem kit_str : ∀ n ∈ ["NoneType", "bool", "int", "str", "list", "tuple", "dict"], kitB n "str" = some (n == "str") := by decide +kernel
theorem kit_list : ∀ n ∈ ["NoneType", "bool", "int", "str", "list", "tuple", "dict"], kitB n "list" = some (n == "list") := by decide +kernel
theorem kit_dict : ∀ n ∈ ["NoneType", "bool", "int", "str", "list", "tuple", "dict"], kitB n "dict" = some (n == "dict") := by decide +kernel
/-- of a kind that isinstance is asked of -/
def D.pl : D → Bool
  | .ob _ _ => false
  | .tyN _ => false
  | .dn _ => false
  | _ => true
def D.isKi : D → Bool
  | .int _ => true
  | .bl _ => true
  | _ => false
theorem d_isKi (hx : x.dat δ = some d) (hp : d.pl = true) (hy : y = .fz (.tyN "int")) (q : Q (.fz (.bl d.isKi)) δ) : DC c (rIsD g.K) [x, y] δ Q := by
  subst hy
  refine d_isinst hx ?_ q
  cases d <;> first | (simp [D.pl] at hp; done) | (simp only [D.isT, D.ty, D.isKi]; rw [kit_int _ (by decide)]; decide)
theorem d_isKiT (hx : x.dat δ = some d) (hp : d.pl = true) (hb : d.isKi = true) (hy : y = .fz (.tyN "int")) (q : Q (.fz (.bl true)) δ) : DC c (rIsD g.K) [x, y] δ Q := d_isKi hx hp hy (by rw [hb]; exact q)
theorem d_isKiF (hx : x.dat δ = some d) (hp : d.pl = true) (hb : d.isKi = false) (hy : y = .fz (.tyN "int")) (q : Q (.fz (.bl false)) δ) : DC c (rIsD g.K) [x, y] δ Q := d_isKi hx hp hy (by rw [hb]; exact q)
def D.isKb : D → Bool
  | .bl _ => true
  | _ => false
theorem d_isKb (hx : x.dat δ = some d) (hp : d.pl = true) (hy : y = .fz (.tyN "bool")) (q : Q (.fz (.bl d.isKb)) δ) : DC c (rIsD g.K) [x, y] δ Q := by
  subst hy
  refine d_isinst hx ?_ q
  cases d <;> first | (simp [D.pl] at hp; done) | (simp only [D.isT, D.ty, D.isKb]; rw [kit_bool _ (by decide)]; decide)
theorem d_isKbT (hx : x.dat δ = some d) (hp : d.pl = true) (hb : d.isKb = true) (hy : y = .fz (.tyN "bool")) (q : Q (.fz (.bl true)) δ) : DC c (rIsD g.K) [x, y] δ Q := d_isKb hx hp hy (by rw [hb]; exact q)
theorem d_isKbF (hx : x.dat δ = some d) (hp : d.pl = true) (hb : d.isKb = false) (hy : y = .fz (.tyN "bool")) (q : Q (.fz (.bl false)) δ) : DC c (rIsD g.K) [x, y] δ Q := d_isKb hx hp hy (by rw [hb]; exact q)
def D.isKt : D → Bool
  | .tup _ => true
  | _ => false
theorem d_isKt (hx : x.dat δ = some d) (hp : d.pl = true) (hy : y = .fz (.tyN "tuple")) (q : Q (.fz (.bl d.isKt)) δ) : DC c (rIsD g.K) [x, y] δ Q := by
  subst hy
  refine d_isinst hx ?_ q
  cases d <;> first | (simp [D.pl] at hp; done) | (simp only [D.isT, D.ty, D.isKt]; rw [kit_tuple _ (by decide)]; decide)
theorem d_isKtT (hx : x.dat δ = some d) (hp : d.pl = true) (hb : d.isKt = true) (hy : y = .fz (.tyN "tuple")) (q : Q (.fz (.bl true)) δ) : DC c (rIsD g.K) [x, y] δ Q := d_isKt hx hp hy (by rw [hb]; exact q)
theorem d_isKtF (hx : x.dat δ = some d) (hp : d.pl = true) (hb : d.isKt = false) (hy : y = .fz (.tyN "tuple")) (q : Q (.fz (.bl false)) δ) : DC c (rIsD g.K) [x, y] δ Q := d_isKt hx hp hy (by rw [hb]; exact q)
def D.isKs : D → Bool
  | .str _ => true
  | _ => false
theorem d_isKs (hx : x.dat δ = some d) (hp : d.pl = true) (hy : y = .fz (.tyN "str")) (q : Q (.fz (.bl d.isKs)) δ) : DC c (rIsD g.K) [x, y] δ Q := by
  subst hy
  refine d_isinst hx ?_ q
  cases d <;> first | (simp [D.pl] at hp; done) | (simp only [D.isT, D.ty, D.isKs]; rw [kit_str _ (by decide)]; decide)
theorem d_isKsT (hx : x.dat δ = some d) (hp : d.pl = true) (hb : d.isKs = true) (hy : y = .fz (.tyN "str")) (q : Q (.fz (.bl true)) δ) : DC c (rIsD g.K) [x, y] δ Q := d_isKs hx hp hy (by rw [hb]; exact q)
theorem d_isKsF (hx : x.dat δ = some d) (hp : d.pl = true) (hb : d.isKs = false) (hy : y = .fz (.tyN "str")) (q : Q (.fz (.bl false)) δ) : DC c (rIsD g.K) [x, y] δ Q := d_isKs hx hp hy (by rw [hb]; exact q)
def D.isKl : D → Bool
  | .lst _ => true
  | .ro _ => true
  | _ => false
theorem d_isKl (hx : x.dat δ = some d) (hp : d.pl = true) (hy : y = .fz (.tyN "list")) (q : Q (.fz (.bl d.isKl)) δ) : DC c (rIsD g.K) [x, y] δ Q := by
  subst hy
  refine d_isinst hx ?_ q
  cases d <;> first | (simp [D.pl] at hp; done) | (simp only [D.isT, D.ty, D.isKl]; rw [kit_list _ (by decide)]; decide)
theorem d_isKlT (hx : x.dat δ = some d) (hp : d.pl = true) (hb : d.isKl = true) (hy : y = .fz (.tyN "list")) (q : Q (.fz (.bl true)) δ) : DC c (rIsD g.K) [x, y] δ Q := d_isKl hx hp hy (by rw [hb]; exact q)
theorem d_isKlF (hx : x.dat δ = some d) (hp : d.pl = true) (hb : d.isKl = false) (hy : y = .fz (.tyN "list")) (q : Q (.fz (.bl false)) δ) : DC c (rIsD g.K) [x, y] δ Q := d_isKl hx hp hy (by rw [hb]; exact q)
def D.isKd : D → Bool
  | .dk _ => true
  | .dt _ => true
  | .dn _ => true
  | _ => false
theorem d_isKd (hx : x.dat δ = some d) (hp : d.pl = true) (hy : y = .fz (.tyN "dict")) (q : Q (.fz (.bl d.isKd)) δ) : DC c (rIsD g.K) [x, y] δ Q := by
  subst hy
  refine d_isinst hx ?_ q
  cases d <;> first | (simp [D.pl] at hp; done) | (simp only [D.isT, D.ty, D.isKd]; rw [kit_dict _ (by decide)]; decide)
theorem d_isKdT (hx : x.dat δ = some d) (hp : d.pl = true) (hb : d.isKd = true) (hy : y = .fz (.tyN "dict")) (q : Q (.fz (.bl true)) δ) : DC c (rIsD g.K) [x, y] δ Q := d_isKd hx hp hy (by rw [hb]; exact q)
theorem d_isKdF (hx : x.dat δ = some d) (hp : d.pl = true) (hb : d.isKd = false) (hy : y = .fz (.tyN "dict")) (q : Q (.fz (.bl false)) δ) : DC c (rIsD g.K) [x, y] δ Q := d_isKd hx hp hy (by rw [hb]; exact q)
theorem d_isNT (hx : x.dat δ = some d) (hy : y = .fz .non) (hb : d.isN = true) (q : Q (.fz (.bl true)) δ) : DO c rIsN x y δ Q := d_isN hx hy (by rw [hb]; exact q)
theorem d_isNF (hx : x.dat δ = some d) (hy : y = .fz .non) (hb : d.isN = false) (q : Q (.fz (.bl false)) δ) : DO c rIsN x y δ Q := d_isN hx hy (by rw [hb]; exact q)
theorem d_notNT (hx : x.dat δ = some d) (hy : y = .fz .non) (hb : d.isN = true) (q : Q (.fz (.bl false)) δ) : DO c rNotN x y δ Q := d_notN hx hy (by rw [hb]; exact q)
theorem d_notNF (hx : x.dat δ = some d) (hy : y = .fz .non) (hb : d.isN = false) (q : Q (.fz (.bl true)) δ) : DO c rNotN x y δ Q := d_notN hx hy (by rw [hb]; exact q)
theorem d_eqI {n m : Int} (hx : x = .fz (.int n)) (hy : y = .fz (.int m)) (q : Q (.fz (.bl (decide (n = m)))) δ) : DO c rEq x y δ Q := d_eq hx hy rfl q
theorem d_neI {n m : Int} (hx : x = .fz (.int n)) (hy : y = .fz (.int m)) (q : Q (.fz (.bl (!decide (n = m)))) δ) : DO c rNe x y δ Q := d_ne hx hy rfl q
theorem d_eqS {n m : Str} (hx : x = .fz (.str n)) (hy : y = .fz (.str m)) (q : Q (.fz (.bl (decide (n = m)))) δ) : DO c rEq x y δ Q := d_eq hx hy rfl q
theorem d_neS {n m : Str} (hx : x = .fz (.str n)) (hy : y = .fz (.str m)) (q : Q (.fz (.bl (!decide (n = m)))) δ) : DO c rNe x y δ Q := d_ne hx hy rfl q
theorem d_exT {S : List D → Prop} (q : S ds) : ∃ l, R.fz (D.tup ds) = .fz (.tup l) ∧ S l := ⟨ds, rfl, q⟩
theorem d_exL {S : List D → Prop} (h : lsFr x = some ds) (q : S ds) : ∃ l, lsFr x = some l ∧ S l := ⟨ds, h, q⟩
theorem d_exE {S : List D → Prop} (h : x.els δ = some ds) (q : S ds) : ∃ l, x.els δ = some l ∧ S l := ⟨ds, h, q⟩
theorem d_st {t : TS} {δ' : List Sl} (e : δ = δ') (q : DS c t δ' P) : DS c t δ P := by rw [e]; exact q
/-- a statement behind which a told state goes on -/
theorem d_cut {t u : TS} (M : List Sl → Prop) (h1 : DS c t δ { P with nx := M }) (h2 : ∀ δ', M δ' → DS c u δ' P) : DS c (Evl.tCut t u) δ P := fun σ H F E R k =>
  ⟨fun s h => ∃ F' δ', M δ' ∧ Rel c s h F' δ' ∧ Same F F', h1 σ H F _ R ⟨fun σ' H' F' δ' q R' s' => ⟨F', δ', q, R', s'⟩, k.rt, k.bk, k.ct⟩, fun s h ⟨F', δ', q, R', s'⟩ => h2 δ' q s h F' E R' (k.later s')⟩
/-- an expression behind which a told result goes on -/
theorem d_hold (M : R → List Sl → Prop) (h1 : DE c te δ M) (h2 : ∀ r δ', M r δ' → Q r δ') : DE c (KB.tHold te) δ Q := DE.imp h1 h2
end
end KD

set_option maxHeartbeats 4000000
/-! lists of lists that are changed -/
namespace KD
open PySem PySem.Spec PyProof.Rows L2 KB
section
variable {g : Gb} {c : Cn g} {σ : L2.St} {H F F' H' : Hp} {δ : List Sl} {v : V} {r x y : R} {ds es : List D} {d e : D} {o o2 : OD} {i j k : Nat} {Q : R → List Sl → Prop} {P : PD} {os : List OD}
theorem OwL.append : ∀ {vs ws : List V} {os qs : List OD}, OwL g H F vs os → OwL g H F ws qs → OwL g H F (vs ++ ws) (os ++ qs)
  | _, _, _, _, .nil, h => h
  | _, _, _, _, .cons a t, h => .cons a (OwL.append t h)
theorem OwL.length : ∀ {vs : List V} {os : List OD}, OwL g H F vs os → vs.length = os.length
  | _, _, .nil => rfl
  | _, _, .cons _ t => by simp only [List.length_cons, OwL.length t]
theorem adrsL_app (a b : List OD) : adrsL (a ++ b) = adrsL a ++ adrsL b := by
  induction a with
  | nil => rfl
  | cons o r ih => simp only [List.cons_append, adrsL, ih, List.append_assoc]
theorem OwL.get : ∀ {vs : List V} {os : List OD} {i : Nat} {o : OD}, OwL g H F vs os → os[i]? = some o → ∃ v, vs[i]? = some v ∧ Ow g H F v o
  | _, _, _, _, .nil, e => by simp at e
  | _, _, 0, _, .cons a _, e => by
    simp only [List.length_cons, Nat.zero_lt_succ, List.getElem?_eq_getElem, List.getElem_cons_zero, Option.some.injEq] at e
    subst e
    exact ⟨_, rfl, a⟩
  | _, _, i + 1, d, .cons _ t, e => by
    obtain ⟨v, h1, h2⟩ := OwL.get (i := i) (o := d) t (by simpa using e)
    exact ⟨v, by simpa using h1, h2⟩
theorem mem_adrsL : ∀ {os : List OD} {i : Nat} {o : OD} {a : Addr}, os[i]? = some o → a ∈ o.adrs → a ∈ adrsL os
  | [], _, _, _, e, _ => by simp at e
  | s :: r, 0, o, a, e, m => by
    simp only [List.length_cons, Nat.zero_lt_succ, List.getElem?_eq_getElem, List.getElem_cons_zero, Option.some.injEq] at e
    subst e
    simp [adrsL, m]
  | s :: r, i + 1, o, a, e, m => by
    have := mem_adrsL (i := i) (o := o) (a := a) (os := r) (by simpa using e) m
    simp [adrsL, this]
/-- [elt for .. ]: new things stay held alone -/
theorem d_lcN {wi : TI} {tg : TG} {tt : TT} {te : TE} {vs : List Nat} (hg : Only tg vs) (q : DI c wi δ fun n it ok δ1 => n ≤ sizeLine ∧ ∃ Iv : Nat → List OD → List Sl → Prop, Iv 0 [] δ1 ∧ (∀ i acc δ, Iv i acc δ → ok δ ∧ NoOw δ vs = true) ∧
    (∀ (c' : Cn g) i acc δ, i < n → Iv i acc δ → DG c' tg (.fz (it i)) (wipeD δ vs) fun δ2 => DT c' tt δ2 fun b δ3 => if b = true then DE c' te δ3 fun r δ4 => ∃ o, r = .nw o ∧ Iv (i + 1) (acc ++ [o]) (back δ δ4 vs) else Iv (i + 1) acc (back δ δ3 vs)) ∧
    ∀ p acc δ', Iv n acc δ' → Q (.nw (.nl p acc)) δ') : DE c (tLc wi tg tt te vs) δ Q := fun σ H F QV R k =>
  q σ H F _ R fun J H1 F1 n it ok δ1 ⟨hn, Iv, h0, hok, hs, hd⟩ R1 s1 I => by
    intro D hD
    obtain ⟨R1', n1, n2, n3⟩ := R1.newO (o := .lst []) hD
    refine ⟨fun i m h => ∃ F2 δ2 acc accV, m = n - i ∧ i ≤ n ∧ Rel c σ h F2 δ2 ∧ Same F1 F2 ∧ Iv i acc δ2 ∧ acc.length ≤ i ∧ h D = some (.lst accV) ∧ OwL g h F2 accV acc ∧ (adrsL acc).Nodup ∧ (∀ a ∈ adrsL acc, F2 a = none ∧ a ∉ adS δ2 ∧ c.H0 a = none ∧ a ≠ D) ∧ F2 D = none ∧ D ∉ adS δ2,
      ⟨n, F1, δ1, [], [], by omega, Nat.zero_le _, R1', Same.refl F1, h0, Nat.le_refl 0, upd_same, .nil, List.nodup_nil, (fun a m => nomatch m), n1, n3⟩, ?_⟩
    rintro i m h ⟨F2, δ2, acc, accV, rfl, hi, R2, s2, inv, hl, hD2, hacc, hnd, hfa, fD2, aD2⟩
    obtain ⟨hok2, hno⟩ := hok i acc δ2 inv
    by_cases hlt : i < n
    · refine .inr ⟨I.go i σ h F2 δ2 hlt R2 s2 hok2, fun h' => ∃ F3 δ3 acc accV, Rel c σ h' F3 δ3 ∧ Same F1 F3 ∧ Iv (i + 1) acc δ3 ∧ acc.length ≤ i + 1 ∧ h' D = some (.lst accV) ∧ OwL g h' F3 accV acc ∧ (adrsL acc).Nodup ∧ (∀ a ∈ adrsL acc, F3 a = none ∧ a ∉ adS δ3 ∧ c.H0 a = none ∧ a ≠ D) ∧ F3 D = none ∧ D ∉ adS δ3, ?_, ?_⟩
      · rintro h' ⟨F3, δ3, acc, accV, a1, a2, a3, a4, a5, a6, a7, a8, a9, a10⟩
        exact ⟨n - (i + 1), by omega, F3, δ3, acc, accV, rfl, hlt, a1, a2, a3, a4, a5, a6, a7, a8, a9, a10⟩
      · intro x h' y
        obtain ⟨F3, R3, s3, sH, kF, hx⟩ := I.yld i σ h F2 δ2 x h' hlt R2 s2 hok2 y
        have hD3 : h' D = some (.lst accV) := sH _ _ hD2
        have fD3 : F3 D = none := (kF D (by rw [hD2]; exact fun z => nomatch z)).trans fD2
        have hasA : ∀ a ∈ adrsL acc, h a ≠ none := fun a m => OwL.has hacc a m
        have sA : ∀ a ∈ adrsL acc, h' a = h a := fun a m => by
          cases q : h a with
          | none => exact absurd q (hasA a m)
          | some u => exact sH _ _ q
        have Rin := rel_in R3 vs
        have nM : ∀ a, a ∉ adS δ2 → h' a ≠ none → ∀ (σ2 : L2.St) (H4 F4 : Hp) (δ4 : List Sl), Rel (⟨h', F3, F3, adS (wipeD δ2 vs)⟩ : Cn g) σ2 H4 F4 δ4 → H4 a = h' a ∧ F4 a = F3 a ∧ a ∉ adS δ4 := fun a n1 n2 σ2 H4 F4 δ4 R4 => by
          refine ⟨?_, R4.ff a n2, fun z => ?_⟩
          · cases q : h' a with
            | none => exact absurd q n2
            | some u => exact R4.fr a u q fun z => n1 ((wipeD_sub δ2 vs).subset z)
          · rcases (R4.fa a z).2 with q | q
            · exact n2 q
            · exact n1 ((wipeD_sub δ2 vs).subset q)
        have hD3n : h' D ≠ none := by rw [hD3]; exact fun z => nomatch z
        have fin : ∀ (σ2 : L2.St) (H4 F4 : Hp) (δ4 : List Sl), wipe σ2 vs = wipe σ vs → Rel (⟨h', F3, F3, adS (wipeD δ2 vs)⟩ : Cn g) σ2 H4 F4 δ4 →
            Rel c σ H4 F4 (back δ2 δ4 vs) ∧ Same F3 F4 ∧ H4 D = some (.lst accV) ∧ F4 D = none ∧ D ∉ adS (back δ2 δ4 vs) ∧ OwL g H4 F4 accV acc ∧ (∀ a ∈ adrsL acc, F4 a = none ∧ a ∉ adS (back δ2 δ4 vs) ∧ c.H0 a = none ∧ a ≠ D) := fun σ2 H4 F4 δ4 ew R4 => by
          obtain ⟨d1, d2, d3⟩ := nM D aD2 hD3n σ2 H4 F4 δ4 R4
          refine ⟨rel_out R3 hno R4 ew, R4.lb, d1.trans hD3, d2.trans fD3, fun z => d3 ((back_sub hno).subset z), hacc.move (s3.trans R4.lb) fun a m => ?_, fun a m => ?_⟩
          · obtain ⟨q1, _, _⟩ := nM a (hfa a m).2.1 (by rw [sA a m]; exact hasA a m) σ2 H4 F4 δ4 R4
            exact q1.trans (sA a m)
          · obtain ⟨_, q2, q3⟩ := nM a (hfa a m).2.1 (by rw [sA a m]; exact hasA a m) σ2 H4 F4 δ4 R4
            exact ⟨q2.trans ((kF a (hasA a m)).trans (hfa a m).1), fun z => q3 ((back_sub hno).subset z), (hfa a m).2.2⟩
        refine hg x (wipe σ vs) h' _ _ ?_ (hs ⟨h', F3, F3, adS (wipeD δ2 vs)⟩ i acc δ2 hlt inv (wipe σ vs) h' F3 x
          (fun σ2 H2 => wipe σ2 vs = wipe σ vs → tt σ2 H2 fun b H3 => if b = true then te σ2 H3 fun y H4 => ∃ acc, H4 D = some (.lst acc) ∧ acc.length < sizeLine ∧ ∃ F3 δ3 acc2 accV, Rel c σ (upd H4 D (.lst (acc ++ [y]))) F3 δ3 ∧ Same F1 F3 ∧ Iv (i + 1) acc2 δ3 ∧ acc2.length ≤ i + 1 ∧ upd H4 D (.lst (acc ++ [y])) D = some (.lst accV) ∧ OwL g (upd H4 D (.lst (acc ++ [y]))) F3 accV acc2 ∧ (adrsL acc2).Nodup ∧ (∀ a ∈ adrsL acc2, F3 a = none ∧ a ∉ adS δ3 ∧ c.H0 a = none ∧ a ≠ D) ∧ F3 D = none ∧ D ∉ adS δ3
            else ∃ F3 δ3 acc accV, Rel c σ H3 F3 δ3 ∧ Same F1 F3 ∧ Iv (i + 1) acc δ3 ∧ acc.length ≤ i + 1 ∧ H3 D = some (.lst accV) ∧ OwL g H3 F3 accV acc ∧ (adrsL acc).Nodup ∧ (∀ a ∈ adrsL acc, F3 a = none ∧ a ∉ adS δ3 ∧ c.H0 a = none ∧ a ≠ D) ∧ F3 D = none ∧ D ∉ adS δ3) Rin hx ?_)
        · intro σ2 H2 ew q
          have ew' : wipe σ2 vs = wipe σ vs := by
            rw [ew]
            refine List.ext_getElem? fun j => ?_
            rw [wipe_get, wipe_get]
            by_cases m : j ∈ vs
            · rw [if_pos m, if_pos m]; cases σ[j]? <;> rfl
            · rw [if_neg m, if_neg m]
          exact ⟨ew', q ew'⟩
        · intro σ2 H2 F4 δ3 q3 R4 s4 ew
          refine q3 σ2 H2 F4 _ R4 fun b H3 F5 δ4 q4 R5 s5 => ?_
          cases b with
          | true =>
            refine (show te σ2 H3 _ from q4 σ2 H3 F5 _ R5 fun y H4 F6 r δ5 ⟨o, er, q5⟩ R6 s6 rep => ?_)
            subst er
            obtain ⟨ow, ond, ofa⟩ := rep
            obtain ⟨Ro, sF, hD4, fD4, aD4, hacc4, hfa4⟩ := fin σ2 H4 F6 δ5 ew R6
            have hlen : accV.length = acc.length := hacc.length
            have oD : ∀ a ∈ o.adrs, a ≠ D := fun a m z => by
              have : h' a = none := (ofa a m).2
              rw [z] at this
              exact hD3n this
            have oA : ∀ a ∈ o.adrs, a ∉ adrsL acc := fun a m z => by
              have : h' a = none := (ofa a m).2
              exact absurd this (by rw [sA a z]; exact hasA a z)
            refine ⟨accV, hD4, by omega, F6, _, acc ++ [o], accV ++ [y], rel_off Ro n2 fD4 aD4, (s2.trans s3).trans sF, q5, by rw [List.length_append, List.length_singleton]; omega, upd_same,
              (hacc4.move (Same.refl F6) fun a m => upd_ne (hfa4 a m).2.2.2).append (.cons (ow.move (Same.refl F6) fun a m => upd_ne (oD a m)) .nil), ?_, fun a m => ?_, fD4, aD4⟩
            · rw [adrsL_app]
              simp only [adrsL, List.append_nil]
              exact List.nodup_append.mpr ⟨hnd, (List.nodup_append.mp ond).1, fun a m1 b m2 z => oA b m2 (by rw [← z]; exact m1)⟩
            · rw [adrsL_app] at m
              simp only [adrsL, List.append_nil, List.mem_append] at m
              rcases m with m | m
              · exact hfa4 a m
              · refine ⟨(ofa a m).1, fun z => (List.nodup_append.mp ond).2.2 a m a ((back_sub hno).subset z) rfl, ?_, oD a m⟩
                have : h' a = none := (ofa a m).2
                cases q : c.H0 a with
                | none => rfl
                | some u => exact absurd this (R3.fr2 a (by rw [q]; exact fun z => nomatch z))
          | false =>
            obtain ⟨Ro, sF, hD4, fD4, aD4, hacc4, hfa4⟩ := fin σ2 H3 F5 δ4 ew R5
            exact ⟨F5, _, acc, accV, Ro, (s2.trans s3).trans sF, q4, by omega, hD4, hacc4, hnd, hfa4, fD4, aD4⟩
    · have e : i = n := by omega
      subst e
      refine .inl ⟨I.stop σ h F2 δ2 R2 s2 hok2, k _ h F2 _ δ2 (hd D acc δ2 inv) R2 (s1.trans s2) ⟨.nl hD2 hacc, ?_, fun a m => ?_⟩⟩
      · simp only [OD.adrs, List.cons_append, List.nodup_cons, List.mem_append, not_or]
        exact ⟨⟨fun z => (hfa D z).2.2.2 rfl, aD2⟩, List.nodup_append.mpr ⟨hnd, R2.nd, fun a m1 b m2 z => (hfa a m1).2.1 (by rw [z]; exact m2)⟩⟩
      · simp only [OD.adrs, List.mem_cons] at m
        rcases m with m | m
        · subst m
          exact ⟨fD2, n2⟩
        · exact ⟨(hfa a m).1, (hfa a m).2.2.1⟩
/-- one of the lists, looked up -/
theorem nl_at {p : Addr} (R : Rel c σ H F δ) (hi : δ[i]? = some (.ow (.nl p os))) (hv : σ[i]? = some (some v)) : ∃ vs, v = .ref p ∧ H p = some (.lst vs) ∧ OwL g H F vs os := by
  obtain ⟨w, h1, h2⟩ := R.ow i _ hi
  rw [hv] at h1
  cases h1
  cases h2 with
  | nl h3 h4 => exact ⟨_, rfl, h3, h4⟩
theorem d_ixN {p a : Addr} {n : Int} (hx : x = .bw i) (hy : y = .fz (.int n)) (hi : δ[i]? = some (.ow (.nl p os))) (ha : atI os n = some o) (ho : o.root = some a) (q : Q (.rf a) δ) : DO c (rIx g.K) x y δ Q := fun σ H F v w QV R k1 k2 k => by
  subst hx; subst hy
  cases k2
  obtain ⟨vs, rfl, h1, h2⟩ := nl_at R hi k1
  unfold atI at ha
  cases e : ixN os.length n with
  | none => rw [e] at ha; cases ha
  | some j =>
    rw [e] at ha
    have ha : os[j]? = some o := ha
    obtain ⟨u, h3, h4⟩ := h2.get ha
    have eu := h4.root ho
    subst eu
    refine .inl ⟨p, vs, n, .ref a, rfl, rfl, .inl (.inl h1), ?_, k _ H F _ _ q R (Same.refl F) rfl⟩
    unfold atI
    rw [h2.length, e]
    exact h3
/-- one of the lists is changed -/
theorem adrsL_set : ∀ {os : List OD} {i : Nat} {o o2 : OD}, os[i]? = some o → o2.adrs = o.adrs → adrsL (os.set i o2) = adrsL os
  | [], _, _, _, e, _ => by simp at e
  | s :: r, 0, o, o2, e, m => by
    simp only [List.length_cons, Nat.zero_lt_succ, List.getElem?_eq_getElem, List.getElem_cons_zero, Option.some.injEq] at e
    subst e
    simp only [List.set_cons_zero, adrsL, m]
  | s :: r, i + 1, o, o2, e, m => by
    simp only [List.set_cons_succ, adrsL, adrsL_set (i := i) (o := o) (os := r) (by simpa using e) m]
theorem OwL.setAt {b : Addr} {u : HO} : ∀ {vs : List V} {os : List OD} {i : Nat} {o o2 : OD}, OwL g H F vs os → os[i]? = some o → (∀ v, Ow g H F v o → Ow g (upd H b u) F v o2) → b ∈ o.adrs → (adrsL os).Nodup → OwL g (upd H b u) F vs (os.set i o2)
  | _, _, _, _, _, .nil, e, _, _, _ => by simp at e
  | _, _, 0, o, o2, .cons a t, e, k, m, nd => by
    simp only [List.length_cons, Nat.zero_lt_succ, List.getElem?_eq_getElem, List.getElem_cons_zero, Option.some.injEq] at e
    subst e
    simp only [adrsL] at nd
    exact .cons (k _ a) (t.move (Same.refl F) fun z mz => upd_ne fun ez => (List.nodup_append.mp nd).2.2 b m z mz ez.symm)
  | _, s :: r, i + 1, o, o2, .cons a t, e, k, m, nd => by
    have e' : r[i]? = some o := by simpa using e
    simp only [adrsL] at nd
    have mb := mem_adrsL e' m
    refine .cons (a.move (Same.refl F) fun z mz => upd_ne fun ez => (List.nodup_append.mp nd).2.2 z mz b mb ez) ?_
    exact OwL.setAt t e' k m (List.nodup_append.mp nd).2.1
theorem d_appendN {p a : Addr} (hx : x = .rf a) (hy : y = .fz d) (hi : δ[i]? = some (.ow (.nl p os))) (ha : os[j]? = some (.fl a ds)) (hl : ds.length < sizeLine) (q : Q (.fz .non) (δ.set i (.ow (.nl p (os.set j (.fl a (ds ++ [d]))))))) : DM c rAppend x [y] δ Q := fun σ H F v vs QV R k1 k2 k => by
  subst hx; subst hy
  have k1 : v = .ref a := k1
  subst k1
  obtain ⟨w, rfl, hw⟩ := one_rep k2
  obtain ⟨v0, hv0, how⟩ := R.ow i _ hi
  cases how with
  | nl h1 h2 =>
    obtain ⟨u, h3, h4⟩ := h2.get ha
    cases h4 with
    | fl h5 h6 =>
      rename_i ws
      have ma : a ∈ (OD.fl a ds).adrs := by simp [OD.adrs]
      have ma2 := mem_adrsL ha ma
      have nd : (OD.nl p os).adrs.Nodup := (List.nodup_append.mp (nd_at R hi)).1
      simp only [OD.adrs, List.nodup_cons] at nd
      have hn : p ≠ a := fun z => nd.1 (by rw [z]; exact ma2)
      refine ⟨a, ws, w, rfl, rfl, h5, by rw [h6.length]; exact hl, k _ _ F _ _ q (R.chg1 hi (by simp [OD.adrs, ma2]) (by simp only [OD.adrs]; rw [adrsL_set (o2 := .fl a (ds ++ [d])) ha rfl]) fun v' hv' => ?_) (Same.refl F) .non⟩
      cases hv' with
      | nl h7 h8 =>
        refine .nl ((upd_ne hn).trans h7) (h8.setAt ha (fun v2 hv2 => ?_) ma nd.2)
        cases hv2 with
        | fl h9 h10 =>
          rw [h5] at h9
          cases h9
          exact .fl upd_same (h10.append (.cons hw .nil))
/-- a list that a method is asked of -/
def LsAt (δ : List Sl) (r : R) : Prop := (∃ ds, r.lsL δ = some ds) ∨ ∃ (a : Addr) (i : Nat) (p : Addr) (os : List OD) (j : Nat) (ds : List D), r = .rf a ∧ δ[i]? = some (Sl.ow (.nl p os)) ∧ os[j]? = some (OD.fl a ds)
theorem lsAt_ok (R0 : Rel c σ H F δ) (k : RRep c σ H F δ v r) (e : LsAt δ r) : ∃ a ws, v = .ref a ∧ H a = some (.lst ws) := by
  rcases e with ⟨ds, e⟩ | ⟨a, i, p, os, j, ds, er, hi, hj⟩
  · obtain ⟨a, vs, h1, h2, _⟩ := lsL_ok R0 k e
    exact ⟨a, vs, h1, h2⟩
  · subst er
    have k : v = .ref a := k
    obtain ⟨v0, hv0, how⟩ := R0.ow i _ hi
    cases how with
    | nl h1 h2 =>
      obtain ⟨u, h3, h4⟩ := h2.get hj
      cases h4 with
      | fl h5 h6 => exact ⟨a, _, k, h5⟩
theorem d_BMx {K : PySem.W.Frag} {f : V → List V → Hp → VK → Prop} {te : TE} {tr : TA} (hK : K = g.K) (q : DE c te δ fun x δ1 => LsAt δ1 x.frz ∧ DA c tr δ1 fun xs δ2 => DM c f x.frz xs δ2 Q) : DE c (tBM K "list" f te tr) δ Q := fun σ H F QV R k => by
  subst hK
  refine de_frz (QV := fun x H1 => tyV g.K "list" x H1 ∧ tr σ H1 fun xs H2 => f x xs H2 QV) q R fun v H1 F1 x δ1 ⟨e, q1⟩ R1 s1 rep1 => ?_
  obtain ⟨a, ws, rfl, h1⟩ := lsAt_ok R1 rep1 e
  refine ⟨.inl ⟨rfl, _, .inl (.inl h1)⟩, q1 σ H1 F1 _ R1 fun us H2 F2 xs δ2 q2 R2 s2 rep2 => ?_⟩
  exact q2 σ H2 F2 _ us QV R2 (rep_keep rep1 (frz_frz _) s2) rep2 fun v' H' F' r δ' q' R' s' => k v' H' F' r δ' q' R' ((s1.trans s2).trans s')
theorem d_BM0x {K : PySem.W.Frag} {f : V → List V → Hp → VK → Prop} {te : TE} (hK : K = g.K) (q : DE c te δ fun x δ1 => LsAt δ1 x.frz ∧ DM c f x.frz [] δ1 Q) : DE c (tBM0 K "list" f te) δ Q := fun σ H F QV R k => by
  subst hK
  refine de_frz (QV := fun x H1 => tyV g.K "list" x H1 ∧ f x [] H1 QV) q R fun v H1 F1 x δ1 ⟨e, q1⟩ R1 s1 rep1 => ?_
  obtain ⟨a, ws, rfl, h1⟩ := lsAt_ok R1 rep1 e
  exact ⟨.inl ⟨rfl, _, .inl (.inl h1)⟩, q1 σ H1 F1 _ [] QV R1 rep1 .nil fun v' H' F' r δ' q' R' s' => k v' H' F' r δ' q' R' (s1.trans s')⟩
theorem d_bm {A : Prop} (h : x.lsL δ = some ds) (q : A) : LsAt δ x ∧ A := ⟨.inl ⟨ds, h⟩, q⟩
theorem d_bmR {A : Prop} {a p : Addr} (hi : δ[i]? = some (Sl.ow (.nl p os))) (hj : os[j]? = some (OD.fl a ds)) (q : A) : LsAt δ (.rf a) ∧ A := ⟨.inr ⟨a, i, p, os, j, ds, rfl, hi, hj⟩, q⟩
/-- given out: the lists in it frozen -/
theorem d_retN2 {p : Addr} {M : List Addr} (hi : δ[i]? = some (.ow (.nl p os))) (hM : c.M = M) (n : M = [] ∨ ∃ j oj, j ≠ i ∧ δ[j]? = some (Sl.ow oj) ∧ M = oj.adrs) (q : P.rt (.nw (.fl p (dataL os))) (δ.set i .no)) : DS c (tRet (tVar i)) δ P := by
  refine (d_retO (P := { P with rt := fun r δ' => r = .nw (.nl p os) ∧ δ' = δ.set i .no }) hi hM n ⟨rfl, rfl⟩ : DS c (tRet (tVar i)) δ _) |> fun h => ?_
  intro σ H F E R k
  refine h σ H F E R ⟨k.nx, fun σ' v H' F' r δ' ⟨er, ed⟩ R' s rep => ?_, k.bk, k.ct⟩
  subst er; subst ed
  obtain ⟨w, nd, fa⟩ := rep
  cases w with
  | nl h1 h2 =>
    simp only [OD.adrs, List.cons_append, List.nodup_cons, List.mem_append, not_or] at nd
    have fa' : ∀ a ∈ adrsL os, F' a = none ∧ c.H0 a = none := fun a m => fa a (by simp [OD.adrs, m])
    have fp := fa p (by simp [OD.adrs])
    have s2 : Same F' (ext F' H' (adrsL os)) := fun a u e => by
      by_cases m : a ∈ adrsL os
      · rw [(fa' a m).1] at e; cases e
      · rw [ext_out m]; exact e
    have R2 : Rel c σ' H' (ext F' H' (adrsL os)) (δ.set i .no) := R'.grow s2 (fun a u e => by
      by_cases m : a ∈ adrsL os
      · rw [ext_in m] at e; exact e
      · rw [ext_out m] at e; exact R'.sub a u e) (fun a z => by
      by_cases m : a ∈ adrsL os
      · exact absurd (fa' a m).2 z
      · exact ext_out m) (fun a m => by
      have : a ∉ adrsL os := fun z => (List.nodup_append.mp nd.2).2.2 a z a m rfl
      rw [ext_out this]
      exact (R'.fa a m).1)
    refine k.rt σ' _ H' _ _ _ q R2 (s.trans s2) ⟨.fl h1 (h2.frz s2 fun a m => ext_in m), ?_, fun a m => ?_⟩
    · simp only [OD.adrs, List.singleton_append, List.nodup_cons]
      exact ⟨nd.1.2, R2.nd⟩
    · simp only [OD.adrs, List.mem_singleton] at m
      subst m
      exact ⟨by rw [ext_out nd.1.1]; exact fp.1, fp.2⟩
end
end KD

set_option maxHeartbeats 4000000
/-! dicts by data -/
namespace KD
open PySem PySem.Spec PyProof.Rows L2 KB
section
variable {κ : Type} [DecidableEq κ]
def valD (m : List (κ × D)) (k : κ) : Option D := (m.find? fun p => decide (p.1 = k)).map (·.2)
def putD (m : List (κ × D)) (k : κ) (d : D) : List (κ × D) :=
  if (m.any fun p => decide (p.1 = k)) = true then m.map (fun p => if p.1 = k then (p.1, d) else p) else m ++ [(k, d)]
def dropD (m : List (κ × D)) (k : κ) : List (κ × D) := m.filter fun p => decide (p.1 ≠ k)
theorem valD_nil {k : κ} : valD ([] : List (κ × D)) k = none := rfl
theorem valD_cons (p : κ × D) (m : List (κ × D)) (k : κ) : valD (p :: m) k = if p.1 = k then some p.2 else valD m k := by
  unfold valD
  rw [List.find?_cons]
  by_cases h : p.1 = k
  · rw [if_pos h]; simp [h]
  · rw [if_neg h]; simp [h]
theorem valD_any (m : List (κ × D)) (k : κ) : (m.any fun p => decide (p.1 = k)) = (valD m k).isSome := by
  induction m with
  | nil => rfl
  | cons p r ih =>
    rw [List.any_cons, valD_cons]
    by_cases h : p.1 = k
    · rw [if_pos h, decide_eq_true h]; rfl
    · rw [if_neg h, decide_eq_false h, Bool.false_or]; exact ih
theorem valD_map (m : List (κ × D)) (k j : κ) (d : D) : valD (m.map fun p => if p.1 = k then (p.1, d) else p) j = (valD m j).map fun x => if j = k then d else x := by
  induction m with
  | nil => rfl
  | cons p r ih =>
    rw [List.map_cons, valD_cons, valD_cons, ih]
    by_cases h : p.1 = k
    · rw [if_pos h]
      by_cases h2 : p.1 = j
      · rw [if_pos h2, if_pos h2, Option.map_some, if_pos (h2 ▸ h)]
      · rw [if_neg h2, if_neg h2]
    · rw [if_neg h]
      by_cases h2 : p.1 = j
      · rw [if_pos h2, if_pos h2, Option.map_some, if_neg (h2 ▸ h)]
      · rw [if_neg h2, if_neg h2]
theorem valD_snoc (m : List (κ × D)) (k j : κ) (d : D) (h : valD m k = none) : valD (m ++ [(k, d)]) j = if j = k then some d else valD m j := by
  induction m with
  | nil =>
    rw [List.nil_append, valD_cons]
    by_cases e : k = j
    · rw [if_pos e, if_pos e.symm]
    · rw [if_neg e, if_neg fun z => e z.symm]
  | cons p r ih =>
    rw [valD_cons] at h
    by_cases h1 : p.1 = k
    · rw [if_pos h1] at h; cases h
    · rw [if_neg h1] at h
      rw [List.cons_append, valD_cons, valD_cons, ih h]
      by_cases h2 : p.1 = j
      · rw [if_pos h2, if_pos h2, if_neg fun z => h1 (h2.trans z)]
      · rw [if_neg h2, if_neg h2]
theorem valD_put (m : List (κ × D)) (k j : κ) (d : D) : valD (putD m k d) j = if j = k then some d else valD m j := by
  unfold putD
  rw [valD_any]
  cases h : valD m k with
  | none => rw [if_neg (by simp)]; exact valD_snoc m k j d h
  | some x =>
    rw [if_pos (by simp), valD_map]
    by_cases e : j = k
    · rw [if_pos e, e, h, Option.map_some, if_pos rfl]
    · rw [if_neg e]
      cases valD m j with
      | none => rfl
      | some y => rw [Option.map_some, if_neg e]
theorem len_putD (m : List (κ × D)) (k : κ) (d : D) : (putD m k d).length ≤ m.length + 1 := by
  unfold putD
  split
  · rw [List.length_map]; omega
  · rw [List.length_append]; exact Nat.le_refl _
variable {g : Gb} {F : Hp}
/-- the pairs of a dict, in data -/
def KM2 (g : Gb) (F : Hp) (kvs : List (κ × V)) (m : List (κ × D)) : Prop := kvs.map (·.1) = m.map (·.1) ∧ DpL g F (kvs.map (·.2)) (m.map (·.2))
theorem km_val : ∀ {kvs : List (κ × V)} {m : List (κ × D)} {k : κ}, KM2 g F kvs m → (valV kvs k = none ∧ valD m k = none) ∨ ∃ v d, valV kvs k = some v ∧ valD m k = some d ∧ Dp g F v d
  | [], [], k, _ => .inl ⟨rfl, rfl⟩
  | [], _ :: _, k, h => by simp [KM2] at h
  | _ :: _, [], k, h => by simp [KM2] at h
  | p :: r, q :: t, k, ⟨h1, h2⟩ => by
    simp only [List.map_cons, List.cons.injEq] at h1
    simp only [List.map_cons] at h2
    cases h2 with
    | cons h2 h3 =>
      rw [valD_cons]
      by_cases e : q.1 = k
      · rw [if_pos e, valV_pos (h1.1.trans e)]
        exact .inr ⟨_, _, rfl, rfl, h2⟩
      · rw [if_neg e, valV_neg (fun z => e (h1.1.symm.trans z))]
        exact km_val ⟨h1.2, h3⟩
theorem km_some {kvs : List (κ × V)} {m : List (κ × D)} {k : κ} {d : D} (h : KM2 g F kvs m) (e : valD m k = some d) : ∃ v, valV kvs k = some v ∧ Dp g F v d := by
  rcases km_val (k := k) h with ⟨_, z⟩ | ⟨v, d', h1, h2, h3⟩
  · rw [e] at z; cases z
  · rw [e] at h2; cases h2; exact ⟨v, h1, h3⟩
theorem km_is {kvs : List (κ × V)} {m : List (κ × D)} {k : κ} (h : KM2 g F kvs m) : (valV kvs k).isSome = (valD m k).isSome := by
  rcases km_val (k := k) h with ⟨a, b⟩ | ⟨v, d', h1, h2, h3⟩
  · rw [a, b]; rfl
  · rw [h1, h2]; rfl
theorem km_map : ∀ {kvs : List (κ × V)} {m : List (κ × D)} {k : κ} {v : V} {d : D}, KM2 g F kvs m → Dp g F v d → KM2 g F (kvs.map fun p => if p.1 = k then (p.1, v) else p) (m.map fun p => if p.1 = k then (p.1, d) else p)
  | [], [], _, _, _, h, _ => h
  | [], _ :: _, _, _, _, h, _ => by simp [KM2] at h
  | _ :: _, [], _, _, _, h, _ => by simp [KM2] at h
  | p :: r, q :: t, k, v, d, ⟨h1, h2⟩, hd => by
    simp only [List.map_cons, List.cons.injEq] at h1
    simp only [List.map_cons] at h2
    cases h2 with
    | cons h2 h3 =>
      obtain ⟨a, b⟩ := km_map (k := k) ⟨h1.2, h3⟩ hd
      unfold KM2
      simp only [List.map_cons]
      by_cases e : q.1 = k
      · rw [if_pos e, if_pos (h1.1.trans e)]
        exact ⟨by rw [a, h1.1], .cons hd b⟩
      · rw [if_neg e, if_neg (fun z => e (h1.1.symm.trans z))]
        exact ⟨by rw [a, h1.1], .cons h2 b⟩
theorem km_put {kvs : List (κ × V)} {m : List (κ × D)} {k : κ} {v : V} {d : D} (h : KM2 g F kvs m) (hd : Dp g F v d) : KM2 g F (putK kvs k v) (putD m k d) := by
  unfold putK putD
  rw [L2.valV_any, valD_any, km_is h]
  split
  · exact km_map h hd
  · refine ⟨?_, ?_⟩
    · rw [List.map_append, List.map_append, h.1]; rfl
    · rw [List.map_append, List.map_append]; exact h.2.append (.cons hd .nil)
theorem km_drop : ∀ {kvs : List (κ × V)} {m : List (κ × D)} {k : κ}, KM2 g F kvs m → KM2 g F (dropK kvs k) (dropD m k)
  | [], [], _, h => h
  | [], _ :: _, _, h => by simp [KM2] at h
  | _ :: _, [], _, h => by simp [KM2] at h
  | p :: r, q :: t, k, ⟨h1, h2⟩ => by
    simp only [List.map_cons, List.cons.injEq] at h1
    simp only [List.map_cons] at h2
    cases h2 with
    | cons h2 h3 =>
      have ih := km_drop (k := k) (kvs := r) (m := t) ⟨h1.2, h3⟩
      unfold dropK dropD at ih ⊢
      by_cases e : q.1 = k
      · rw [List.filter_cons_of_neg (by simp [h1.1, e]), List.filter_cons_of_neg (by simp [e])]
        exact ih
      · rw [List.filter_cons_of_pos (by simp [h1.1, e]), List.filter_cons_of_pos (by simp [e])]
        exact ⟨by simp only [List.map_cons]; rw [h1.1, ih.1], by simp only [List.map_cons]; exact .cons h2 ih.2⟩
theorem km_len {kvs : List (κ × V)} {m : List (κ × D)} (h : KM2 g F kvs m) : kvs.length = m.length := by
  have := congrArg List.length h.1
  rwa [List.length_map, List.length_map] at this
end
section
variable {g : Gb} {c : Cn g} {σ : L2.St} {H F F' H' : Hp} {δ : List Sl} {v : V} {r x y : R} {ds es : List D} {d e : D} {o o2 : OD} {i j k : Nat} {Q : R → List Sl → Prop} {QB : Bool → List Sl → Prop} {P : PD} {te ta tb td ty tv : TE} {a : Addr}
/-! a new one -/
theorem d_dnewK {t : TE} (ht : ∀ σ H Q, (∀ p, H p = none → Q (.ref p) (upd H p (.dK []))) → t σ H Q) (q : ∀ p, Q (.nw (.dk p [])) δ) : DE c t δ Q := fun σ H F QV R k => ht σ H QV fun p hp => by
  obtain ⟨R2, h1, h2, h3⟩ := R.newO (o := .dK []) hp
  refine k _ _ _ _ _ (q p) R2 (Same.refl F) ⟨.dk upd_same rfl .nil, ?_, fun a m => ?_⟩
  · simp only [OD.adrs, List.singleton_append, List.nodup_cons]; exact ⟨h3, R.nd⟩
  · simp only [OD.adrs, List.mem_singleton] at m; subst m; exact ⟨h1, h2⟩
theorem d_dnewN {t : TE} (ht : ∀ σ H Q, (∀ p, H p = none → Q (.ref p) (upd H p (.dK []))) → t σ H Q) (q : ∀ p, Q (.nw (.dn p [])) δ) : DE c t δ Q := fun σ H F QV R k => ht σ H QV fun p hp => by
  obtain ⟨R2, h1, h2, h3⟩ := R.newO (o := .dK []) hp
  refine k _ _ _ _ _ (q p) R2 (Same.refl F) ⟨.dn (kvs := []) (.inr ⟨rfl, upd_same⟩) rfl .nil, ?_, fun a m => ?_⟩
  · simp only [OD.adrs, List.singleton_append, List.nodup_cons]; exact ⟨h3, R.nd⟩
  · simp only [OD.adrs, List.mem_singleton] at m; subst m; exact ⟨h1, h2⟩
theorem d_dnewT {t : TE} (ht : ∀ σ H Q, (∀ p, H p = none → Q (.ref p) (upd H p (.dT []))) → t σ H Q) (q : ∀ p, Q (.nw (.dt p [])) δ) : DE c t δ Q := fun σ H F QV R k => ht σ H QV fun p hp => by
  obtain ⟨R2, h1, h2, h3⟩ := R.newO (o := .dT []) hp
  refine k _ _ _ _ _ (q p) R2 (Same.refl F) ⟨.dt upd_same rfl .nil, ?_, fun a m => ?_⟩
  · simp only [OD.adrs, List.singleton_append, List.nodup_cons]; exact ⟨h3, R.nd⟩
  · simp only [OD.adrs, List.mem_singleton] at m; subst m; exact ⟨h1, h2⟩
/-! what a dict holds, read -/
def R.dkm (δ : List Sl) : R → Option (List (Key × D))
  | .fz (.dk m) => some m
  | .bw i => match δ[i]? with
    | some (.ow (.dk _ m)) => some m
    | _ => none
  | _ => none
def R.dtm (δ : List Sl) : R → Option (List (List Key × D))
  | .fz (.dt m) => some m
  | .bw i => match δ[i]? with
    | some (.ow (.dt _ m)) => some m
    | _ => none
  | _ => none
def R.dnm (δ : List Sl) : R → Option (List (Option Key × D))
  | .fz (.dn m) => some m
  | .bw i => match δ[i]? with
    | some (.ow (.dn _ m)) => some m
    | _ => none
  | _ => none
theorem dkm_ok {m : List (Key × D)} (R0 : Rel c σ H F δ) (k : RRep c σ H F δ v r) (e : r.dkm δ = some m) : ∃ a kvs, v = .ref a ∧ H a = some (.dK kvs) ∧ KM2 g F kvs m := by
  cases r with
  | fz d =>
    cases d <;> simp only [R.dkm, reduceCtorEq, Option.some.injEq] at e
    subst e
    cases k with
    | dk h1 h2 h3 => exact ⟨_, _, rfl, R0.sub _ _ h1, h2, h3⟩
  | bw i =>
    have k : σ[i]? = some (some v) := k
    simp only [R.dkm] at e
    split at e
    · rename_i a l ho
      cases e
      obtain ⟨v', h1, h2⟩ := R0.ow i _ ho
      rw [k] at h1
      cases h1
      cases h2 with
      | dk h3 h4 h5 => exact ⟨_, _, rfl, h3, h4, h5⟩
    · cases e
  | nw o => simp [R.dkm] at e
  | rf a => simp [R.dkm] at e
theorem dtm_ok {m : List (List Key × D)} (R0 : Rel c σ H F δ) (k : RRep c σ H F δ v r) (e : r.dtm δ = some m) : ∃ a kvs, v = .ref a ∧ H a = some (.dT kvs) ∧ KM2 g F kvs m := by
  cases r with
  | fz d =>
    cases d <;> simp only [R.dtm, reduceCtorEq, Option.some.injEq] at e
    subst e
    cases k with
    | dt h1 h2 h3 => exact ⟨_, _, rfl, R0.sub _ _ h1, h2, h3⟩
  | bw i =>
    have k : σ[i]? = some (some v) := k
    simp only [R.dtm] at e
    split at e
    · rename_i a l ho
      cases e
      obtain ⟨v', h1, h2⟩ := R0.ow i _ ho
      rw [k] at h1
      cases h1
      cases h2 with
      | dt h3 h4 h5 => exact ⟨_, _, rfl, h3, h4, h5⟩
    · cases e
  | nw o => simp [R.dtm] at e
  | rf a => simp [R.dtm] at e
theorem dnm_ok {m : List (Option Key × D)} (R0 : Rel c σ H F δ) (k : RRep c σ H F δ v r) (e : r.dnm δ = some m) : ∃ a kvs, v = .ref a ∧ HasN g.P g.w H a kvs ∧ KM2 g F kvs m := by
  cases r with
  | fz d =>
    cases d <;> simp only [R.dnm, reduceCtorEq, Option.some.injEq] at e
    subst e
    cases k with
    | dn h1 h2 h3 => exact ⟨_, _, rfl, h1.imp (fun q => R0.sub _ _ q) (fun q => ⟨q.1, R0.sub _ _ q.2⟩), h2, h3⟩
  | bw i =>
    have k : σ[i]? = some (some v) := k
    simp only [R.dnm] at e
    split at e
    · rename_i a l ho
      cases e
      obtain ⟨v', h1, h2⟩ := R0.ow i _ ho
      rw [k] at h1
      cases h1
      cases h2 with
      | dn h3 h4 h5 => exact ⟨_, _, rfl, h3, h4, h5⟩
    · cases e
  | nw o => simp [R.dnm] at e
  | rf a => simp [R.dnm] at e
/-! keys -/
theorem kD_v {F : Hp} {v : V} {k : Key} (h : Dp g F v (kD k)) : v = kV k := by
  cases k with
  | inl i => cases h; rfl
  | inr x => cases h; rfl
theorem kO_v {F : Hp} {v : V} {k : Option Key} (h : Dp g F v (kO k)) : v = kN k := by
  cases k with
  | none => cases h; rfl
  | some k => exact kD_v h
theorem kT_v {F : Hp} : ∀ {vs : List V} {ks : List Key}, DpL g F vs (ks.map kD) → vs = ks.map kV
  | [], [], _ => rfl
  | [], _ :: _, h => by cases h
  | _ :: _, [], h => by cases h
  | v :: vs, k :: ks, h => by
    cases h with
    | cons h t => rw [List.map_cons, kD_v h, kT_v t]
/-- an int or a text -/
def D.key : D → Option Key
  | .int i => some (.inl i)
  | .str s => some (.inr s)
  | _ => none
theorem key_kD {d : D} {k : Key} (h : d.key = some k) : d = kD k := by cases d <;> cases h <;> rfl
/-- .. or None -/
def D.keyN : D → Option (Option Key)
  | .non => some none
  | .int i => some (some (.inl i))
  | .str s => some (some (.inr s))
  | _ => none
theorem key_kO {d : D} {k : Option Key} (h : d.keyN = some k) : d = kO k := by cases d <;> cases h <;> rfl
def keysL : List D → Option (List Key)
  | [] => some []
  | d :: r => match d.key, keysL r with
    | some k, some ks => some (k :: ks)
    | _, _ => none
/-- a tuple of them -/
def D.keyT : D → Option (List Key)
  | .tup l => keysL l
  | _ => none
theorem keysL_kD : ∀ {l : List D} {ks : List Key}, keysL l = some ks → l = ks.map kD
  | [], ks, h => by cases h; rfl
  | d :: r, ks, h => by
    simp only [keysL] at h
    split at h
    · rename_i k q h1 h2
      cases h
      rw [List.map_cons, ← key_kD h1, ← keysL_kD h2]
    · cases h
theorem key_kT {d : D} {ks : List Key} (h : d.keyT = some ks) : d = .tup (ks.map kD) := by
  cases d <;> simp only [D.keyT, reduceCtorEq] at h
  rw [keysL_kD h]
/-- a tuple's own tuple (not of the written part) -/
theorem tup_key {v : V} {ks : List Key} (R0 : Rel c σ H F δ) (h : Dp g F v (.tup (ks.map kD))) (n : ∀ a, v = .ref a → g.K.lookup a = none) (nf : ∀ a o u, v = .ref a → F a ≠ some (.frz o u)) : ∃ b, v = .ref b ∧ H b = some (.tup (ks.map kV)) := by
  cases h with
  | tup h1 h2 =>
    have e := kT_v h2
    subst e
    rcases h1 with (h1 | ⟨o, h1⟩) | ⟨o, _, _, h1, _⟩
    · exact ⟨_, rfl, R0.sub _ _ h1⟩
    · exact absurd h1 (nf _ _ _ rfl)
    · rw [n _ rfl] at h1; cases h1
/-! dicts with None -/
theorem d_nget {P0 : Program} {w0 : World} (hP : P0 = g.P) (hw : w0 = g.w) (q : DE c td δ fun x δ1 => DE c ty δ1 fun y δ2 => ∃ m z k d, x.frz.dnm δ2 = some m ∧ y.frz = .fz z ∧ z.keyN = some k ∧ valD m k = some d ∧ Q (.fz d) δ2) : DE c (tNGet P0 w0 td ty) δ Q := fun σ H F QV R kk => by
  subst hP; subst hw
  refine de_frz (QV := fun x H1 => ty σ H1 fun y H2 => ∃ a kvs k v, x = .ref a ∧ HasN g.P g.w H2 a kvs ∧ y = kN k ∧ valV kvs k = some v ∧ QV v H2) q R fun v H1 F1 x δ1 q1 R1 s1 rep1 => ?_
  refine de_frz (QV := fun y H2 => ∃ a kvs k w, v = .ref a ∧ HasN g.P g.w H2 a kvs ∧ y = kN k ∧ valV kvs k = some w ∧ QV w H2) q1 R1 fun w H2 F2 y δ2 ⟨m, z, k, d, hx, hy, hk, hv, q2⟩ R2 s2 rep2 => ?_
  obtain ⟨a, kvs, rfl, h1, h2⟩ := dnm_ok R2 (rep_keep rep1 (frz_frz _) s2) hx
  rw [hy, key_kO hk] at rep2
  obtain ⟨u, h3, h4⟩ := km_some h2 hv
  exact ⟨a, kvs, k, u, rfl, h1, kO_v rep2, h3, kk u H2 F2 _ δ2 q2 R2 (s1.trans s2) h4⟩
theorem d_nin {P0 : Program} {w0 : World} (hP : P0 = g.P) (hw : w0 = g.w) (q : DE c ty δ fun y δ1 => DE c td δ1 fun x δ2 => ∃ m z k, x.frz.dnm δ2 = some m ∧ y.frz = .fz z ∧ z.keyN = some k ∧ Q (.fz (.bl (valD m k).isSome)) δ2) : DE c (tNIn P0 w0 ty td) δ Q := fun σ H F QV R kk => by
  subst hP; subst hw
  refine de_frz (QV := fun y H1 => td σ H1 fun x H2 => ∃ a kvs k, x = .ref a ∧ HasN g.P g.w H2 a kvs ∧ y = kN k ∧ QV (.bl (valV kvs k).isSome) H2) q R fun w H1 F1 y δ1 q1 R1 s1 rep1 => ?_
  refine de_frz (QV := fun x H2 => ∃ a kvs k, x = .ref a ∧ HasN g.P g.w H2 a kvs ∧ w = kN k ∧ QV (.bl (valV kvs k).isSome) H2) q1 R1 fun v H2 F2 x δ2 ⟨m, z, k, hx, hy, hk, q2⟩ R2 s2 rep2 => ?_
  obtain ⟨a, kvs, rfl, h1, h2⟩ := dnm_ok R2 rep2 hx
  rw [hy, key_kO hk] at rep1
  exact ⟨a, kvs, k, rfl, h1, kO_v rep1, by rw [km_is h2]; exact kk _ H2 F2 _ δ2 q2 R2 (s1.trans s2) (.bl _)⟩
theorem d_nget2 {P0 : Program} {w0 : World} (hP : P0 = g.P) (hw : w0 = g.w) (q : DE c td δ fun x δ1 => (∃ m, x.frz.dnm δ1 = some m) ∧ DE c ty δ1 fun y δ2 => DE c tv δ2 fun z δ3 => ∃ m kd k d, x.frz.dnm δ3 = some m ∧ y.frz = .fz kd ∧ kd.keyN = some k ∧ z.frz = .fz d ∧ Q (.fz ((valD m k).getD d)) δ3) : DE c (tNGet2 P0 w0 td ty tv) δ Q := fun σ H F QV R kk => by
  subst hP; subst hw
  refine de_frz (QV := fun x H1 => ∃ a, x = .ref a ∧ (∃ kvs, HasN g.P g.w H1 a kvs) ∧ ty σ H1 fun y H2 => tv σ H2 fun z H3 => ∃ kvs k, HasN g.P g.w H3 a kvs ∧ y = kN k ∧ QV ((valV kvs k).getD z) H3) q R fun v H1 F1 x δ1 ⟨⟨m0, hx0⟩, q1⟩ R1 s1 rep1 => ?_
  obtain ⟨a, kvs0, rfl, h10, _⟩ := dnm_ok R1 rep1 hx0
  refine ⟨a, rfl, ⟨_, h10⟩, ?_⟩
  refine de_frz (QV := fun y H2 => tv σ H2 fun z H3 => ∃ kvs k, HasN g.P g.w H3 a kvs ∧ y = kN k ∧ QV ((valV kvs k).getD z) H3) q1 R1 fun w H2 F2 y δ2 q2 R2 s2 rep2 => ?_
  refine de_frz (QV := fun z H3 => ∃ kvs k, HasN g.P g.w H3 a kvs ∧ w = kN k ∧ QV ((valV kvs k).getD z) H3) q2 R2 fun u H3 F3 z δ3 ⟨m, kd, k, d, hx, hy, hk, hz, q3⟩ R3 s3 rep3 => ?_
  obtain ⟨a', kvs, ea, h1, h2⟩ := dnm_ok R3 (rep_keep rep1 (frz_frz _) (s2.trans s3)) hx
  cases ea
  have rep2' := rep_keep (δ' := δ3) (H' := H3) rep2 (frz_frz _) s3
  rw [hy, key_kO hk] at rep2'
  rw [hz] at rep3
  refine ⟨kvs, k, h1, kO_v rep2', ?_⟩
  rcases km_val (k := k) h2 with ⟨z1, z2⟩ | ⟨v', d', z1, z2, z3⟩
  · rw [z1]
    rw [z2] at q3
    exact kk u H3 F3 _ δ3 q3 R3 ((s1.trans s2).trans s3) rep3
  · rw [z1]
    rw [z2] at q3
    exact kk v' H3 F3 _ δ3 q3 R3 ((s1.trans s2).trans s3) z3
theorem dn_chg {m : List (Option Key × D)} {kvs : List (Option Key × V)} (R : Rel c σ H F δ) (hi : δ[i]? = some (.ow (.dn a m))) {m2 : List (Option Key × D)} (h : KM2 g F kvs m2) : Rel c σ (upd H a (DNo g.P g.w a kvs)) F (δ.set i (.ow (.dn a m2))) := by
  refine R.chg1 hi (by simp [OD.adrs]) rfl fun v hv => ?_
  cases hv with
  | dn _ _ _ => exact .dn (.inl upd_same) h.1 h.2
theorem d_nput {P0 : Program} {w0 : World} (hP : P0 = g.P) (hw : w0 = g.w) (q : DE c tv δ fun v δ1 => DE c td δ1 fun x δ2 => DE c ty δ2 fun y δ3 => ∃ i a m z k d, v.frz = .fz d ∧ x = .bw i ∧ δ3[i]? = some (Sl.ow (.dn a m)) ∧ y.frz = .fz z ∧ z.keyN = some k ∧ m.length < sizeLine ∧ P.nx (δ3.set i (.ow (.dn a (putD m k d))))) : DS c (sNPut P0 w0 td ty tv) δ P := fun σ H F E R kk => by
  subst hP; subst hw
  refine de_frz (QV := fun v H1 => td σ H1 fun x H2 => ty σ H2 fun y H3 => ∃ a kvs k, x = .ref a ∧ HasN g.P g.w H3 a kvs ∧ y = kN k ∧ kvs.length < sizeLine ∧ E.nx σ (L2.upd H3 a (DNo g.P g.w a (putK kvs k v)))) q R fun v H1 F1 dv δ1 q1 R1 s1 rep1 => ?_
  refine q1 σ H1 F1 _ R1 fun x' H2 F2 x δ2 q2 R2 s2 rep2 => ?_
  refine de_frz (QV := fun y H3 => ∃ a kvs k, x' = .ref a ∧ HasN g.P g.w H3 a kvs ∧ y = kN k ∧ kvs.length < sizeLine ∧ E.nx σ (L2.upd H3 a (DNo g.P g.w a (putK kvs k v)))) q2 R2 fun w H3 F3 y δ3 ⟨i, a, m, z, k, d, hv, hx, hi, hy, hk, hl, q3⟩ R3 s3 rep3 => ?_
  subst hx
  rw [hy, key_kO hk] at rep3
  rw [hv] at rep1
  obtain ⟨a', kvs, ea, h1, h2⟩ := dnm_ok (r := .bw i) (m := m) R3 rep2 (by simp only [KD.R.dnm, hi])
  have ea2 : a' = a := by
    obtain ⟨v', h3, h4⟩ := R3.ow i _ hi
    have rep2 : σ[i]? = some (some x') := rep2
    rw [rep2] at h3
    cases h3
    rw [ea] at h4
    cases h4; rfl
  subst ea2
  exact ⟨a', kvs, k, ea, h1, kO_v rep3, by rw [km_len h2]; exact hl, kk.nx σ _ F3 _ q3 (dn_chg R3 hi (km_put h2 (Dp.mono (s2.trans s3) rep1))) ((s1.trans s2).trans s3)⟩
/-! dicts by ints and texts -/
theorem d_kget (q : DE c td δ fun x δ1 => DE c ty δ1 fun y δ2 => ∃ m z k d, x.frz.dkm δ2 = some m ∧ y.frz = .fz z ∧ z.key = some k ∧ valD m k = some d ∧ Q (.fz d) δ2) : DE c (tDGet td ty) δ Q := fun σ H F QV R kk => by
  refine de_frz (QV := fun x H1 => ty σ H1 fun y H2 => ∃ a v, x = .ref a ∧ DGet H2 a y (some v) ∧ QV v H2) q R fun v H1 F1 x δ1 q1 R1 s1 rep1 => ?_
  refine de_frz (QV := fun y H2 => ∃ a w, v = .ref a ∧ DGet H2 a y (some w) ∧ QV w H2) q1 R1 fun w H2 F2 y δ2 ⟨m, z, k, d, hx, hy, hk, hv, q2⟩ R2 s2 rep2 => ?_
  obtain ⟨a, kvs, rfl, h1, h2⟩ := dkm_ok R2 (rep_keep rep1 (frz_frz _) s2) hx
  rw [hy, key_kD hk] at rep2
  obtain ⟨u, h3, h4⟩ := km_some h2 hv
  have ew := kD_v rep2
  subst ew
  exact ⟨a, u, rfl, by rw [← h3]; exact DGet.k h1, kk u H2 F2 _ δ2 q2 R2 (s1.trans s2) h4⟩
theorem d_kin (q : DE c ty δ fun y δ1 => DE c td δ1 fun x δ2 => ∃ m z k, x.frz.dkm δ2 = some m ∧ y.frz = .fz z ∧ z.key = some k ∧ Q (.fz (.bl (valD m k).isSome)) δ2) : DE c (tDIn ty td) δ Q := fun σ H F QV R kk => by
  refine de_frz (QV := fun y H1 => td σ H1 fun x H2 => ∃ a o, x = .ref a ∧ DGet H2 a y o ∧ QV (.bl o.isSome) H2) q R fun w H1 F1 y δ1 q1 R1 s1 rep1 => ?_
  refine de_frz (QV := fun x H2 => ∃ a o, x = .ref a ∧ DGet H2 a w o ∧ QV (.bl o.isSome) H2) q1 R1 fun v H2 F2 x δ2 ⟨m, z, k, hx, hy, hk, q2⟩ R2 s2 rep2 => ?_
  obtain ⟨a, kvs, rfl, h1, h2⟩ := dkm_ok R2 rep2 hx
  rw [hy, key_kD hk] at rep1
  have ew := kD_v rep1
  subst ew
  exact ⟨a, _, rfl, DGet.k h1, by rw [km_is h2]; exact kk _ H2 F2 _ δ2 q2 R2 (s1.trans s2) (.bl _)⟩
theorem d_knotin (q : DE c ty δ fun y δ1 => DE c td δ1 fun x δ2 => ∃ m z k, x.frz.dkm δ2 = some m ∧ y.frz = .fz z ∧ z.key = some k ∧ Q (.fz (.bl (!(valD m k).isSome))) δ2) : DE c (tDNotIn ty td) δ Q := fun σ H F QV R kk => by
  refine de_frz (QV := fun y H1 => td σ H1 fun x H2 => ∃ a o, x = .ref a ∧ DGet H2 a y o ∧ QV (.bl (!o.isSome)) H2) q R fun w H1 F1 y δ1 q1 R1 s1 rep1 => ?_
  refine de_frz (QV := fun x H2 => ∃ a o, x = .ref a ∧ DGet H2 a w o ∧ QV (.bl (!o.isSome)) H2) q1 R1 fun v H2 F2 x δ2 ⟨m, z, k, hx, hy, hk, q2⟩ R2 s2 rep2 => ?_
  obtain ⟨a, kvs, rfl, h1, h2⟩ := dkm_ok R2 rep2 hx
  rw [hy, key_kD hk] at rep1
  have ew := kD_v rep1
  subst ew
  exact ⟨a, _, rfl, DGet.k h1, by rw [km_is h2]; exact kk _ H2 F2 _ δ2 q2 R2 (s1.trans s2) (.bl _)⟩
theorem d_kget2 (q : DE c td δ fun x δ1 => (∃ m, x.frz.dkm δ1 = some m) ∧ DE c ty δ1 fun y δ2 => DE c tv δ2 fun z δ3 => ∃ m kd k d, x.frz.dkm δ3 = some m ∧ y.frz = .fz kd ∧ kd.key = some k ∧ z.frz = .fz d ∧ Q (.fz ((valD m k).getD d)) δ3) : DE c (tDGet2 td ty tv) δ Q := fun σ H F QV R kk => by
  refine de_frz (QV := fun x H1 => ∃ a, x = .ref a ∧ IsD H1 a ∧ ty σ H1 fun y H2 => tv σ H2 fun z H3 => ∃ o, DGet H3 a y o ∧ QV (o.getD z) H3) q R fun v H1 F1 x δ1 ⟨⟨m0, hx0⟩, q1⟩ R1 s1 rep1 => ?_
  obtain ⟨a, kvs0, rfl, h10, _⟩ := dkm_ok R1 rep1 hx0
  refine ⟨a, rfl, .inl ⟨_, .inl h10⟩, ?_⟩
  refine de_frz (QV := fun y H2 => tv σ H2 fun z H3 => ∃ o, DGet H3 a y o ∧ QV (o.getD z) H3) q1 R1 fun w H2 F2 y δ2 q2 R2 s2 rep2 => ?_
  refine de_frz (QV := fun z H3 => ∃ o, DGet H3 a w o ∧ QV (o.getD z) H3) q2 R2 fun u H3 F3 z δ3 ⟨m, kd, k, d, hx, hy, hk, hz, q3⟩ R3 s3 rep3 => ?_
  obtain ⟨a', kvs, ea, h1, h2⟩ := dkm_ok R3 (rep_keep rep1 (frz_frz _) (s2.trans s3)) hx
  cases ea
  have rep2' := rep_keep (δ' := δ3) (H' := H3) rep2 (frz_frz _) s3
  rw [hy, key_kD hk] at rep2'
  rw [hz] at rep3
  have ew := kD_v rep2'
  subst ew
  refine ⟨_, DGet.k h1, ?_⟩
  rcases km_val (k := k) h2 with ⟨z1, z2⟩ | ⟨v', d', z1, z2, z3⟩
  · rw [z1]
    rw [z2] at q3
    exact kk u H3 F3 _ δ3 q3 R3 ((s1.trans s2).trans s3) rep3
  · rw [z1]
    rw [z2] at q3
    exact kk v' H3 F3 _ δ3 q3 R3 ((s1.trans s2).trans s3) z3
theorem dk_chg {m : List (Key × D)} {kvs : List (Key × V)} (R : Rel c σ H F δ) (hi : δ[i]? = some (.ow (.dk a m))) {m2 : List (Key × D)} (h : KM2 g F kvs m2) : Rel c σ (upd H a (.dK kvs)) F (δ.set i (.ow (.dk a m2))) := by
  refine R.chg1 hi (by simp [OD.adrs]) rfl fun v hv => ?_
  cases hv with
  | dk _ _ _ => exact .dk upd_same h.1 h.2
theorem dk_at {m : List (Key × D)} (R : Rel c σ H F δ) (hi : δ[i]? = some (.ow (.dk a m))) (hv : σ[i]? = some (some v)) : ∃ kvs, v = .ref a ∧ H a = some (.dK kvs) ∧ KM2 g F kvs m := by
  obtain ⟨w, h1, h2⟩ := R.ow i _ hi
  rw [hv] at h1
  cases h1
  cases h2 with
  | dk h3 h4 h5 => exact ⟨_, rfl, h3, h4, h5⟩
theorem d_kput (q : DE c tv δ fun v δ1 => DE c td δ1 fun x δ2 => DE c ty δ2 fun y δ3 => ∃ i a m z k d, v.frz = .fz d ∧ x = .bw i ∧ δ3[i]? = some (Sl.ow (.dk a m)) ∧ y.frz = .fz z ∧ z.key = some k ∧ m.length < sizeLine ∧ P.nx (δ3.set i (.ow (.dk a (putD m k d))))) : DS c (sDPut td ty tv) δ P := fun σ H F E R kk => by
  refine de_frz (QV := fun v H1 => td σ H1 fun x H2 => ty σ H2 fun y H3 => ∃ a H4, x = .ref a ∧ DPut H3 a y v H4 ∧ E.nx σ H4) q R fun v H1 F1 dv δ1 q1 R1 s1 rep1 => ?_
  refine q1 σ H1 F1 _ R1 fun x' H2 F2 x δ2 q2 R2 s2 rep2 => ?_
  refine de_frz (QV := fun y H3 => ∃ a H4, x' = .ref a ∧ DPut H3 a y v H4 ∧ E.nx σ H4) q2 R2 fun w H3 F3 y δ3 ⟨i, a, m, z, k, d, hv, hx, hi, hy, hk, hl, q3⟩ R3 s3 rep3 => ?_
  subst hx
  rw [hy, key_kD hk] at rep3
  rw [hv] at rep1
  obtain ⟨kvs, rfl, h1, h2⟩ := dk_at R3 hi rep2
  have ew := kD_v rep3
  subst ew
  exact ⟨a, _, rfl, DPut.k h1 (by rw [km_len h2]; exact hl), kk.nx σ _ F3 _ q3 (dk_chg R3 hi (km_put h2 (Dp.mono (s2.trans s3) rep1))) ((s1.trans s2).trans s3)⟩
/-! max(ints, default=d) -/
def maxI (d : Int) : List Int → Int
  | [] => d
  | n :: r => r.foldl max n
theorem foldl_max (r : List Int) : ∀ n : Int, (r.foldl max n ∈ n :: r) ∧ ∀ y ∈ n :: r, y ≤ r.foldl max n := by
  induction r with
  | nil => intro n; simp
  | cons m r ih =>
    intro n
    obtain ⟨h1, h2⟩ := ih (max n m)
    simp only [List.foldl_cons]
    constructor
    · rcases List.mem_cons.mp h1 with e | e
      · rcases Int.le_total n m with z | z
        · rw [e, show max n m = m by omega]; simp
        · rw [e, show max n m = n by omega]; simp
      · simp [e]
    · intro y hy
      have hb := h2 (max n m) (by simp)
      simp only [List.mem_cons] at hy
      rcases hy with e | e | e
      · omega
      · omega
      · exact h2 y (by simp [e])
theorem maxI_is {d m : Int} {ns : List Int} (n : ns ≠ []) (h1 : m ∈ ns) (h2 : ∀ y ∈ ns, y ≤ m) : m = maxI d ns := by
  cases ns with
  | nil => exact absurd rfl n
  | cons k r =>
    obtain ⟨a, b⟩ := foldl_max r k
    have := b m h1
    have := h2 _ a
    show m = r.foldl max k
    omega
theorem d_CKw {f : List V → List V → Hp → VK → Prop} {t tk : TA} (q : DA c t δ fun rs δ1 => DA c tk δ1 fun ws δ2 => ∀ σ H F vs us QV, Rel c σ H F δ2 → RepL c σ H F δ2 vs rs → RepL c σ H F δ2 us ws → PstE c σ F Q QV → f vs us H QV) : DE c (tCKw f t tk) δ Q := fun σ H F QV R k =>
  q σ H F _ R fun vs H1 F1 rs δ1 q1 R1 s1 rep1 => q1 σ H1 F1 _ R1 fun us H2 F2 ws δ2 q2 R2 s2 rep2 => by
    have rep1' : RepL c σ H2 F2 δ2 vs rs := by
      clear q1 q2
      induction rep1 with
      | nil => exact .nil
      | cons h1 h2 _ ih => exact .cons h1 (rep_keep h2 h1 s2) ih
    exact q2 σ H2 F2 vs us QV R2 rep1' rep2 fun v' H' F' r δ' q' R' s' => k v' H' F' r δ' q' R' ((s1.trans s2).trans s')
theorem d_maxDef {K : PySem.W.Frag} {n : Int} {ns : List Int} (hK : K = g.K) (hx : x.lsR δ = some ds) (hn : ds = ns.map D.int) (hy : y = .fz (.int n)) (q : Q (.fz (.int (maxI n ns))) δ) :
    ∀ σ H F vs us QV, Rel c σ H F δ → RepL c σ H F δ vs [x] → RepL c σ H F δ us [y] → PstE c σ F Q QV → rMaxDef K vs us H QV := fun σ H F vs us QV R k1 k2 k => by
  subst hK; subst hy; subst hn
  obtain ⟨v, rfl, h⟩ := one_rep k1
  obtain ⟨u, rfl, h'⟩ := one_rep k2
  cases h'
  obtain ⟨a, ws, rfl, hs, hd⟩ := lsR_ok R h hx
  rw [dp_ints hd] at hs
  have kk := k (.int (maxI n ns)) H F _ δ q R (Same.refl F) (.int _)
  exact ⟨a, ns, n, rfl, rfl, hs, fun e => by subst e; exact kk, fun e m h1 h2 => by rw [maxI_is e h1 h2 (d := n)]; exact kk⟩
end
end KD

set_option maxHeartbeats 4000000
/-! defs that draw out of a feed; defs whose result is told in part -/
namespace KD
open PySem PySem.Spec PyProof.Rows L2 KB
/-- what a feed holds behind at most n stirred draws -/
def FdD (n : Nat) (ds : List D) : Prop := ∃ a b c : Int, ds = [.int a, .int b, .int c] ∧ 0 ≤ a ∧ Builtin.Int.intBits a ≤ 1048576 ∧ 0 ≤ b ∧ b < 10 ^ 40 ∧ 0 ≤ c ∧ c ≤ n
theorem FdD.mono {n m : Nat} {xs : List D} (h : FdD n xs) (l : n ≤ m) : FdD m xs := by
  obtain ⟨a, b, c, e, h1, h2, h3, h4, h5, h6⟩ := h
  exact ⟨a, b, c, e, h1, h2, h3, h4, h5, by omega⟩
/-- f(feed, ..): at most k draws more, a result of which T holds -/
def spFd (S : List D → Nat → (R → Prop) → Prop) : DSp := fun as P => ∃ fd xs n ds k T, as = .mu (.fl fd xs) :: ds.map Ar.fz ∧ FdD n xs ∧ n + k ≤ 1000000 ∧ S ds k T ∧ P = ⟨fun r os => ∃ ys, os = [.fl fd ys] ∧ FdD (n + k) ys ∧ T r, fun _ _ => False⟩
/-- f(..): a result of which T holds -/
def spN (S : List D → (R → Prop) → Prop) : DSp := fun as P => ∃ ds T, as = ds.map Ar.fz ∧ S ds T ∧ P = ⟨fun r os => os = [] ∧ T r, fun _ _ => False⟩
section
variable {g : Gb} {c : Cn g} {σ : L2.St} {H F F' H' : Hp} {δ : List Sl} {v : V} {r x y : R} {ds es : List D} {d e : D} {o o2 : OD} {i j : Nat} {Q : R → List Sl → Prop} {P : PD} {tr : TA} {ta tb tc te : TE}
theorem len_spFd {S : List D → Nat → (R → Prop) → Prop} {n : Nat} (h : ∀ ds k T, S ds k T → ds.length + 1 = n) : ∀ vs H Q E, toSp g (spFd S) vs H Q E → vs.length = n := len_toSp fun as P ⟨fd, xs, m, ds, k, T, e, _, _, s, _⟩ => by rw [e, List.length_cons, List.length_map]; exact h ds k T s
theorem len_spN {S : List D → (R → Prop) → Prop} {n : Nat} (h : ∀ ds T, S ds T → ds.length = n) : ∀ vs H Q E, toSp g (spN S) vs H Q E → vs.length = n := len_toSp fun as P ⟨ds, T, e, s, _⟩ => by rw [e, List.length_map]; exact h ds T s
theorem muI_fz : ∀ {rs : List R} {ds : List D}, fzs rs = some ds → muI rs = []
  | [], _, _ => rfl
  | .fz d :: rs, ds, e => by
    simp only [fzs, Option.map_eq_some_iff] at e
    obtain ⟨q, e1, e2⟩ := e
    exact muI_fz (rs := rs) e1
  | .bw _ :: _, _, e => by simp [fzs] at e
  | .nw _ :: _, _, e => by simp [fzs] at e
  | .rf _ :: _, _, e => by simp [fzs] at e
theorem d_callF {S : List D → Nat → (R → Prop) → Prop} {W : WX} {Ex : Addr → List Sl → Prop} (hx : XOk c W Ex) (q : DA c tr δ fun rs δ1 => ∃ i rs' fd xs n ds k T, rs = .bw i :: rs' ∧ fzs rs' = some ds ∧ δ1[i]? = some (Sl.ow (.fl fd xs)) ∧ FdD n xs ∧ n + k ≤ 1000000 ∧ S ds k T ∧ ∀ r ys, FdD (n + k) ys → T r → Q r (δ1.set i (.ow (.fl fd ys)))) :
    DE c (tCallS (toSp g (spFd S)) (WE W) tr) δ Q := by
  refine d_call1 hx fun σ H F QV R k => q σ H F QV R fun vs H' F' rs δ' ⟨i, rs', fd, xs, n, ds, kk, T, e, e2, hi, hf, hn, s, k1⟩ R' s' rep => ?_
  subst e
  obtain ⟨h1, h2⟩ := args_fz (δ := δ') (rs := rs') e2
  refine k vs H' F' _ δ' ⟨.mu (.fl fd xs) :: ds.map Ar.fz, _, i, ?_, by simp only [muI, muI_fz e2], ⟨fd, xs, n, ds, kk, T, rfl, hf, hn, s, rfl⟩, fun r o ⟨ys, eo, hy, ht⟩ => ?_, fun C o z => z.elim⟩ R' s' rep
  · simp only [argsOf, hi, h1, Option.map_some]
  · cases eo
    exact k1 r ys hy ht
/-- its body -/
theorem d_startF {t : TS} {N : List Str} {Q : VK} {E : XK} {vs : List V} {S : List D → Nat → (R → Prop) → Prop} (h : toSp g (spFd S) vs H Q E)
    (q : ∀ fd xs n ds k T, FdD n xs → n + k ≤ 1000000 → S ds k T → ∀ (c : Cn g), XOk c (WF E) (fun _ _ => False) → c.M = [fd] →
      DS c t (.ow (.fl fd xs) :: ds.map Sl.fz ++ List.replicate (N.length - (ds.length + 1)) .no) { nx := fun δ => ∃ ys, δ.head? = some (.ow (.fl fd ys)) ∧ FdD (n + k) ys ∧ T (.fz .non), rt := fun r δ => r.out = true ∧ ∃ ys, δ.head? = some (.ow (.fl fd ys)) ∧ FdD (n + k) ys ∧ T r }) :
    t { nx := fun _ H' => Q .non H', rt := Q } (L2.start N vs) H := by
  refine d_start h fun as P ⟨fd, xs, n, ds, k, T, e, hf, hn, s, eP⟩ c hx hM => ?_
  subst e; subst eP
  have eM : c.M = [fd] := by rw [hM]; simp only [muA, muO, adrsL]; have := muA_fz ds; unfold muA at this; rw [this]; rfl
  have es : ((Ar.mu (.fl fd xs) :: ds.map Ar.fz).map Ar.sl) = .ow (.fl fd xs) :: ds.map Sl.fz := by rw [List.map_cons, sl_fz]; rfl
  rw [es, List.length_cons, List.length_map]
  have mk : ∀ {δ : List Sl} {ys : List D}, δ.head? = some (.ow (.fl fd ys)) → MuAt (.mu (.fl fd xs) :: ds.map Ar.fz) δ [.fl fd ys] := fun {δ ys} e => ⟨.fl fd ys, fd, [], e, rfl, rfl, rfl, muAt_fz ds δ.tail⟩
  exact (q fd xs n ds k T hf hn s c (fun C σ H F δ R z => z.elim) eM).imp (fun δ ⟨ys, e, hy, ht⟩ => ⟨[.fl fd ys], mk e, ys, rfl, hy, ht⟩) (fun r δ ⟨ho, ys, e, hy, ht⟩ => ⟨ho, [.fl fd ys], mk e, ys, rfl, hy, ht⟩) (fun _ z => z) (fun _ z => z)
theorem d_callN {S : List D → (R → Prop) → Prop} {W : WX} {Ex : Addr → List Sl → Prop} (hx : XOk c W Ex) (q : DA c tr δ fun rs δ1 => ∃ ds T, fzs rs = some ds ∧ S ds T ∧ ∀ r, T r → Q r δ1) : DE c (tCallS (toSp g (spN S)) (WE W) tr) δ Q := by
  refine d_call hx fun σ H F QV R k => q σ H F QV R fun vs H' F' rs δ' ⟨ds, T, e, s, k1⟩ R' s' rep => ?_
  obtain ⟨h1, h2⟩ := args_fz (δ := δ') (rs := rs) e
  exact k vs H' F' rs δ' ⟨_, _, h1, h2, ⟨ds, T, rfl, s, rfl⟩, fun r z => k1 r z.2, fun C z => z.elim⟩ R' s' rep
theorem d_startN {t : TS} {N : List Str} {Q : VK} {E : XK} {vs : List V} {S : List D → (R → Prop) → Prop} (h : toSp g (spN S) vs H Q E)
    (q : ∀ ds T, S ds T → ∀ (c : Cn g), XOk c (WF E) (fun _ _ => False) → c.M = [] →
      DS c t (ds.map Sl.fz ++ List.replicate (N.length - ds.length) .no) { nx := fun _ => T (.fz .non), rt := fun r _ => r.out = true ∧ T r }) :
    t { nx := fun _ H' => Q .non H', rt := Q } (L2.start N vs) H := by
  refine d_start h fun as P ⟨ds, T, e, s, eP⟩ c hx hM => ?_
  subst e; subst eP
  rw [sl_fz, List.length_map]
  exact (q ds T s c (fun C σ H F δ R z => z.elim) (by rw [hM, muA_fz])).imp (fun δ z => ⟨[], muAt_fz ds δ, rfl, z⟩) (fun r δ ⟨ho, z⟩ => ⟨ho, [], muAt_fz ds δ, rfl, z⟩) (fun _ z => z) (fun _ z => z)
/-! from old promises -/
theorem old_args {vs : List V} {ds : List D} (h : Ent g H F vs (ds.map Ar.fz)) : DpL g F vs ds := by
  have key : ∀ {vs : List V} {ds : List D}, ArgR g H F vs (ds.map Ar.fz) → DpL g F vs ds := by
    intro vs ds
    induction ds generalizing vs with
    | nil => intro h; cases h; exact .nil
    | cons d r ih =>
      intro h
      cases h with
      | fz h t => exact .cons h (ih t)
  exact key h.args
theorem muR_old : ∀ {vs : List V} {ds : List D}, ArgR g H F vs (ds.map Ar.fz) → MuR g H' F' vs (ds.map Ar.fz) []
  | _, [], h => by cases h; exact .nil
  | _, d :: r, h => by cases h with | fz h t => exact .fz (muR_old t)
theorem old_aft {vs : List V} {ds : List D} (h : Ent g H F vs (ds.map Ar.fz)) (s : Same H H') (sF : Same F' H') (n : ∀ a, H a ≠ none → F' a = F a) : Aft g H F vs (ds.map Ar.fz) [] H' F' := by
  refine ⟨sF, fun a o e _ => s _ _ e, fun a z => ?_, n, muR_old h.args, List.nodup_nil, fun a m => nomatch m⟩
  cases q : H a with
  | none => exact absurd q z
  | some u => rw [s _ _ q]; exact fun z => nomatch z
/-- a feed alone is changed -/
theorem old_aftF {vs : List V} {ds : List D} {fd : Addr} {xs ys : List D} {ws : List V} (h : Ent g H F (.ref fd :: vs) (.mu (.fl fd xs) :: ds.map Ar.fz)) (hy : DpL g F ws ys) : Aft g H F (.ref fd :: vs) (.mu (.fl fd xs) :: ds.map Ar.fz) [.fl fd ys] (upd H fd (.lst ws)) F := by
  have eM : muA (.mu (.fl fd xs) :: ds.map Ar.fz) = [fd] := by simp only [muA, muO, adrsL]; have := muA_fz ds; unfold muA at this; rw [this]; rfl
  have hF : F fd = none := h.fa fd (by rw [eM]; exact List.mem_singleton.mpr rfl)
  cases h.args with
  | mu ho ht =>
    cases ho with
    | fl h1 h2 =>
      refine ⟨fun a u e => ?_, fun a u e n => ?_, fun a z => ?_, fun _ _ => rfl, .mu (.fl upd_same hy) (muR_old ht), by simp [adrsL, OD.adrs], fun a m => ?_⟩
      · have : a ≠ fd := fun z => by subst z; rw [hF] at e; cases e
        rw [upd_ne this]; exact h.sub a u e
      · rw [eM] at n
        rw [upd_ne (fun z => n (List.mem_singleton.mpr z))]; exact e
      · by_cases e : a = fd
        · subst e; rw [upd_same]; exact fun z => nomatch z
        · rw [upd_ne e]; exact z
      · simp only [adrsL, OD.adrs, List.append_nil, List.mem_singleton] at m
        subst m
        exact ⟨hF, .inr (by rw [eM]; exact List.mem_singleton.mpr rfl)⟩
/-- to an old promise: a def that gives a flat thing for the script -/
theorem to_old {sp : DSp} {vs : List V} {Q : VK} {E : XK} {as : List Ar} {P : DPst} (F : Hp) (ent : Ent g H F vs as) (s : sp as P) (m : muO as = []) (kr : ∀ r os v H' F', P.rt r os → Same H H' → RepN g H os v H' F' r → Q v H') (ke : ∀ C os, ¬ P.ex C os) : toSp g sp vs H Q E :=
  ⟨F, as, P, ent, s, fun r os v H' F' h A rn => kr r os v H' F' h (fun a u e => A.fr a u e (by unfold muA; rw [m]; exact fun z => nomatch z)) rn, fun C os H' F' h _ => absurd h (ke C os)⟩
/-- the script, for a def told by data -/
theorem script_ent {a : Addr} {ns : List Int} (hs : SqL g.K H a (ns.map V.int)) : ∃ F, Ent g H F [.ref a] [.fz (.ro (ns.map D.int))] := by
  have allI : ∀ (F : Hp) (ns : List Int), DpL g F (ns.map V.int) (ns.map D.int) := by
    intro F ns
    induction ns with
    | nil => exact .nil
    | cons n r ih => exact .cons (.int n) ih
  refine ⟨fun b => if b = a then H a else none, fun b u e => ?_, .fz ?_ .nil, List.nodup_nil, fun b m => nomatch m⟩
  · by_cases h : b = a
    · subst h; simpa using e
    · simp [h] at e
  · refine (.ro ?_ (allI _ ns))
    rcases hs with (h | ⟨o, h⟩) | h
    · exact .inl (.inl (by simp [h]))
    · exact .inl (.inr ⟨o, by simp [h]⟩)
    · exact .inr h
end
end KD

set_option maxHeartbeats 4000000
/-! a, b = [], x: new things kept while what stands behind them is asked -/
namespace KD
open PySem PySem.Spec PyProof.Rows L2 KB
section
variable {g : Gb} {c : Cn g} {σ : L2.St} {H F F' H' : Hp} {δ : List Sl} {v : V} {r x y : R} {ds es : List D} {d e : D} {o o2 : OD} {i j l : Nat} {Q : R → List Sl → Prop} {P : PD} {tr : TA} {ta tb tc te : TE}
/-- within: all that is raised is looked for there, too -/
def Up (c c' : Cn g) : Prop := ∀ W Ex, XOk c W Ex → XOk c' W Ex
theorem Up.refl (c : Cn g) : Up c c := fun _ _ h => h
theorem rel_in0 (R : Rel c σ H F δ) : Rel (⟨H, F, F, adS δ⟩ : Cn g) σ H F δ :=
  ⟨R.sub, fun _ _ e _ => e, fun _ z => z, fun _ _ => rfl, R.len, R.fz, R.ow, R.nd, fun a m => ⟨(R.fa a m).1, .inr m⟩, Same.refl F, R.rf⟩
theorem rel_out0 {σ2 : L2.St} {δ' : List Sl} (R : Rel c σ H F δ) (R' : Rel (⟨H, F, F, adS δ⟩ : Cn g) σ2 H' F' δ') : Rel c σ2 H' F' δ' := by
  refine ⟨R'.sub, fun a u e1 e2 => R'.fr a u (R.fr a u e1 e2) fun m => ?_, fun a z => R'.fr2 a (R.fr2 a z), fun a z => (R'.ff a (R.fr2 a z)).trans (R.ff a z), R'.len, R'.fz, R'.ow, R'.nd, fun a m => ?_, R.lb.trans R'.lb, R'.rf⟩
  · rcases (R.fa a m).2 with z | z
    · rw [e1] at z; cases z
    · exact e2 z
  · obtain ⟨h1, h2⟩ := R'.fa a m
    refine ⟨h1, ?_⟩
    rcases h2 with z | z
    · left
      cases q : c.H0 a with
      | none => rfl
      | some u => exact absurd z (R.fr2 a (by rw [q]; exact fun z => nomatch z))
    · exact (R.fa a z).2
theorem up_in (R : Rel c σ H F δ) : Up c (⟨H, F, F, adS δ⟩ : Cn g) := fun W Ex hx C σ' H' F' δ' R' e => hx C σ' H' F' δ' (rel_out0 R R') e
/-- the addresses of new things -/
def adX : List R → List Addr
  | [] => []
  | .nw o :: rs => o.adrs ++ adX rs
  | _ :: rs => adX rs
inductive RepX (c : Cn g) (σ : L2.St) (H F : Hp) (δ : List Sl) : List V → List R → Prop where
  | nil : RepX c σ H F δ [] []
  | fz {v : V} {d : D} {vs : List V} {rs : List R} : Dp g F v d → RepX c σ H F δ vs rs → RepX c σ H F δ (v :: vs) (.fz d :: rs)
  | nw {v : V} {o : OD} {vs : List V} {rs : List R} : Ow g H F v o → RepX c σ H F δ vs rs → RepX c σ H F δ (v :: vs) (.nw o :: rs)
  | rf {a : Addr} {vs : List V} {rs : List R} : RepX c σ H F δ vs rs → RepX c σ H F δ (.ref a :: vs) (.rf a :: rs)
def DAx (c : Cn g) (ta : TA) (δ : List Sl) (Q : List R → List Sl → Prop) : Prop := ∀ σ H F (QA : List V → Hp → Prop), Rel c σ H F δ → (∀ vs H' F' rs δ', Q rs δ' → Rel c σ H' F' δ' → Same F F' → RepX c σ H' F' δ' vs rs → (adX rs ++ adS δ').Nodup → (∀ a ∈ adX rs, F' a = none ∧ c.H0 a = none) → QA vs H') → ta σ H QA
def ContX (c : Cn g) (x : R) (tr : TA) (δ : List Sl) (Q : List R → List Sl → Prop) : Prop := match x with
  | .fz d => DAx c tr δ fun xs δ2 => Q (.fz d :: xs) δ2
  | .rf a => DAx c tr δ fun xs δ2 => Q (.rf a :: xs) δ2
  | .nw o => ∀ c' : Cn g, Up c c' → DAx c' tr δ fun xs δ2 => Q (.nw o :: xs) δ2
  | .bw _ => False
theorem d_nilX {QA : List R → List Sl → Prop} (q : QA [] δ) : DAx c tNil δ QA := fun σ H F QV R k => k [] H F _ _ q R (Same.refl F) .nil R.nd fun a m => nomatch m
theorem d_consX {QA : List R → List Sl → Prop} (q : DE c te δ fun x δ1 => ContX c x tr δ1 QA) : DAx c (tCons te tr) δ QA := fun σ H F QV R k =>
  q σ H F _ R fun v H1 F1 x δ1 q1 R1 s1 rep1 => by
    cases x with
    | fz d => exact q1 σ H1 F1 _ R1 fun vs H2 F2 xs δ2 q2 R2 s2 rep2 nd fa => k _ H2 F2 _ _ q2 R2 (s1.trans s2) (.fz (Dp.mono s2 rep1) rep2) nd fa
    | bw i => exact q1.elim
    | rf a =>
      have rep1 : v = .ref a := rep1
      subst rep1
      exact q1 σ H1 F1 _ R1 fun vs H2 F2 xs δ2 q2 R2 s2 rep2 nd fa => k _ H2 F2 _ _ q2 R2 (s1.trans s2) (.rf rep2) nd fa
    | nw o =>
      obtain ⟨ow, ond, ofa⟩ := rep1
      refine q1 ⟨H1, F1, F1, adS δ1⟩ (up_in R1) σ H1 F1 _ (rel_in0 R1) fun vs H2 F2 xs δ2 q2 R2 s2 rep2 nd fa => ?_
      have oH : ∀ a ∈ o.adrs, H1 a ≠ none := ow.has
      have oM : ∀ a ∈ o.adrs, a ∉ adS δ1 := fun a m z => (List.nodup_append.mp ond).2.2 a m a z rfl
      have same : ∀ a ∈ o.adrs, H2 a = H1 a := fun a m => by
        cases q : H1 a with
        | none => exact absurd q (oH a m)
        | some u => exact R2.fr a u q (oM a m)
      have nS : ∀ a ∈ o.adrs, a ∉ adS δ2 := fun a m z => by
        rcases (R2.fa a z).2 with q | q
        · exact oH a m q
        · exact oM a m q
      have nX : ∀ a ∈ o.adrs, a ∉ adX xs := fun a m z => oH a m (fa a z).2
      have Ro := rel_out0 R1 R2
      have rep2' : RepX c σ H2 F2 δ2 vs xs := by
        clear q2 nd fa nX
        induction rep2 with
        | nil => exact .nil
        | fz h _ ih => exact .fz h ih
        | nw h _ ih => exact .nw h ih
        | rf _ ih => exact .rf ih
      refine k _ H2 F2 _ _ q2 Ro (s1.trans R2.lb) (.nw (ow.move R2.lb same) rep2') ?_ fun a m => ?_
      · simp only [adX, List.append_assoc]
        refine List.nodup_append.mpr ⟨(List.nodup_append.mp ond).1, nd, fun a m1 b m2 z => ?_⟩
        subst z
        rcases List.mem_append.mp m2 with q | q
        · exact nX a m1 q
        · exact nS a m1 q
      · simp only [adX, List.mem_append] at m
        rcases m with m | m
        · exact ⟨(R2.ff a (oH a m)).trans (ofa a m).1, (ofa a m).2⟩
        · refine ⟨(fa a m).1, ?_⟩
          have : H1 a = none := (fa a m).2
          cases q : c.H0 a with
          | none => rfl
          | some u => exact absurd this (R1.fr2 a (by rw [q]; exact fun z => nomatch z))
theorem d_cxF {QA : List R → List Sl → Prop} (q : DAx c tr δ fun xs δ2 => QA (.fz d :: xs) δ2) : ContX c (.fz d) tr δ QA := q
theorem d_cxN {QA : List R → List Sl → Prop} (q : ∀ c' : Cn g, Up c c' → DAx c' tr δ fun xs δ2 => QA (.nw o :: xs) δ2) : ContX c (.nw o) tr δ QA := q
/-- what a slot makes of it -/
inductive SlOf : R → Sl → Prop where
  | fz {d : D} : SlOf (.fz d) (.fz d)
  | rf {a : Addr} : SlOf (.rf a) (.rf a)
  | ow {o : OD} : SlOf (.nw o) (.ow o)
  | fr {o : OD} : SlOf (.nw o) (.fz o.data)
/-- the first one is stored -/
theorem setX {vs : List V} {rs : List R} {s : Sl} (R0 : Rel c σ H F δ) (rep : RepX c σ H F δ (v :: vs) (r :: rs)) (nd : (adX (r :: rs) ++ adS δ).Nodup) (fa : ∀ a ∈ adX (r :: rs), F a = none ∧ c.H0 a = none) (hs : SlOf r s) :
    ∃ F', Same F F' ∧ Rel c (σ.set i (some v)) H F' (δ.set i s) ∧ RepX c (σ.set i (some v)) H F' (δ.set i s) vs rs ∧ (adX rs ++ adS (δ.set i s)).Nodup ∧ ∀ a ∈ adX rs, F' a = none ∧ c.H0 a = none := by
  have tail : ∀ {σ2 : L2.St} {F2 : Hp} {δ2 : List Sl} {vs : List V} {rs : List R}, Same F F2 → RepX c σ H F δ vs rs → RepX c σ2 H F2 δ2 vs rs := by
    intro σ2 F2 δ2 vs rs s h
    induction h with
    | nil => exact .nil
    | fz h _ ih => exact .fz (Dp.mono s h) ih
    | nw h _ ih => exact .nw (h.move s fun _ _ => rfl) ih
    | rf _ ih => exact .rf ih
  have setSub : ∀ {s : Sl}, s.adrs = [] → (adS (δ.set i s)).Sublist (adS δ) := fun h => set_sub h
  cases hs with
  | fz =>
    cases rep with
    | fz h t => exact ⟨F, Same.refl F, R0.setFz h, tail (Same.refl F) t, nd.sublist ((List.Sublist.refl _).append (setSub rfl)), fa⟩
  | rf =>
    cases rep with
    | rf t => exact ⟨F, Same.refl F, R0.setRf, tail (Same.refl F) t, nd.sublist ((List.Sublist.refl _).append (setSub rfl)), fa⟩
  | ow =>
    rename_i o
    cases rep with
    | nw h t =>
      simp only [adX, List.append_assoc] at nd
      have nd1 := List.nodup_append.mp nd
      have nd2 := List.nodup_append.mp nd1.2.1
      have ndo : (o.adrs ++ adS (δ.set i .no)).Nodup := List.nodup_append.mpr ⟨nd1.1, R0.nd.sublist (sub_no δ i), fun a m1 b m2 => nd1.2.2 a m1 b (List.mem_append.mpr (.inr ((sub_no δ i).subset m2)))⟩
      refine ⟨F, Same.refl F, R0.setOw h ndo fun a m => ⟨(fa a (by simp [adX, m])).1, .inl (fa a (by simp [adX, m])).2⟩, tail (Same.refl F) t, ?_, fun a m => fa a (by simp [adX, m])⟩
      refine List.nodup_append.mpr ⟨nd2.1, ?_, fun a m1 b m2 z => ?_⟩
      · by_cases hi : i < δ.length
        · exact (perm_adS (s := .ow o) hi).nodup_iff.mpr ndo
        · rw [List.set_eq_of_length_le (by omega)]; exact R0.nd
      · subst z
        by_cases hi : i < δ.length
        · rcases List.mem_append.mp ((perm_adS (s := .ow o) hi).subset m2) with q | q
          · exact nd1.2.2 a q a (List.mem_append.mpr (.inl m1)) rfl
          · exact nd2.2.2 a m1 a ((sub_no δ i).subset q) rfl
        · rw [List.set_eq_of_length_le (by omega)] at m2
          exact nd2.2.2 a m1 a m2 rfl
  | fr =>
    rename_i o
    cases rep with
    | nw h t =>
      simp only [adX, List.append_assoc] at nd
      have nd1 := List.nodup_append.mp nd
      have nd2 := List.nodup_append.mp nd1.2.1
      have rp : RRep c σ H F δ v (.nw o) := ⟨h, List.nodup_append.mpr ⟨nd1.1, R0.nd, fun a m1 b m2 => nd1.2.2 a m1 b (List.mem_append.mpr (.inr m2))⟩, fun a m => fa a (by simp [adX, m])⟩
      have sF : Same F (ext F H o.adrs) := fun a u e => by
        by_cases m : a ∈ o.adrs
        · rw [(fa a (by simp [adX, m])).1] at e; cases e
        · rw [ext_out m]; exact e
      have R2 : Rel c σ H (ext F H o.adrs) δ := R0.grow sF (fun a u e => by
        by_cases m : a ∈ o.adrs
        · rw [ext_in m] at e; exact e
        · rw [ext_out m] at e; exact R0.sub a u e) (fun a z => by
        by_cases m : a ∈ o.adrs
        · exact absurd (fa a (by simp [adX, m])).2 z
        · exact ext_out m) (fun a m => by
        have : a ∉ o.adrs := fun z => nd1.2.2 a z a (List.mem_append.mpr (.inr m)) rfl
        rw [ext_out this]
        exact (R0.fa a m).1)
      refine ⟨ext F H o.adrs, sF, R2.setFz (h.frz sF fun a m => ext_in m), tail sF t, nd1.2.1.sublist ((List.Sublist.refl _).append (setSub rfl)), fun a m => ?_⟩
      have : a ∉ o.adrs := fun z => nd1.2.2 a z a (List.mem_append.mpr (.inl m)) rfl
      rw [ext_out this]
      exact fa a (by simp [adX, m])
def tParX (i j : Nat) (ta : TA) : TS := tPar i j ta
def tPar3X (i j l : Nat) (ta : TA) : TS := tPar3 i j l ta
theorem d_parX (q : DAx c tr δ fun rs δ1 => ∃ a b s1 s2, rs = [a, b] ∧ SlOf a s1 ∧ SlOf b s2 ∧ P.nx ((δ1.set i s1).set j s2)) : DS c (tParX i j tr) δ P := fun σ H F E R k =>
  q σ H F _ R fun vs H1 F1 rs δ1 ⟨a, b, s1, s2, er, h1, h2, q1⟩ R1 sF rep nd fa => by
    subst er
    obtain ⟨v, w, rfl⟩ : ∃ v w, vs = [v, w] := by
      cases rep with
      | fz _ t => cases t <;> (rename_i t; cases t; exact ⟨_, _, rfl⟩)
      | nw _ t => cases t <;> (rename_i t; cases t; exact ⟨_, _, rfl⟩)
      | rf t => cases t <;> (rename_i t; cases t; exact ⟨_, _, rfl⟩)
    obtain ⟨F2, s2', R2, rep2, nd2, fa2⟩ := setX (i := i) R1 rep nd fa h1
    obtain ⟨F3, s3', R3, _, _, _⟩ := setX (i := j) R2 rep2 nd2 fa2 h2
    exact ⟨v, w, rfl, k.nx _ H1 F3 _ q1 R3 ((sF.trans s2').trans s3')⟩
theorem d_par3X (q : DAx c tr δ fun rs δ1 => ∃ a b e s1 s2 s3, rs = [a, b, e] ∧ SlOf a s1 ∧ SlOf b s2 ∧ SlOf e s3 ∧ P.nx (((δ1.set i s1).set j s2).set l s3)) : DS c (tPar3X i j l tr) δ P := fun σ H F E R k =>
  q σ H F _ R fun vs H1 F1 rs δ1 ⟨a, b, e, s1, s2, s3, er, h1, h2, h3, q1⟩ R1 sF rep nd fa => by
    subst er
    obtain ⟨u, v, w, rfl⟩ : ∃ u v w, vs = [u, v, w] := by
      cases rep with
      | fz _ t => cases t <;> (rename_i t; cases t <;> (rename_i t; cases t; exact ⟨_, _, _, rfl⟩))
      | nw _ t => cases t <;> (rename_i t; cases t <;> (rename_i t; cases t; exact ⟨_, _, _, rfl⟩))
      | rf t => cases t <;> (rename_i t; cases t <;> (rename_i t; cases t; exact ⟨_, _, _, rfl⟩))
    obtain ⟨F2, s2', R2, rep2, nd2, fa2⟩ := setX (i := i) R1 rep nd fa h1
    obtain ⟨F3, s3', R3, rep3, nd3, fa3⟩ := setX (i := j) R2 rep2 nd2 fa2 h2
    obtain ⟨F4, s4', R4, _, _, _⟩ := setX (i := l) R3 rep3 nd3 fa3 h3
    exact ⟨u, v, w, rfl, k.nx _ H1 F4 _ q1 R4 (((sF.trans s2').trans s3').trans s4')⟩
theorem ps_x {X : Cx} {st : Stmt} {i j : Nat} {ta : TA} (h : PS X st (tPar i j ta)) : PS X st (tParX i j ta) := h
theorem ps_x3 {X : Cx} {st : Stmt} {i j l : Nat} {ta : TA} (h : PS X st (tPar3 i j l ta)) : PS X st (tPar3X i j l ta) := h
/-- the same over a tuple that is laid and unpacked -/
def tAsg2X (K : PySem.W.Frag) (i j : Nat) (ta : TA) : TS := tAsg (tTup ta) (gTup K 2 (gCons (gName i) (gCons (gName j) gNil)))
def tAsg3X (K : PySem.W.Frag) (i j l : Nat) (ta : TA) : TS := tAsg (tTup ta) (gTup K 3 (gCons (gName i) (gCons (gName j) (gCons (gName l) gNil))))
theorem repX_new {p : Addr} {u : HO} {vs : List V} {rs : List R} (hp : H p = none) (h : RepX c σ H F δ vs rs) : RepX c σ (upd H p u) F δ vs rs := by
  induction h with
  | nil => exact .nil
  | fz h _ ih => exact .fz h ih
  | nw h _ ih => exact .nw (h.move (Same.refl F) fun a m => upd_ne fun z => h.has a m (by rw [z]; exact hp)) ih
  | rf _ ih => exact .rf ih
theorem d_asg2X {K : PySem.W.Frag} (hK : K = g.K) (q : DAx c tr δ fun rs δ1 => ∃ a b s1 s2, rs = [a, b] ∧ SlOf a s1 ∧ SlOf b s2 ∧ P.nx ((δ1.set i s1).set j s2)) : DS c (tAsg2X K i j tr) δ P := fun σ H F E R k => by
  subst hK
  refine q σ H F _ R fun vs H1 F1 rs δ1 ⟨a, b, s1, s2, er, h1, h2, q1⟩ R1 sF rep nd fa => ?_
  subst er
  obtain ⟨v, w, rfl⟩ : ∃ v w, vs = [v, w] := by
    cases rep with
    | fz _ t => cases t <;> (rename_i t; cases t; exact ⟨_, _, rfl⟩)
    | nw _ t => cases t <;> (rename_i t; cases t; exact ⟨_, _, rfl⟩)
    | rf t => cases t <;> (rename_i t; cases t; exact ⟨_, _, rfl⟩)
  refine ⟨by show 2 ≤ sizeLine; decide, fun p hp => ?_⟩
  obtain ⟨R1', n1, n2, n3⟩ := R1.newO (o := .tup [v, w]) hp
  obtain ⟨F2, s2', R2, rep2, nd2, fa2⟩ := setX (i := i) R1' (repX_new hp rep) nd fa h1
  obtain ⟨F3, s3', R3, _, _, _⟩ := setX (i := j) R2 rep2 nd2 fa2 h2
  exact ⟨p, _, rfl, .inl (.inl upd_same), rfl, _, _, rfl, _, _, rfl, rfl, k.nx _ _ F3 _ q1 R3 ((sF.trans s2').trans s3')⟩
theorem d_asg3X {K : PySem.W.Frag} (hK : K = g.K) (q : DAx c tr δ fun rs δ1 => ∃ a b e s1 s2 s3, rs = [a, b, e] ∧ SlOf a s1 ∧ SlOf b s2 ∧ SlOf e s3 ∧ P.nx (((δ1.set i s1).set j s2).set l s3)) : DS c (tAsg3X K i j l tr) δ P := fun σ H F E R k => by
  subst hK
  refine q σ H F _ R fun vs H1 F1 rs δ1 ⟨a, b, e, s1, s2, s3, er, h1, h2, h3, q1⟩ R1 sF rep nd fa => ?_
  subst er
  obtain ⟨u, v, w, rfl⟩ : ∃ u v w, vs = [u, v, w] := by
    cases rep with
    | fz _ t => cases t <;> (rename_i t; cases t <;> (rename_i t; cases t; exact ⟨_, _, _, rfl⟩))
    | nw _ t => cases t <;> (rename_i t; cases t <;> (rename_i t; cases t; exact ⟨_, _, _, rfl⟩))
    | rf t => cases t <;> (rename_i t; cases t <;> (rename_i t; cases t; exact ⟨_, _, _, rfl⟩))
  refine ⟨by show 3 ≤ sizeLine; decide, fun p hp => ?_⟩
  obtain ⟨R1', n1, n2, n3⟩ := R1.newO (o := .tup [u, v, w]) hp
  obtain ⟨F2, s2', R2, rep2, nd2, fa2⟩ := setX (i := i) R1' (repX_new hp rep) nd fa h1
  obtain ⟨F3, s3', R3, rep3, nd3, fa3⟩ := setX (i := j) R2 rep2 nd2 fa2 h2
  obtain ⟨F4, s4', R4, _, _, _⟩ := setX (i := l) R3 rep3 nd3 fa3 h3
  exact ⟨p, _, rfl, .inl (.inl upd_same), rfl, _, _, rfl, _, _, rfl, _, _, rfl, rfl, k.nx _ _ F4 _ q1 R4 (((sF.trans s2').trans s3').trans s4')⟩
theorem ps_y2 {X : Cx} {st : Stmt} {i j : Nat} {ta : TA} (h : PS X st (tAsg (tTup ta) (gTup X.K 2 (gCons (gName i) (gCons (gName j) gNil))))) : PS X st (tAsg2X X.K i j ta) := h
theorem ps_y3 {X : Cx} {st : Stmt} {i j l : Nat} {ta : TA} (h : PS X st (tAsg (tTup ta) (gTup X.K 3 (gCons (gName i) (gCons (gName j) (gCons (gName l) gNil)))))) : PS X st (tAsg3X X.K i j l ta) := h
theorem d_x2F {d1 d2 : D} {S : Sl → Sl → Prop} (q : S (.fz d1) (.fz d2)) : ∃ a b s1 s2, [R.fz d1, R.fz d2] = [a, b] ∧ SlOf a s1 ∧ SlOf b s2 ∧ S s1 s2 := ⟨_, _, _, _, rfl, .fz, .fz, q⟩
theorem d_x3F {d1 d2 d3 : D} {S : Sl → Sl → Sl → Prop} (q : S (.fz d1) (.fz d2) (.fz d3)) : ∃ a b e s1 s2 s3, [R.fz d1, R.fz d2, R.fz d3] = [a, b, e] ∧ SlOf a s1 ∧ SlOf b s2 ∧ SlOf e s3 ∧ S s1 s2 s3 := ⟨_, _, _, _, _, _, rfl, .fz, .fz, .fz, q⟩
/-! tuples: +, slices -/
theorem d_catA {K : PySem.W.Frag} (hK : K = g.K) (hx : x = .fz (.tup ds)) (hy : y = .fz (.tup es)) (hl : ds.length + es.length ≤ sizeLine) (q : Q (.fz (.tup (ds ++ es))) δ) : DO c (rCatA K) x y δ Q := fun σ H F v w QV R k1 k2 k => by
  subst hK; subst hx; subst hy
  obtain ⟨a, vs, rfl, h1, h2⟩ := tup_ok R k1
  obtain ⟨b, ws, rfl, h3, h4⟩ := tup_ok R k2
  refine ⟨a, b, vs, ws, rfl, rfl, h1, h3, by rw [h2.length, h4.length]; exact hl, fun e => ?_, fun _ e => ?_, fun _ _ p hp => ?_⟩
  · subst e
    cases h2
    exact k _ H F _ δ q R (Same.refl F) k2
  · subst e
    cases h4
    rw [List.append_nil] at q
    exact k _ H F _ δ q R (Same.refl F) k1
  · obtain ⟨R2, s2, _⟩ := R.new (o := .tup (vs ++ ws)) hp
    exact k _ _ _ _ δ q R2 s2 (.tup (.inl (.inl upd_same)) ((h2.append h4).mono s2))
/-- what a slice leaves -/
def cutD (ds : List D) (lo hi : Option Int) : List D := (ds.drop (HT.sIx ds.length 0 lo)).take (HT.sIx ds.length ds.length hi - HT.sIx ds.length 0 lo)
theorem cut_dp {vs : List V} {lo hi : Option Int} (h : DpL g F vs ds) : DpL g F (cutV vs lo hi) (cutD ds lo hi) := by
  unfold cutV cutD
  rw [h.length]
  exact (h.drop _).take _
theorem cutD_nat (ds : List D) {a b : Nat} (h1 : a ≤ b) (h2 : b ≤ ds.length) : cutD ds (some a) (some b) = (ds.drop a).take (b - a) := by
  unfold cutD
  rw [HT.sIx_nat, HT.sIx_nat, Nat.min_eq_left h2, Nat.min_eq_left (show a ≤ ds.length by omega)]
theorem cutD_to (ds : List D) {b : Nat} (h2 : b ≤ ds.length) : cutD ds none (some b) = ds.take b := by
  unfold cutD
  rw [HT.sIx_nat, HT.sIx_none, Nat.min_eq_left h2, List.drop_zero, Nat.sub_zero]
theorem cutD_from (ds : List D) {a : Nat} (h2 : a ≤ ds.length) : cutD ds (some a) none = ds.drop a := by
  unfold cutD
  rw [HT.sIx_nat, HT.sIx_none, Nat.min_eq_left h2]
  exact List.take_of_length_le (by rw [List.length_drop]; exact Nat.le_refl _)
/-- a part of a slice -/
def DPo (c : Cn g) (t : TO) (δ : List Sl) (Qo : Option Int → List Sl → Prop) : Prop := ∀ σ H F (S : Option Int → Hp → Prop), Rel c σ H F δ → (∀ lo H' F' δ', Qo lo δ' → Rel c σ H' F' δ' → Same F F' → S lo H') → t σ H S
theorem d_nopart {Qo : Option Int → List Sl → Prop} (q : Qo none δ) : DPo c tNoPart δ Qo := fun σ H F S R k => k none H F δ q R (Same.refl F)
theorem d_part {Qo : Option Int → List Sl → Prop} (q : DE c te δ fun x δ1 => ∃ n : Int, x = .fz (.int n) ∧ Qo (some n) δ1) : DPo c (tPart te) δ Qo := fun σ H F S R k =>
  q σ H F _ R fun v H1 F1 x δ1 ⟨n, e, q1⟩ R1 s1 rep => by
    subst e
    cases rep
    exact ⟨n, rfl, k (some n) H1 F1 δ1 q1 R1 s1⟩
def DSv (c : Cn g) (f : V → Option Int → Option Int → Hp → VK → Prop) (x : R) (lo hi : Option Int) (δ : List Sl) (Q : R → List Sl → Prop) : Prop := ∀ σ H F v QV, Rel c σ H F δ → RRep c σ H F δ v x → PstE c σ F Q QV → f v lo hi H QV
theorem d_sl {f : V → Option Int → Option Int → Hp → VK → Prop} {tl th : TO} (q : DE c te δ fun x δ1 => DPo c tl δ1 fun lo δ2 => DPo c th δ2 fun hi δ3 => DSv c f x.frz lo hi δ3 Q) : DE c (L2.tSl f te tl th) δ Q := fun σ H F QV R k =>
  de_frz (QV := fun x H1 => tl σ H1 fun l H2 => th σ H2 fun u H3 => f x l u H3 QV) q R fun v H1 F1 x δ1 q1 R1 s1 rep1 => q1 σ H1 F1 _ R1 fun lo H2 F2 δ2 q2 R2 s2 => q2 σ H2 F2 _ R2 fun hi H3 F3 δ3 q3 R3 s3 =>
    q3 σ H3 F3 v QV R3 (rep_keep rep1 (frz_frz _) (s2.trans s3)) fun v' H' F' r δ' q' R' s' => k v' H' F' r δ' q' R' (((s1.trans s2).trans s3).trans s')
theorem d_slL {K : PySem.W.Frag} {lo hi : Option Int} (hK : K = g.K) (hx : x.lsR δ = some ds) (q : ∀ p, Q (.nw (.fl p (cutD ds lo hi))) δ) : DSv c (rSlL K) x lo hi δ Q := fun σ H F v QV R k1 k => by
  subst hK
  obtain ⟨a, vs, rfl, hs, hd⟩ := lsR_ok R k1 hx
  refine ⟨a, vs, rfl, hs, fun p hp => ?_⟩
  obtain ⟨R2, rep2⟩ := nw_ok R hp (cut_dp (lo := lo) (hi := hi) hd)
  exact k _ _ _ _ δ (q p) R2 (Same.refl F) rep2
theorem d_slT {K : PySem.W.Frag} {lo hi : Option Int} (hK : K = g.K) (hx : x = .fz (.tup ds)) (q : Q (.fz (.tup (cutD ds lo hi))) δ) : DSv c (rSlA K) x lo hi δ Q := fun σ H F v QV R k1 k => by
  subst hK; subst hx
  obtain ⟨a, vs, rfl, h1, h2⟩ := tup_ok R k1
  refine ⟨a, vs, rfl, h1, fun ⟨e1, e2⟩ => ?_, fun _ p hp => ?_⟩
  · have : cutD ds lo hi = ds := by
      unfold cutD
      rw [← h2.length, e1, e2, List.drop_zero, Nat.sub_zero, h2.length, List.take_length]
    rw [this] at q
    exact k _ H F _ δ q R (Same.refl F) k1
  · obtain ⟨R2, s2, _⟩ := R.new (o := .tup (cutV vs lo hi)) hp
    exact k _ _ _ _ δ q R2 s2 (.tup (.inl (.inl upd_same)) ((cut_dp h2).mono s2))
/-! lists: +, * -/
theorem d_cat (hx : x.lsL δ = some ds) (hy : y.lsL δ = some es) (hl : ds.length + es.length ≤ sizeLine) (q : ∀ p, Q (.nw (.fl p (ds ++ es))) δ) : DO c rCat x y δ Q := fun σ H F v w QV R k1 k2 k => by
  obtain ⟨a, vs, rfl, h1, h2⟩ := lsL_ok R k1 hx
  obtain ⟨b, ws, rfl, h3, h4⟩ := lsL_ok R k2 hy
  refine ⟨a, b, vs, ws, rfl, rfl, h1, h3, by rw [h2.length, h4.length]; exact hl, fun p hp => ?_⟩
  obtain ⟨R2, rep2⟩ := nw_ok R hp (h2.append h4)
  exact k _ _ _ _ δ (q p) R2 (Same.refl F) rep2
/-! plain comprehensions -/
theorem d_lcP {wi : TI} {tg : TG} {vs : List Nat} (hg : Only tg vs) (q : DI c wi δ fun n it ok δ1 => n ≤ sizeLine ∧ ok δ1 ∧ NoOw δ1 vs = true ∧ ∃ f : Nat → D, (∀ (c' : Cn g) i, i < n → DG c' tg (.fz (it i)) (wipeD δ1 vs) fun δ2 => DE c' te δ2 fun r δ3 => r.frz = .fz (f i) ∧ back δ1 δ3 vs = δ1) ∧
    ∀ p, Q (.nw (.fl p ((List.range n).map f))) δ1) : DE c (tLc wi tg tYes te vs) δ Q :=
  d_lc hg fun σ H F S R k => q σ H F S R fun J H' F' n it ok δ1 ⟨hn, hok, hno, f, hs, hd⟩ => k J H' F' n it ok δ1 ⟨hn, fun i acc δ2 => δ2 = δ1 ∧ acc = (List.range i).map f, ⟨rfl, rfl⟩, fun i acc δ2 e => by rw [e.1]; exact ⟨hok, hno⟩,
    fun c' i acc δ2 hi ⟨e1, e2⟩ => by
      subst e1; subst e2
      refine fun σ H F v S R rep k => hs c' i hi σ H F v S R rep fun σ' H' F' δ' q' R' s' => k σ' H' F' δ' (d_yes ?_) R' s'
      refine (show DE c' te δ' _ from DE.imp q' fun r δ3 ⟨h1, h2⟩ => ⟨f i, h1, h2, ?_⟩)
      rw [List.range_succ, List.map_append]; rfl,
    fun p acc δ' ⟨e1, e2⟩ => by subst e1; subst e2; exact hd p⟩
theorem d_lcPF {wi : TI} {tg : TG} {tt : TT} {vs : List Nat} (hg : Only tg vs) (q : DI c wi δ fun n it ok δ1 => n ≤ sizeLine ∧ ok δ1 ∧ NoOw δ1 vs = true ∧ ∃ (f : Nat → D) (p : Nat → Bool), (∀ (c' : Cn g) i, i < n → DG c' tg (.fz (it i)) (wipeD δ1 vs) fun δ2 => DT c' tt δ2 fun b δ3 => b = p i ∧ if b = true then DE c' te δ3 fun r δ4 => r.frz = .fz (f i) ∧ back δ1 δ4 vs = δ1 else back δ1 δ3 vs = δ1) ∧
    ∀ a, Q (.nw (.fl a (((List.range n).filter p).map f))) δ1) : DE c (tLc wi tg tt te vs) δ Q :=
  d_lc hg fun σ H F S R k => q σ H F S R fun J H' F' n it ok δ1 ⟨hn, hok, hno, f, p, hs, hd⟩ => k J H' F' n it ok δ1 ⟨hn, fun i acc δ2 => δ2 = δ1 ∧ acc = ((List.range i).filter p).map f, ⟨rfl, rfl⟩, fun i acc δ2 e => by rw [e.1]; exact ⟨hok, hno⟩,
    fun c' i acc δ2 hi ⟨e1, e2⟩ => by
      subst e1; subst e2
      refine fun σ H F v S R rep k => hs c' i hi σ H F v S R rep fun σ' H' F' δ' q' R' s' => k σ' H' F' δ' ?_ R' s'
      refine (show DT c' tt δ' _ from DT.imp q' fun b δ3 ⟨h0, h1⟩ => ?_)
      subst h0
      cases hp : p i with
      | true =>
        rw [hp, if_pos rfl] at h1
        rw [if_pos rfl]
        refine DE.imp h1 fun r δ4 ⟨h2, h3⟩ => ⟨f i, h2, h3, ?_⟩
        rw [List.range_succ, List.filter_append, List.map_append, List.filter_cons_of_pos hp]; rfl
      | false =>
        rw [hp, if_neg (by decide)] at h1
        rw [if_neg (by decide)]
        refine ⟨h1, ?_⟩
        rw [List.range_succ, List.filter_append, List.map_append, List.filter_cons_of_neg (by rw [hp]; decide)]
        simp,
    fun p acc δ' ⟨e1, e2⟩ => by subst e1; subst e2; exact hd p⟩
end
end KD

set_option maxHeartbeats 4000000
section
open PySem PySem.Spec PyProof.Rows L2 KB
local macro_rules | `(tactic| walk_at "rd1") => `(tactic| first
  | with_reducible refine i_seq ?_
  | ((with_reducible refine i_var (v := ?vv) ?hv ?_); (case hv => exact rfl))
  | with_reducible refine i_c ?_
  | with_reducible refine i_op ?_
  | with_reducible refine i_rI0 ?_
  | with_reducible refine i_asg ?_
  | with_reducible refine i_gname ?_
  | with_reducible refine i_nx ?_
  | with_reducible refine i_rt ?_
  | with_reducible refine i_ret ?_
  | with_reducible refine i_ifS ?_
  | with_reducible refine i_test ?_
  | with_reducible refine i_bl ?_
  | with_reducible refine i_CB ?_
  | with_reducible refine i_call ?_
  | with_reducible refine i_cons ?_
  | with_reducible refine i_nil ?_
  | with_reducible refine i_eqI ?_
  | with_reducible refine i_eqS ?_
  | with_reducible refine i_neS ?_
  | with_reducible refine i_neI ?_
  | with_reducible refine i_isN0 ?_
  | with_reducible refine i_isNr ?_
  | with_reducible refine i_isNi ?_
  | with_reducible refine i_isNb ?_
  | with_reducible refine i_notN0 ?_
  | with_reducible refine i_notNr ?_
  | with_reducible refine i_notNi ?_
  | with_reducible refine i_isB ?_
  | with_reducible refine i_notB ?_
  | with_reducible refine i_B ?_
  | with_reducible refine i_and ?_
  | with_reducible refine i_or ?_
  | with_reducible refine i_not ?_
  | with_reducible refine i_andV ?_
  | with_reducible refine i_orV ?_
  | with_reducible refine i_notV ?_
  | with_reducible refine i_if ?_
  | with_reducible refine i_T ?_
  | with_reducible refine i_F ?_
  | with_reducible refine i_tup ?_
  | with_reducible refine i_lst ?_
  | with_reducible refine i_max2 ?_
  | with_reducible refine i_min2 ?_
  | with_reducible refine i_abs ?_
  | with_reducible refine i_int1 ?_
  | with_reducible refine i_un ?_
  | with_reducible refine i_rU ?_
  | with_reducible refine i_fld ?_
  | with_reducible refine i_meth ?_
  | with_reducible refine i_make ?_
  | with_reducible refine i_bits ?_
  | with_reducible refine i_int ?_
  | with_reducible refine i_next ?_
  | with_reducible refine i_drop ?_
  | with_reducible refine i_par ?_
  | with_reducible refine i_two ?_
  | with_reducible refine i_par3 ?_
  | with_reducible refine i_three ?_
  | with_reducible refine i_pcons ?_
  | with_reducible refine i_pnil ?_
  | with_reducible refine i_dnotin ?_
  | with_reducible refine i_din ?_
  | with_reducible refine i_dget ?_
  | with_reducible refine i_dput ?_
  | with_reducible refine i_for ?_
  | with_reducible refine i_iR1 ?_
  | with_reducible refine i_iR2 ?_
  | with_reducible refine i_iL ?_
  | with_reducible refine i_iT ?_
  | with_reducible refine i_sl ?_
  | with_reducible refine i_nopart ?_
  | with_reducible refine i_part ?_
  | with_reducible refine i_gtup ?_
  | with_reducible refine i_gcons ?_
  | with_reducible refine i_gnil ?_
  | with_reducible refine i_sub ?_
  | with_reducible refine i_slc ?_
  | with_reducible refine i_rev1 ?_
  | with_reducible refine i_zip ?_
  | with_reducible refine i_sfld ?_
  | with_reducible refine i_BM ?_
  | with_reducible refine i_bk ?_
  | with_reducible refine i_ct ?_
  | with_reducible refine i_brk ?_
  | with_reducible refine i_cnt ?_)
local macro_rules | `(tactic| walk_at "rd") => `(tactic| repeat walk_at "rd1")
namespace K63
open PySem PySem.Spec PyProof.Rows L2 KB KM
def top (i : Nat) : Stmt := PySem.Challenge.pw_lawfulpages_k63_cut_shapes_and_reach_by.main.body.getD i (.Pass ⟨0, 0, 0, 0⟩)
/-- what the top leaves, as the walk needs it -/
structure Txt (K : PySem.W.Frag) (mg : Str → Option Value) : Prop where
  g_isinstance : mg "isinstance" = none
  g_int : mg "int" = none
  g_bool : mg "bool" = none
  g_tuple : mg "tuple" = none
  g_str : mg "str" = none
  g_list : mg "list" = none
  g_len : mg "len" = none
  g_max : mg "max" = none
  g_min : mg "min" = none
  g_abs : mg "abs" = none
  g_sum : mg "sum" = none
  g_range : mg "range" = none
  g_enumerate : mg "enumerate" = none
  g_MARKS : ∃ t, mg "MARKS" = some (.str "abcdefgh" t)
  g_MOST_NODES : ∃ t, mg "MOST_NODES" = some (.int 20000 t)
  g_MOST_HEIGHT : ∃ t, mg "MOST_HEIGHT" = some (.int 40 t)
  x_MatchError : ExcC K mg "MatchError" (He.ga K "MatchError")
  x_BadDocument : ExcC K mg "BadDocument" (He.ga K "BadDocument")
  x_BadShape : ExcC K mg "BadShape" (He.ga K "BadShape")
  x_BadCount : ExcC K mg "BadCount" (He.ga K "BadCount")
  x_BadBalance : ExcC K mg "BadBalance" (He.ga K "BadBalance")
  c_Stem : Cls K (He.ga K "Stem")
  n_Stem_left : NoAttr K (He.ga K "Stem") "left"
  n_Stem_right : NoAttr K (He.ga K "Stem") "right"
  n_Stem_width : NoAttr K (He.ga K "Stem") "width"
  n_Stem_height : NoAttr K (He.ga K "Stem") "height"
  k_Stem : MakT K mg "Stem" (He.ga K "Stem") "Stem.__init__" (inClass (top 20) 0) ["self", "left", "right"]
  c_Builder : Cls K (He.ga K "Builder")
  b_Builder : Bare K mg "Builder" (He.ga K "Builder")
  m_Builder_pair : MetT K (He.ga K "Builder") "pair" "Builder.pair" (inClass (top 21) 0) ["self", "left", "right"]
  m_Builder_sides : MetT K (He.ga K "Builder") "sides" "Builder.sides" (inClass (top 21) 1) ["self", "tree"]
  e_MatchError_BadShape : PySem.W.exmOne K (.ref (He.ga K "MatchError")) (.ref (He.ga K "BadShape")) = some false
  e_BadDocument_BadShape : PySem.W.exmOne K (.ref (He.ga K "BadDocument")) (.ref (He.ga K "BadShape")) = some false
  e_BadShape_BadShape : PySem.W.exmOne K (.ref (He.ga K "BadShape")) (.ref (He.ga K "BadShape")) = some true
  e_BadCount_BadShape : PySem.W.exmOne K (.ref (He.ga K "BadCount")) (.ref (He.ga K "BadShape")) = some false
  e_BadBalance_BadShape : PySem.W.exmOne K (.ref (He.ga K "BadBalance")) (.ref (He.ga K "BadShape")) = some false
  e_MatchError_BadBalance : PySem.W.exmOne K (.ref (He.ga K "MatchError")) (.ref (He.ga K "BadBalance")) = some false
  e_BadDocument_BadBalance : PySem.W.exmOne K (.ref (He.ga K "BadDocument")) (.ref (He.ga K "BadBalance")) = some false
  e_BadShape_BadBalance : PySem.W.exmOne K (.ref (He.ga K "BadShape")) (.ref (He.ga K "BadBalance")) = some false
  e_BadCount_BadBalance : PySem.W.exmOne K (.ref (He.ga K "BadCount")) (.ref (He.ga K "BadBalance")) = some false
  e_BadBalance_BadBalance : PySem.W.exmOne K (.ref (He.ga K "BadBalance")) (.ref (He.ga K "BadBalance")) = some true
  e_MatchError_BadCount : PySem.W.exmOne K (.ref (He.ga K "MatchError")) (.ref (He.ga K "BadCount")) = some false
  e_BadDocument_BadCount : PySem.W.exmOne K (.ref (He.ga K "BadDocument")) (.ref (He.ga K "BadCount")) = some false
  e_BadShape_BadCount : PySem.W.exmOne K (.ref (He.ga K "BadShape")) (.ref (He.ga K "BadCount")) = some false
  e_BadCount_BadCount : PySem.W.exmOne K (.ref (He.ga K "BadCount")) (.ref (He.ga K "BadCount")) = some true
  e_BadBalance_BadCount : PySem.W.exmOne K (.ref (He.ga K "BadBalance")) (.ref (He.ga K "BadCount")) = some false
  e_MatchError_BadDocument : PySem.W.exmOne K (.ref (He.ga K "MatchError")) (.ref (He.ga K "BadDocument")) = some false
  e_BadDocument_BadDocument : PySem.W.exmOne K (.ref (He.ga K "BadDocument")) (.ref (He.ga K "BadDocument")) = some true
  e_BadShape_BadDocument : PySem.W.exmOne K (.ref (He.ga K "BadShape")) (.ref (He.ga K "BadDocument")) = some false
  e_BadCount_BadDocument : PySem.W.exmOne K (.ref (He.ga K "BadCount")) (.ref (He.ga K "BadDocument")) = some false
  e_BadBalance_BadDocument : PySem.W.exmOne K (.ref (He.ga K "BadBalance")) (.ref (He.ga K "BadDocument")) = some false
  d_is_integer : DefT K mg "is_integer" (top 9) ["thing"]
  d_is_below : DefT K mg "is_below" (top 10) ["thing", "bound"]
  d_need_count : DefT K mg "need_count" (top 11) ["thing", "most"]
  d_is_mark : DefT K mg "is_mark" (top 12) ["thing"]
  d_is_forest : DefT K mg "is_forest" (top 14) ["thing"]
  d_need_document : DefT K mg "need_document" (top 15) ["document"]
  d_parents_of : DefT K mg "parents_of" (top 16) ["document"]
  d_rows_of : DefT K mg "rows_of" (top 17) ["document"]
  d_tallest_of : DefT K mg "tallest_of" (top 22) ["width"]
  d_width_in : DefT K mg "width_in" (top 23) ["thing", "most"]
  d_balanced_height : DefT K mg "balanced_height" (top 24) ["shape"]
  d_stem_of : DefT K mg "stem_of" (top 25) ["shape"]
  d_shape_of : DefT K mg "shape_of" (top 26) ["tree"]
  d_even_pair : DefT K mg "even_pair" (top 27) ["builder", "left", "right"]
  d_row_joined : DefT K mg "row_joined" (top 28) ["builder", "left", "right"]
  d_row_cut : DefT K mg "row_cut" (top 29) ["builder", "tree", "many"]
  d_reach_of : DefT K mg "reach_of" (top 31) ["document"]
  d_need_shape : DefT K mg "need_shape" (top 33) ["shape"]
  d_need_balanced : DefT K mg "need_balanced" (top 34) ["shape"]
  d_cut_shape : DefT K mg "cut_shape" (top 35) ["shape", "many"]
  d_reach : DefT K mg "reach" (top 36) ["document"]
  d__law_feed : DefT K mg "_law_feed" (top 38) ["script", "k"]
  d__law_draw : DefT K mg "_law_draw" (top 39) ["feed", "many"]
  d__law_one : DefT K mg "_law_one" (top 40) ["feed", "things"]
  d__law_least : DefT K mg "_law_least" (top 41) ["height"]
  d__law_tallest : DefT K mg "_law_tallest" (top 42) ["width"]
  d__law_balanced : DefT K mg "_law_balanced" (top 43) ["feed", "width", "height"]
  d__law_any_balanced : DefT K mg "_law_any_balanced" (top 44) ["feed", "most"]
  d__law_grown : DefT K mg "_law_grown" (top 45) ["feed", "many", "spoil"]
  d__law_shape : DefT K mg "_law_shape" (top 46) ["feed", "most"]
  d__law_trouble : DefT K mg "_law_trouble" (top 47) ["thing"]
  d__law_sizes : DefT K mg "_law_sizes" (top 48) ["shape"]
  d__law_is_shape : DefT K mg "_law_is_shape" (top 49) ["thing"]
  d__law_cut : DefT K mg "_law_cut" (top 50) ["shape", "many"]
  d__law_part : DefT K mg "_law_part" (top 51) ["part", "width"]
  d__law_right : DefT K mg "_law_right" (top 52) ["shape", "many", "counts"]
  d__law_asked_one : DefT K mg "_law_asked_one" (top 53) ["script"]
  d__law_document : DefT K mg "_law_document" (top 54) ["feed", "most"]
  d__law_wide : DefT K mg "_law_wide" (top 55) ["feed", "most"]
  d__law_comb : DefT K mg "_law_comb" (top 56) ["feed"]
  d__law_reach : DefT K mg "_law_reach" (top 57) ["document"]
  d__law_refused : DefT K mg "_law_refused" (top 58) ["thing"]
  d__law_spoilt : DefT K mg "_law_spoilt" (top 59) ["feed", "document"]
  d__law_asked_two : DefT K mg "_law_asked_two" (top 60) ["script"]
  d_law : DefT K mg "law" (top 61) ["script"]
/-! ### types by names -/
abbrev TYS : List String := ["NoneType", "bool", "int", "str", "list", "tuple", "dict"]
theorem ty_int : ∀ n ∈ TYS, kitB n "int" = some (n == "int" || n == "bool") := by decide +kernel
theorem ty_bool : ∀ n ∈ TYS, kitB n "bool" = some (n == "bool") := by decide +kernel
theorem ty_tuple : ∀ n ∈ TYS, kitB n "tuple" = some (n == "tuple") := by decide +kernel
theorem ty_ib : ∀ n ∈ TYS, (n == "int" || n == "bool") = true → (!(n == "bool")) = (n == "int") := by decide +kernel
theorem ty_ib2 : ∀ n ∈ TYS, (n == "int" || n == "bool") = false → (n == "int") = false := by decide +kernel
/-- x is of a told type -/
def Kn (H : Hp) (x : V) (n : String) : Prop := tyN H x = some n ∧ n ∈ TYS
/-! ### shapes in the heap -/
inductive GShp (H : Hp) : V → GS → Prop where
  | one : GShp H .non .one
  | two {a : Addr} {x y : V} {l r : GS} : H a = some (.tup [x, y]) → GShp H x l → GShp H y r → GShp H (.ref a) (.two l r)
  | bad {v : V} {n : String} : v ≠ .non → Kn H v n → (n = "tuple" → ∃ a xs, v = .ref a ∧ H a = some (.tup xs) ∧ xs.length ≠ 2) → GShp H v .bad
inductive Shp (H : Hp) : V → Sh → Prop where
  | one : Shp H .non .one
  | two {a : Addr} {x y : V} {l r : Sh} : H a = some (.tup [x, y]) → Shp H x l → Shp H y r → Shp H (.ref a) (.two l r)
theorem Shp.g {H : Hp} {v : V} {s : Sh} (h : Shp H v s) : GShp H v s.g := by
  induction h with
  | one => exact .one
  | two a _ _ ih1 ih2 => exact .two a ih1 ih2
/-- the tuples stay -/
def Tups (H H' : Hp) : Prop := ∀ a xs, H a = some (.tup xs) → H' a = some (.tup xs)
theorem Shp.mono {H H' : Hp} {v : V} {s : Sh} (h : Shp H v s) (k : Tups H H') : Shp H' v s := by
  induction h with
  | one => exact .one
  | two a _ _ ih1 ih2 => exact .two (k _ _ a) ih1 ih2
theorem Same.tups {H H' : Hp} (s : Same H H') : Tups H H' := fun a xs h => s a _ h
section
variable {P : Program} {w : World} {K : PySem.W.Frag} {mg : Str → Option Value} {base : Heap}
/-! ### is_integer -/
def spIsInt : Sp := fun vs H Q _ => ∃ x n, vs = [x] ∧ Kn H x n ∧ Q (.bl (n == "int")) H
abbrev s_is_integer : Stmt := (top 9)
theorem sc_is_integer : FnScope ["thing"] ["thing"] (defScope s_is_integer) := ⟨rfl, rfl, rfl, by decide +kernel, rfl, by decide +kernel, by decide +kernel⟩
theorem b_is_integer (T : Txt K mg) : Body P w K mg base (0) ["thing"] "is_integer" (defScope s_is_integer) (defBody s_is_integer) spIsInt := by
  intro f cdv A outer s H vs Q E hr h
  obtain ⟨x, n, rfl, ⟨hn, hm⟩, q⟩ := h
  have hu := hu_of hr
  have tk : Takes (cxOf (L2.CX P w) P w K mg base ["thing"] "is_integer" (defScope s_is_integer) f cdv A outer s H E) (fun cls d _ H => E cls d H) := takes_of rfl rfl rfl rfl
  refine ⟨_, (pss_one (ps_ret (pe_and (pe_callB call_isN1 (by rfl) T.g_isinstance (by decide +kernel) (pa_cons (pv 0) (pa_cons (pe_ty "int" T.g_int) pa_nil))) (pe_one (pe_not (pe_callB call_isN1 (by rfl) T.g_isinstance (by decide +kernel) (pa_cons (pv 0) (pa_cons (pe_ty "bool" T.g_bool) pa_nil)))))))), ?_⟩
  refine i_start [some _] (by rfl) ?_
  try dsimp only [cxOf]
  walk_at "rd"
  refine i_inst hn (ty_int n hm) ?_
  walk_at "rd"
  refine i_bool (fun e => ?_) (fun e => ?_)
  · walk_at "rd"
    refine i_inst hn (ty_bool n hm) ?_
    walk_at "rd"
    rw [ty_ib n hm e]
    exact q
  · walk_at "rd"
    rw [ty_ib2 n hm e] at q
    exact q
/-! ### need_count -/
def spNeedCount (K : PySem.W.Frag) : Sp := fun vs H Q E => ∃ x n m, vs = [x, .int m] ∧ Kn H x n ∧ (∀ i, x = .int i → 0 ≤ i → i ≤ m → Q .non H) ∧
  ((∀ i, x = .int i → ¬ (0 ≤ i ∧ i ≤ m)) → E (.ref (He.ga K "BadCount")) none H)
abbrev s_need_count : Stmt := (top 11)
theorem sc_need_count : FnScope ["thing", "most"] ["thing", "most"] (defScope s_need_count) := ⟨rfl, rfl, rfl, by decide +kernel, rfl, by decide +kernel, by decide +kernel⟩
theorem kn_int {H : Hp} {x : V} {n : String} (h : Kn H x n) (e : (n == "int") = true) : ∃ i, x = .int i := by
  have e' : n = "int" := beq_iff_eq.mp e
  subst e'
  obtain ⟨h, _⟩ := h
  cases x with
  | int i => exact ⟨i, rfl⟩
  | ref a =>
    exfalso
    have h1 : (match H a with
      | some (.lst _) => some "list"
      | some (.tup _) => some "tuple"
      | some (.dK _) => some "dict"
      | some (.dT _) => some "dict"
      | some (.frz _ (.lst _)) => some "list"
      | _ => none) = some "int" := h
    split at h1 <;> simp at h1
  | _ => simp [tyN] at h
theorem kn_nint {H : Hp} {x : V} {n : String} (h : Kn H x n) (e : (n == "int") = false) : ∀ i, x ≠ .int i := by
  rintro i rfl
  obtain ⟨h, _⟩ := h
  simp only [tyN, Option.some.injEq] at h
  subst h
  simp at e
theorem b_need_count (T : Txt K mg) (C_is_integer : Cal P w K mg base 1 "is_integer" spIsInt) : Body P w K mg base (1) ["thing", "most"] "need_count" (defScope s_need_count) (defBody s_need_count) (spNeedCount K) := by
  intro f cdv A outer s H vs Q E hr h
  obtain ⟨x, n, m, rfl, hk, q1, q2⟩ := h
  have hu := hu_of hr
  have tk : Takes (cxOf (L2.CX P w) P w K mg base ["thing", "most"] "need_count" (defScope s_need_count) f cdv A outer s H E) (fun cls d _ H => E cls d H) := takes_of rfl rfl rfl rfl
  refine ⟨_, (pss_cons (ps_if (PW.pt (pw_or (pt_not (pt_val (pe_cal C_is_integer hr (by omega) tk (pa_cons (pv 0) pa_nil)))) (pw_or1 (pt_cmpR op_lt (pv 0) pe_int (nomark _))))) (pss_one (ps_raiseX T.x_BadCount tk)) pss_nil)
    (pss_one (ps_if (PW.pt (pw_and (pt_cmpR op_notN1 (pv 1) pe_non (nomark _)) (pw_and1 (pt_cmpR op_gt (pv 0) (pv 1) (nomark _))))) (pss_one (ps_raiseX T.x_BadCount tk)) pss_nil))), ?_⟩
  refine i_start [some _, some _] (by rfl) ?_
  try dsimp only [cxOf]
  walk_at "rd"
  refine ⟨x, n, rfl, hk, ?_⟩
  walk_at "rd"
  cases e : (n == "int") with
  | false =>
    walk_at "rd"
    refine i_T ?_
    exact q2 fun i ei _ => kn_nint hk e i ei
  | true =>
    obtain ⟨i, rfl⟩ := kn_int hk e
    refine i_F ?_
    walk_at "rd"
    refine i_dec (fun hi => ?_) (fun hi => ?_)
    · refine q2 fun j ej => ?_
      cases ej
      omega
    · walk_at "rd"
      refine i_dec (fun hj => ?_) (fun hj => ?_)
      · refine q2 fun j ej => ?_
        cases ej
        omega
      · walk_at "rd"
        exact q1 i rfl (by omega) (by omega)
end

end K63

set_option maxHeartbeats 4000000
namespace K63
open PySem PySem.Spec PyProof.Rows L2 KB KM
/-! ### stems -/
def stf (l r : V) (w h : Int) : List (Str × V) := [("left", l), ("right", r), ("width", .int w), ("height", .int h)]
theorem put_1 (l : V) : putF "left" l [] = [(("left" : Str), l)] := rfl
theorem put_2 (l r : V) : putF "right" r [("left", l)] = [(("left" : Str), l), ("right", r)] := by
  unfold putF
  rw [if_neg (by decide +kernel)]
  rfl
theorem put_3 (l r w : V) : putF "width" w [(("left" : Str), l), ("right", r)] = [(("left" : Str), l), ("right", r), ("width", w)] := by
  unfold putF
  rw [if_neg (by decide +kernel)]
  unfold putF
  rw [if_neg (by decide +kernel)]
  rfl
theorem put_4 (l r w h : V) : putF "height" h [(("left" : Str), l), ("right", r), ("width", w)] = [(("left" : Str), l), ("right", r), ("width", w), ("height", h)] := by
  unfold putF
  rw [if_neg (by decide +kernel)]
  unfold putF
  rw [if_neg (by decide +kernel)]
  unfold putF
  rw [if_neg (by decide +kernel)]
  rfl
theorem st_left {l r : V} {w h : Int} : (stf l r w h).lookup ("left" : Str) = some l := by rfl
theorem st_right {l r : V} {w h : Int} : (stf l r w h).lookup ("right" : Str) = some r := by rfl
theorem st_width {l r : V} {w h : Int} : (stf l r w h).lookup ("width" : Str) = some (.int w) := by rfl
theorem st_height {l r : V} {w h : Int} : (stf l r w h).lookup ("height" : Str) = some (.int h) := by rfl
inductive Stm (C : Addr) (H : Hp) : V → Sh → Prop where
  | one {a dx : Addr} : H a = some (.ins C dx (stf .non .non 1 0)) → Stm C H (.ref a) .one
  | two {a dx : Addr} {x y : V} {l r : Sh} : H a = some (.ins C dx (stf x y (wid (.two l r) : Nat) (hei (.two l r) : Nat))) → Stm C H x l → Stm C H y r → Stm C H (.ref a) (.two l r)
theorem Stm.at_ {C : Addr} {H : Hp} {v : V} {s : Sh} (h : Stm C H v s) : ∃ a dx x y, v = .ref a ∧ H a = some (.ins C dx (stf x y (wid s : Nat) (hei s : Nat))) ∧
    ((s = .one ∧ x = .non ∧ y = .non) ∨ ∃ l r, s = .two l r ∧ Stm C H x l ∧ Stm C H y r) := by
  cases h with
  | one e => exact ⟨_, _, _, _, rfl, e, .inl ⟨rfl, rfl, rfl⟩⟩
  | two e h1 h2 => exact ⟨_, _, _, _, rfl, e, .inr ⟨_, _, rfl, h1, h2⟩⟩
theorem Stm.mono {C : Addr} {H H' : Hp} {v : V} {s : Sh} (h : Stm C H v s) (k : Same H H') : Stm C H' v s := by
  induction h with
  | one e => exact .one (k _ _ e)
  | two e _ _ ih1 ih2 => exact .two (k _ _ e) ih1 ih2
section
variable {P : Program} {w : World} {K : PySem.W.Frag} {mg : Str → Option Value} {base : Heap}
abbrev CS (K : PySem.W.Frag) : Addr := He.ga K "Stem"
/-- both none, or two stems -/
def Sides (C : Addr) (H : Hp) (x y : V) (s : Sh) : Prop := (s = .one ∧ x = .non ∧ y = .non) ∨ ∃ l r, s = .two l r ∧ Stm C H x l ∧ Stm C H y r
def spStem (K : PySem.W.Frag) : Sp := fun vs H Q _ => ∃ p dx x y s, vs = [.ref p, x, y] ∧ H p = some (.ins (CS K) dx []) ∧ Sides (CS K) H x y s ∧
  Q .non (upd H p (.ins (CS K) dx (stf x y (wid s : Nat) (hei s : Nat))))
abbrev s_Stem___init__ : Stmt := (inClass (top 20) 0)
theorem sc_Stem___init__ : FnScope ["self", "left", "right"] ["self", "left", "right"] (defScope s_Stem___init__) := ⟨rfl, rfl, rfl, by decide +kernel, rfl, by decide +kernel, by decide +kernel⟩
theorem b_Stem (T : Txt K mg) : Body P w K mg base (0) ["self", "left", "right"] "Stem.__init__" (defScope s_Stem___init__) (defBody s_Stem___init__) (spStem K) := by
  intro f cdv A outer s H vs Q E hr h
  obtain ⟨p, dx, x, y, sh, rfl, hp, hs, q⟩ := h
  have hu := hu_of hr
  have tk : Takes (cxOf (L2.CX P w) P w K mg base ["self", "left", "right"] "Stem.__init__" (defScope s_Stem___init__) f cdv A outer s H E) (fun cls d _ H => E cls d H) := takes_of rfl rfl rfl rfl
  refine ⟨_, (pss_cons (ps_fld (pv 0) (pv 1) rfl)
    (pss_cons (ps_fld (pv 0) (pv 2) rfl)
    (pss_cons (ps_fld (pv 0) (pe_ifExp (pt_cmpR op_isN1 (pv 1) pe_non (nomark _)) pe_int (pe_op op_add (pe_fld (pv 1) rfl) (pe_fld (pv 2) rfl))) rfl)
    (pss_one (ps_fld (pv 0) (pe_ifExp (pt_cmpR op_isN1 (pv 1) pe_non (nomark _)) pe_int (pe_op op_add pe_int (pe_callB (call_max2K rfl) (by rfl) T.g_max (by decide +kernel) (pa_cons (pe_fld (pv 1) rfl) (pa_cons (pe_fld (pv 2) rfl) pa_nil))))) rfl))))), ?_⟩
  refine i_start [some _, some _, some _] (by rfl) ?_
  try dsimp only [cxOf]
  walk_at "rd"
  refine ⟨p, _, dx, _, rfl, hp, T.c_Stem, T.n_Stem_left, (by show 0 < 1000; decide), ?_⟩
  rw [put_1]
  walk_at "rd"
  refine ⟨p, _, dx, _, rfl, upd_same, T.c_Stem, T.n_Stem_right, (by show 1 < 1000; decide), ?_⟩
  rw [put_2, upd_upd]
  walk_at "rd"
  rcases hs with ⟨rfl, rfl, rfl⟩ | ⟨l, r, rfl, hl, hr2⟩
  · walk_at "rd"
    refine ⟨p, _, dx, _, rfl, upd_same, T.c_Stem, T.n_Stem_width, (by show 2 < 1000; decide), ?_⟩
    rw [put_3, upd_upd]
    walk_at "rd"
    refine ⟨p, _, dx, _, rfl, upd_same, T.c_Stem, T.n_Stem_height, (by show 3 < 1000; decide), ?_⟩
    rw [put_4, upd_upd]
    walk_at "rd"
    exact q
  · obtain ⟨a1, dx1, x1, y1, rfl, e1, _⟩ := hl.at_
    obtain ⟨a2, dx2, x2, y2, rfl, e2, _⟩ := hr2.at_
    have n1 : a1 ≠ p := ne_of e1 hp (by intro z; cases z)
    have n2 : a2 ≠ p := ne_of e2 hp (by intro z; cases z)
    walk_at "rd"
    refine i_fldR ((upd_ne n1).trans e1) T.c_Stem T.n_Stem_width st_width ?_
    walk_at "rd"
    refine i_fldR ((upd_ne n2).trans e2) T.c_Stem T.n_Stem_width st_width ?_
    walk_at "rd"
    refine ⟨p, _, dx, _, rfl, upd_same, T.c_Stem, T.n_Stem_width, (by show 2 < 1000; decide), ?_⟩
    rw [put_3, upd_upd]
    walk_at "rd"
    refine i_fldR ((upd_ne n1).trans e1) T.c_Stem T.n_Stem_height st_height ?_
    walk_at "rd"
    refine i_fldR ((upd_ne n2).trans e2) T.c_Stem T.n_Stem_height st_height ?_
    walk_at "rd"
    refine ⟨p, _, dx, _, rfl, upd_same, T.c_Stem, T.n_Stem_height, (by show 3 < 1000; decide), ?_⟩
    rw [put_4, upd_upd]
    walk_at "rd"
    have ew : ((wid l : Nat) : Int) + ((wid r : Nat) : Int) = ((wid (.two l r) : Nat) : Int) := by simp only [wid]; omega
    have eh : (1 : Int) + max ((hei l : Nat) : Int) ((hei r : Nat) : Int) = ((hei (.two l r) : Nat) : Int) := by simp only [hei]; omega
    rw [ew, eh]
    exact q

theorem len3 {sp : Sp} (h : ∀ vs H Q E, sp vs H Q E → ∃ a b c, vs = [a, b, c]) : ∀ vs H Q E, sp vs H Q E → vs.length = 3 := fun vs H Q E z => by
  obtain ⟨_, _, _, rfl⟩ := h vs H Q E z
  rfl
theorem m_Stem (T : Txt K mg) : Mak P w K mg base 1 "Stem" (CS K) (spStem K) := T.k_Stem.mak sc_Stem___init__ (fun vs H Q E h => by obtain ⟨_, _, _, _, _, rfl, _⟩ := h; rfl) (b_Stem T)
theorem c_is_integer (T : Txt K mg) : Cal P w K mg base 1 "is_integer" spIsInt := T.d_is_integer.cal sc_is_integer (fun vs H Q E h => by obtain ⟨_, _, rfl, _⟩ := h; rfl) (b_is_integer T)
theorem c_need_count (T : Txt K mg) : Cal P w K mg base 2 "need_count" (spNeedCount K) :=
  T.d_need_count.cal sc_need_count (fun vs H Q E h => by obtain ⟨_, _, _, rfl, _⟩ := h; rfl) (b_need_count T (c_is_integer T))
/-- a stem is made -/
theorem stem_made {H : Hp} {x y : V} {s : Sh} {Q : VK} (hs : Sides (CS K) H x y s) (q : ∀ p H', H p = none → Same H H' → Stm (CS K) H' (.ref p) s → Q (.ref p) H') :
    ∀ p dx, H p = none → H dx = none → dx ≠ p → spStem K (.ref p :: ([x, y] ++ [])) (L2.upd (L2.upd H dx (.own p)) p (.ins (CS K) dx [])) (fun v H2 => v = .non ∧ Q (.ref p) H2) E0 := by
  intro p dx hp hd ne
  have s1 : Same H (L2.upd (L2.upd H dx (.own p)) p (.ins (CS K) dx [])) := Same.upd (Same.new hd) hp
  have s2 : Same H (L2.upd (L2.upd (L2.upd H dx (.own p)) p (.ins (CS K) dx [])) p (.ins (CS K) dx (stf x y (wid s : Nat) (hei s : Nat)))) := by
    rw [upd_upd]
    exact Same.upd (Same.new hd) hp
  refine ⟨p, dx, x, y, s, rfl, upd_same, ?_, rfl, q p _ hp s2 ?_⟩
  · rcases hs with h | ⟨l, r, e, h1, h2⟩
    · exact .inl h
    · exact .inr ⟨l, r, e, h1.mono s1, h2.mono s1⟩
  · rcases hs with ⟨rfl, rfl, rfl⟩ | ⟨l, r, rfl, h1, h2⟩
    · exact .one upd_same
    · exact .two upd_same (h1.mono s2) (h2.mono s2)
/-! ### Builder.pair -/
abbrev CB (K : PySem.W.Frag) : Addr := He.ga K "Builder"
def spPair (K : PySem.W.Frag) : Sp := fun vs H Q _ => ∃ b x y l r, vs = [b, x, y] ∧ Stm (CS K) H x l ∧ Stm (CS K) H y r ∧ ∀ p H', Same H H' → Stm (CS K) H' (.ref p) (.two l r) → Q (.ref p) H'
abbrev s_Builder_pair : Stmt := (inClass (top 21) 0)
theorem sc_Builder_pair : FnScope ["self", "left", "right"] ["self", "left", "right"] (defScope s_Builder_pair) := ⟨rfl, rfl, rfl, by decide +kernel, rfl, by decide +kernel, by decide +kernel⟩
theorem b_pair (T : Txt K mg) (M_Stem : Mak P w K mg base 1 "Stem" (CS K) (spStem K)) : Body P w K mg base (2) ["self", "left", "right"] "Builder.pair" (defScope s_Builder_pair) (defBody s_Builder_pair) (spPair K) := by
  intro f cdv A outer s H vs Q E hr h
  obtain ⟨b, x, y, l, r, rfl, hl, hr2, q⟩ := h
  have hu := hu_of hr
  have tk : Takes (cxOf (L2.CX P w) P w K mg base ["self", "left", "right"] "Builder.pair" (defScope s_Builder_pair) f cdv A outer s H E) (fun cls d _ H => E cls d H) := takes_of rfl rfl rfl rfl
  refine ⟨_, (pss_one (ps_ret (pe_mak M_Stem hr (by omega) (pa_cons (pv 1) (pa_cons (pv 2) pa_nil))))), ?_⟩
  refine i_start [some _, some _, some _] (by rfl) ?_
  try dsimp only [cxOf]
  walk_at "rd"
  refine stem_made (s := .two l r) (.inr ⟨l, r, rfl, hl, hr2⟩) fun p H' _ s1 h1 => ?_
  walk_at "rd"
  exact q p H' s1 h1
/-! ### tallest_of -/
def spTallestOf : Sp := fun vs H Q _ => ∃ n : Nat, vs = [.int n] ∧ ∀ (h : Nat) (H' : Hp), Same H H' → Tl n h → Q (.int h) H'
abbrev s_tallest_of : Stmt := (top 22)
theorem sc_tallest_of : FnScope ["width", "height", "least", "more"] ["width"] (defScope s_tallest_of) := ⟨rfl, rfl, rfl, by decide +kernel, rfl, by decide +kernel, by decide +kernel⟩
theorem b_tallest_of (T : Txt K mg) : Body P w K mg base (0) ["width", "height", "least", "more"] "tallest_of" (defScope s_tallest_of) (defBody s_tallest_of) spTallestOf := by
  intro f cdv A outer s H vs Q E hr h
  obtain ⟨n, rfl, q⟩ := h
  have hu := hu_of hr
  have tk : Takes (cxOf (L2.CX P w) P w K mg base ["width", "height", "least", "more"] "tallest_of" (defScope s_tallest_of) f cdv A outer s H E) (fun cls d _ H => E cls d H) := takes_of rfl rfl rfl rfl
  refine ⟨_, (pss_cons (ps_asg (pe_tup (pa_cons pe_int (pa_cons pe_int (pa_cons pe_int pa_nil)))) (pg_tup (n := 3) (by rfl) (pgs_cons (pg_name (i := 1) sc_tallest_of.nd rfl (Or.inl rfl)) (pgs_cons (pg_name (i := 2) sc_tallest_of.nd rfl (Or.inl rfl)) (pgs_cons (pg_name (i := 3) sc_tallest_of.nd rfl (Or.inl rfl)) pgs_nil)))))
    (pss_cons (ps_while (passes_of rfl) (pt_cmpR op_le (pv 3) (pv 0) (nomark _)) (pss_one (ps_par3 (i := 1) (j := 2) (l := 3) (by rfl) sc_tallest_of.nd rfl rfl rfl (by decide) (by decide) (by decide) rfl rfl rfl (pa_cons (pe_op op_add (pv 1) pe_int) (pa_cons (pv 3) (pa_cons (pe_op op_add (pv 2) (pv 3)) pa_nil))) (by rfl))))
    (pss_one (ps_ret (pv 1))))), ?_⟩
  refine i_start [some _, none, none, none] (by rfl) ?_
  try dsimp only [cxOf]
  walk_at "rd"
  refine ⟨by show 3 ≤ sizeLine; decide, fun t ht => ?_⟩
  walk_at "rd"
  refine ⟨t, _, rfl, SqT.of upd_same, rfl, ?_⟩
  walk_at "rd"
  refine i_whileR (fun m s h => ∃ k : Nat, s = [some (.int n), some (.int k), some (.int (L k : Nat)), some (.int (L (k + 1) : Nat))] ∧ h = L2.upd H t (.tup [.int 0, .int 1, .int 2]) ∧ (k = 0 ∨ L k ≤ n) ∧ m = n + 1 - L (k + 1)) (n + 1 - L 1) ⟨0, rfl, rfl, .inl rfl, rfl⟩ ?_
  rintro m s h ⟨k, rfl, rfl, hk, rfl⟩
  walk_at "rd"
  refine i_dec (fun c => ?_) (fun c => ?_)
  · refine i_more ?_
    walk_at "rd"
    have lt : L (k + 1) < L (k + 2) := L_lt (k + 1)
    refine ⟨n + 1 - L (k + 2), by omega, k + 1, ?_, rfl, .inr (by omega), rfl⟩
    have e1 : (k : Int) + 1 = ((k + 1 : Nat) : Int) := by omega
    have e2 : ((L k : Nat) : Int) + ((L (k + 1) : Nat) : Int) = ((L (k + 2) : Nat) : Int) := by simp only [L]; omega
    rw [e1, e2]
    rfl
  · walk_at "rd"
    exact q k _ (Same.new ht) ⟨hk, by omega⟩
/-! ### width_in -/
def spWidthIn (n : Nat) : Sp := fun vs H Q _ => ∃ v m g, vs = [v, .int (m : Nat)] ∧ GShp H v g ∧ m ≤ n ∧ Q (.int (wIn m g : Nat)) H
abbrev s_width_in : Stmt := (top 23)
theorem sc_width_in : FnScope ["thing", "most", "left", "right"] ["thing", "most"] (defScope s_width_in) := ⟨rfl, rfl, rfl, by decide +kernel, rfl, by decide +kernel, by decide +kernel⟩
theorem b_width_in (T : Txt K mg) (n : Nat) (C_width_in : Cal P w K mg base (n + 0) "width_in" (spPre spWidthIn n)) : Body P w K mg base (n + 0) ["thing", "most", "left", "right"] "width_in" (defScope s_width_in) (defBody s_width_in) (spWidthIn n) := by
  intro f cdv A outer s H vs Q E hr h
  obtain ⟨v, m, g, rfl, hg, hm, q⟩ := h
  have hu := hu_of hr
  have tk : Takes (cxOf (L2.CX P w) P w K mg base ["thing", "most", "left", "right"] "width_in" (defScope s_width_in) f cdv A outer s H E) (fun cls d _ H => E cls d H) := takes_of rfl rfl rfl rfl
  refine ⟨_, (pss_cons (ps_if (pt_cmpR op_isN1 (pv 0) pe_non (nomark _)) (pss_one (ps_ret pe_int)) pss_nil)
    (pss_cons (ps_if (PW.pt (pw_or (pt_cmpR op_eq (pv 1) pe_int (nomark _)) (pw_or (pt_not (pt_val (pe_callB call_isN1 (by rfl) T.g_isinstance (by decide +kernel) (pa_cons (pv 0) (pa_cons (pe_ty "tuple" T.g_tuple) pa_nil))))) (pw_or1 (pt_cmpR op_ne (pe_callB call_lenK (by rfl) T.g_len (by decide +kernel) (pa_cons (pv 0) pa_nil)) pe_int (nomark _)))))) (pss_one (ps_ret pe_int)) pss_nil)
    (pss_cons (ps_set (i := 2) sc_width_in.nd rfl (Or.inl rfl) (pe_cal C_width_in hr (by omega) tk (pa_cons (pe_ix ix_seq (pv 0) pe_int (fun _ _ => rfl)) (pa_cons (pe_op op_sub (pv 1) pe_int) pa_nil))))
    (pss_cons (ps_set (i := 3) sc_width_in.nd rfl (Or.inl rfl) (pe_ifExp (pt_cmpR op_eq (pv 2) pe_int (nomark _)) pe_int (pe_cal C_width_in hr (by omega) tk (pa_cons (pe_ix ix_seq (pv 0) pe_int (fun _ _ => rfl)) (pa_cons (pe_op op_sub (pv 1) pe_int) pa_nil)))))
    (pss_cons (ps_if (PW.pt (pw_or (pt_cmpR op_eq (pv 3) pe_int (nomark _)) (pw_or1 (pt_cmpR op_gt (pe_op op_add (pv 2) (pv 3)) (pe_gint T.g_MOST_NODES) (nomark _))))) (pss_one (ps_ret pe_int)) pss_nil)
    (pss_one (ps_ret (pe_op op_add (pv 2) (pv 3))))))))), ?_⟩
  refine i_start [some _, some _, none, none] (by rfl) ?_
  try dsimp only [cxOf]
  walk_at "rd"
  cases hg with
  | one =>
    walk_at "rd"
    have e : wIn m .one = 1 := by cases m <;> rfl
    rw [e] at q
    exact q
  | @bad _ nn hv hk ht =>
    have e : wIn m .bad = 0 := by cases m <;> rfl
    rw [e] at q
    refine i_isNx hv ?_
    walk_at "rd"
    refine i_dec (fun h0 => ?_) (fun h0 => ?_)
    · walk_at "rd"
      exact q
    · walk_at "rd"
      refine i_inst hk.1 (ty_tuple nn hk.2) ?_
      walk_at "rd"
      cases et : (nn == "tuple") with
      | false =>
        walk_at "rd"
        refine i_T ?_
        exact q
      | true =>
        obtain ⟨a, xs, rfl, ha, hl⟩ := ht (beq_iff_eq.mp et)
        refine i_F ?_
        walk_at "rd"
        refine i_lenT (SqT.of ha) ?_
        walk_at "rd"
        refine i_ndec (fun _ => ?_) (fun z => absurd (by omega) hl)
        walk_at "rd"
        exact q
  | @two a x y l r ha hx hy =>
    walk_at "rd"
    refine i_dec (fun h0 => ?_) (fun h0 => ?_)
    · walk_at "rd"
      have e : m = 0 := by omega
      subst e
      exact q
    · obtain ⟨m', rfl⟩ : ∃ m', m = m' + 1 := ⟨m - 1, by omega⟩
      obtain ⟨n', rfl⟩ : ∃ n', n = n' + 1 := ⟨n - 1, by omega⟩
      have em : ((m' + 1 : Nat) : Int) - 1 = (m' : Nat) := by omega
      walk_at "rd"
      refine i_inst (tyN_tup ha) (ty_tuple "tuple" (by decide)) ?_
      walk_at "rd"
      refine i_F ?_
      walk_at "rd"
      refine i_lenT (SqT.of ha) ?_
      walk_at "rd"
      refine i_ndec (fun z => absurd rfl z) (fun _ => ?_)
      walk_at "rd"
      refine i_ixST (SqT.of ha) rfl ?_
      walk_at "rd"
      rw [em]
      refine ⟨x, m', l, rfl, hx, by omega, ?_⟩
      walk_at "rd"
      refine i_dec (fun hl => ?_) (fun hl => ?_)
      · walk_at "rd"
        refine i_T ?_
        walk_at "rd"
        rw [show wIn (m' + 1) (.two l r) = 0 by simp only [wIn]; exact if_pos (.inl (by omega))] at q
        exact q
      · walk_at "rd"
        refine i_ixST (SqT.of ha) rfl ?_
        walk_at "rd"
        rw [em]
        refine ⟨y, m', r, rfl, hy, by omega, ?_⟩
        walk_at "rd"
        refine i_dec (fun hr2 => ?_) (fun hr2 => ?_)
        · walk_at "rd"
          rw [show wIn (m' + 1) (.two l r) = 0 by simp only [wIn]; exact if_pos (.inr (.inl (by omega)))] at q
          exact q
        · walk_at "rd"
          refine i_dec (fun hs => ?_) (fun hs => ?_)
          · walk_at "rd"
            rw [show wIn (m' + 1) (.two l r) = 0 by simp only [wIn]; exact if_pos (.inr (.inr (by omega)))] at q
            exact q
          · walk_at "rd"
            rw [show wIn (m' + 1) (.two l r) = wIn m' l + wIn m' r by simp only [wIn]; exact if_neg (by omega)] at q
            rw [Int.natCast_add] at q
            exact q
end

end K63

set_option maxHeartbeats 4000000
namespace K63
open PySem PySem.Spec PyProof.Rows L2 KB KM
section
variable {P : Program} {w : World} {K : PySem.W.Frag} {mg : Str → Option Value} {base : Heap}
theorem m_pair (T : Txt K mg) : Met P w K mg base 3 (CB K) "pair" (spPair K) := T.m_Builder_pair.met T.c_Builder sc_Builder_pair (fun vs H Q E h => by obtain ⟨_, _, _, _, _, rfl, _⟩ := h; rfl) (b_pair T (m_Stem T))
theorem c_tallest_of (T : Txt K mg) : Cal P w K mg base 1 "tallest_of" spTallestOf := T.d_tallest_of.cal sc_tallest_of (fun vs H Q E h => by obtain ⟨_, rfl, _⟩ := h; rfl) (b_tallest_of T)
theorem c_width_in (T : Txt K mg) (n : Nat) : Cal P w K mg base (n + 0 + 1) "width_in" (spWidthIn n) := T.d_width_in.rec_ sc_width_in 0 (fun n vs H Q E h => by obtain ⟨_, _, _, rfl, _⟩ := h; rfl) (b_width_in T) n
/-! ### balanced_height -/
def spBalH (n : Nat) : Sp := fun vs H Q _ => ∃ v s, vs = [v] ∧ Shp H v s ∧ hei s ≤ n ∧ Q (.int (bh s)) H
abbrev s_balanced_height : Stmt := (top 24)
theorem sc_balanced_height : FnScope ["shape", "left", "right"] ["shape"] (defScope s_balanced_height) := ⟨rfl, rfl, rfl, by decide +kernel, rfl, by decide +kernel, by decide +kernel⟩
theorem b_balanced_height (T : Txt K mg) (n : Nat) (C_balanced_height : Cal P w K mg base (n + 0) "balanced_height" (spPre spBalH n)) : Body P w K mg base (n + 0) ["shape", "left", "right"] "balanced_height" (defScope s_balanced_height) (defBody s_balanced_height) (spBalH n) := by
  intro f cdv A outer s H vs Q E hr h
  obtain ⟨v, sh, rfl, hs, hm, q⟩ := h
  have hu := hu_of hr
  have tk : Takes (cxOf (L2.CX P w) P w K mg base ["shape", "left", "right"] "balanced_height" (defScope s_balanced_height) f cdv A outer s H E) (fun cls d _ H => E cls d H) := takes_of rfl rfl rfl rfl
  refine ⟨_, (pss_cons (ps_if (pt_cmpR op_isN1 (pv 0) pe_non (nomark _)) (pss_one (ps_ret pe_int)) pss_nil)
    (pss_cons (ps_set (i := 1) sc_balanced_height.nd rfl (Or.inl rfl) (pe_cal C_balanced_height hr (by omega) tk (pa_cons (pe_ix ix_tup (pv 0) pe_int (fun _ _ => rfl)) pa_nil)))
    (pss_cons (ps_set (i := 2) sc_balanced_height.nd rfl (Or.inl rfl) (pe_cal C_balanced_height hr (by omega) tk (pa_cons (pe_ix ix_tup (pv 0) pe_int (fun _ _ => rfl)) pa_nil)))
    (pss_cons (ps_if (PW.pt (pw_or (pt_cmpR op_lt (pe_callB (call_min2K rfl) (by rfl) T.g_min (by decide +kernel) (pa_cons (pv 1) (pa_cons (pv 2) pa_nil))) pe_int (nomark _)) (pw_or1 (pt_cmpR op_gt (pe_callB call_absK (by rfl) T.g_abs (by decide +kernel) (pa_cons (pe_op op_sub (pv 1) (pv 2)) pa_nil)) pe_int (nomark _))))) (pss_one (ps_ret (pe_un un_neg pe_int))) pss_nil)
    (pss_one (ps_ret (pe_op op_add pe_int (pe_callB (call_max2K rfl) (by rfl) T.g_max (by decide +kernel) (pa_cons (pv 1) (pa_cons (pv 2) pa_nil)))))))))), ?_⟩
  refine i_start [some _, none, none] (by rfl) ?_
  try dsimp only [cxOf]
  walk_at "rd"
  cases hs with
  | one =>
    walk_at "rd"
    exact q
  | @two a x y l r ha hx hy =>
    obtain ⟨n', rfl⟩ : ∃ n', n = n' + 1 := ⟨n - 1, by simp only [hei] at hm; omega⟩
    simp only [hei] at hm
    walk_at "rd"
    refine i_ixT (SqT.of ha) rfl ?_
    walk_at "rd"
    refine ⟨x, l, rfl, hx, by omega, ?_⟩
    walk_at "rd"
    refine i_ixT (SqT.of ha) rfl ?_
    walk_at "rd"
    refine ⟨y, r, rfl, hy, by omega, ?_⟩
    walk_at "rd"
    simp only [bh] at q
    refine i_dec (fun h1 => ?_) (fun h1 => ?_)
    · rw [if_pos (.inl h1)] at q
      walk_at "rd"
      exact q
    · walk_at "rd"
      refine i_dec (fun h2 => ?_) (fun h2 => ?_)
      · rw [if_pos (.inr h2)] at q
        walk_at "rd"
        exact q
      · rw [if_neg (by rintro (z | z); exact h1 z; exact h2 z)] at q
        walk_at "rd"
        exact q
theorem c_balanced_height (T : Txt K mg) (n : Nat) : Cal P w K mg base (n + 0 + 1) "balanced_height" (spBalH n) := T.d_balanced_height.rec_ sc_balanced_height 0 (fun n vs H Q E h => by obtain ⟨_, _, rfl, _⟩ := h; rfl) (b_balanced_height T) n
/-! ### stem_of -/
def spStemOf (K : PySem.W.Frag) (n : Nat) : Sp := fun vs H Q _ => ∃ v s, vs = [v] ∧ Shp H v s ∧ hei s ≤ n ∧ ∀ p H', Same H H' → Stm (CS K) H' (.ref p) s → Q (.ref p) H'
abbrev s_stem_of : Stmt := (top 25)
theorem sc_stem_of : FnScope ["shape"] ["shape"] (defScope s_stem_of) := ⟨rfl, rfl, rfl, by decide +kernel, rfl, by decide +kernel, by decide +kernel⟩
theorem b_stem_of (T : Txt K mg) (M_Stem : Mak P w K mg base 1 "Stem" (CS K) (spStem K)) (n : Nat) (C_stem_of : Cal P w K mg base (n + 2) "stem_of" (spPre (spStemOf K) n)) : Body P w K mg base (n + 2) ["shape"] "stem_of" (defScope s_stem_of) (defBody s_stem_of) (spStemOf K n) := by
  intro f cdv A outer s H vs Q E hr h
  obtain ⟨v, sh, rfl, hs, hm, q⟩ := h
  have hu := hu_of hr
  have tk : Takes (cxOf (L2.CX P w) P w K mg base ["shape"] "stem_of" (defScope s_stem_of) f cdv A outer s H E) (fun cls d _ H => E cls d H) := takes_of rfl rfl rfl rfl
  refine ⟨_, (pss_cons (ps_if (pt_cmpR op_isN1 (pv 0) pe_non (nomark _)) (pss_one (ps_ret (pe_mak M_Stem hr (by omega) (pa_cons pe_non (pa_cons pe_non pa_nil))))) pss_nil)
    (pss_one (ps_ret (pe_mak M_Stem hr (by omega) (pa_cons (pe_cal C_stem_of hr (by omega) tk (pa_cons (pe_ix ix_tup (pv 0) pe_int (fun _ _ => rfl)) pa_nil)) (pa_cons (pe_cal C_stem_of hr (by omega) tk (pa_cons (pe_ix ix_tup (pv 0) pe_int (fun _ _ => rfl)) pa_nil)) pa_nil)))))), ?_⟩
  refine i_start [some _] (by rfl) ?_
  try dsimp only [cxOf]
  walk_at "rd"
  cases hs with
  | one =>
    walk_at "rd"
    refine stem_made (s := .one) (.inl ⟨rfl, rfl, rfl⟩) fun p H' _ s1 h1 => ?_
    walk_at "rd"
    exact q p H' s1 h1
  | @two a x y l r ha hx hy =>
    obtain ⟨n', rfl⟩ : ∃ n', n = n' + 1 := ⟨n - 1, by simp only [hei] at hm; omega⟩
    simp only [hei] at hm
    walk_at "rd"
    refine i_ixT (SqT.of ha) rfl ?_
    walk_at "rd"
    refine ⟨x, l, rfl, hx, by omega, fun p1 H1 s1 t1 => ?_⟩
    walk_at "rd"
    refine i_ixT (SqT.of (s1 _ _ ha)) rfl ?_
    walk_at "rd"
    refine ⟨y, r, rfl, hy.mono (Same.tups s1), by omega, fun p2 H2 s2 t2 => ?_⟩
    walk_at "rd"
    refine stem_made (s := .two l r) (.inr ⟨l, r, rfl, t1.mono s2, t2⟩) fun p H' _ s3 h1 => ?_
    walk_at "rd"
    exact q p H' ((s1.trans s2).trans s3) h1
theorem c_stem_of (T : Txt K mg) (n : Nat) : Cal P w K mg base (n + 2 + 1) "stem_of" (spStemOf K n) := T.d_stem_of.rec_ sc_stem_of 2 (fun n vs H Q E h => by obtain ⟨_, _, rfl, _⟩ := h; rfl) (b_stem_of T (m_Stem T)) n
/-! ### shape_of -/
def OStm (C : Addr) (H : Hp) (v : V) : Option Sh → Prop
  | none => v = .non
  | some t => Stm C H v t
def OShp (H : Hp) (v : V) : Option Sh → Prop
  | none => ∃ p, v = .ref p ∧ H p = some (.tup [])
  | some t => Shp H v t
theorem OStm.mono {C : Addr} {H H' : Hp} {v : V} {o : Option Sh} (h : OStm C H v o) (k : Same H H') : OStm C H' v o := by
  cases o with
  | none => exact h
  | some t => exact Stm.mono h k
theorem OShp.mono {H H' : Hp} {v : V} {o : Option Sh} (h : OShp H v o) (k : Tups H H') : OShp H' v o := by
  cases o with
  | none =>
    obtain ⟨p, e, hp⟩ := h
    exact ⟨p, e, k _ _ hp⟩
  | some t => exact Shp.mono h k
def spShapeOf (K : PySem.W.Frag) (n : Nat) : Sp := fun vs H Q _ => ∃ v o, vs = [v] ∧ OStm (CS K) H v o ∧ ohei o ≤ n ∧ ∀ v' H', Same H H' → OShp H' v' o → Q v' H'
abbrev s_shape_of : Stmt := (top 26)
theorem sc_shape_of : FnScope ["tree"] ["tree"] (defScope s_shape_of) := ⟨rfl, rfl, rfl, by decide +kernel, rfl, by decide +kernel, by decide +kernel⟩
theorem b_shape_of (T : Txt K mg) (n : Nat) (C_shape_of : Cal P w K mg base (n + 0) "shape_of" (spPre (spShapeOf K) n)) : Body P w K mg base (n + 0) ["tree"] "shape_of" (defScope s_shape_of) (defBody s_shape_of) (spShapeOf K n) := by
  intro f cdv A outer s H vs Q E hr h
  obtain ⟨v, o, rfl, hs, hm, q⟩ := h
  have hu := hu_of hr
  have tk : Takes (cxOf (L2.CX P w) P w K mg base ["tree"] "shape_of" (defScope s_shape_of) f cdv A outer s H E) (fun cls d _ H => E cls d H) := takes_of rfl rfl rfl rfl
  refine ⟨_, (pss_cons (ps_if (pt_cmpR op_isN1 (pv 0) pe_non (nomark _)) (pss_one (ps_ret (pe_tup pa_nil))) pss_nil)
    (pss_cons (ps_if (pt_cmpR op_eq (pe_fld (pv 0) rfl) pe_int (nomark _)) (pss_one (ps_ret pe_non)) pss_nil)
    (pss_one (ps_ret (pe_tup (pa_cons (pe_cal C_shape_of hr (by omega) tk (pa_cons (pe_fld (pv 0) rfl) pa_nil)) (pa_cons (pe_cal C_shape_of hr (by omega) tk (pa_cons (pe_fld (pv 0) rfl) pa_nil)) pa_nil))))))), ?_⟩
  refine i_start [some _] (by rfl) ?_
  try dsimp only [cxOf]
  walk_at "rd"
  cases o with
  | none =>
    obtain rfl : v = .non := hs
    walk_at "rd"
    refine ⟨Nat.zero_le _, fun p hp => ?_⟩
    walk_at "rd"
    exact q _ _ (Same.new hp) ⟨p, rfl, upd_same⟩
  | some sh =>
    obtain ⟨a, dx, x, y, rfl, ha, hc⟩ := Stm.at_ hs
    walk_at "rd"
    refine i_fldR ha T.c_Stem T.n_Stem_height st_height ?_
    walk_at "rd"
    simp only [ohei] at hm
    rcases hc with ⟨rfl, rfl, rfl⟩ | ⟨l, r, rfl, hl, hr2⟩
    · refine i_dec (fun _ => ?_) (fun z => absurd rfl z)
      walk_at "rd"
      exact q _ H (Same.refl H) .one
    · refine i_dec (fun z => by simp only [hei] at z; omega) (fun _ => ?_)
      obtain ⟨n', rfl⟩ : ∃ n', n = n' + 1 := ⟨n - 1, by simp only [hei] at hm; omega⟩
      simp only [hei] at hm
      walk_at "rd"
      refine i_fldR ha T.c_Stem T.n_Stem_left st_left ?_
      walk_at "rd"
      refine ⟨x, some l, rfl, hl, by simp only [ohei]; omega, fun v1 H1 s1 t1 => ?_⟩
      walk_at "rd"
      refine i_fldR (s1 _ _ ha) T.c_Stem T.n_Stem_right st_right ?_
      walk_at "rd"
      refine ⟨y, some r, rfl, Stm.mono hr2 s1, by simp only [ohei]; omega, fun v2 H2 s2 t2 => ?_⟩
      walk_at "rd"
      refine ⟨by show 2 ≤ sizeLine; decide, fun t ht => ?_⟩
      walk_at "rd"
      have s3 : Same H2 (L2.upd H2 t (.tup [v1, v2])) := Same.new ht
      exact q _ _ ((s1.trans s2).trans s3) (.two upd_same (Shp.mono t1 (Same.tups (s2.trans s3))) (Shp.mono t2 (Same.tups s3)))
theorem c_shape_of (T : Txt K mg) (n : Nat) : Cal P w K mg base (n + 0 + 1) "shape_of" (spShapeOf K n) := T.d_shape_of.rec_ sc_shape_of 0 (fun n vs H Q E h => by obtain ⟨_, _, rfl, _⟩ := h; rfl) (b_shape_of T) n
end

end K63

set_option maxHeartbeats 4000000
namespace K63
open PySem PySem.Spec PyProof.Rows L2 KB KM
section
variable {P : Program} {w : World} {K : PySem.W.Frag} {mg : Str → Option Value} {base : Heap}
/-! ### need_shape, is_balanced, width_of, height_of -/
theorem g_good : ∀ (g : GS) (m : Nat), wIn m g ≠ 0 → ∃ s : Sh, g = s.g ∧ hei s ≤ m ∧ wid s = wIn m g ∧ wid s ≤ 20000
  | .one, m, _ => ⟨.one, rfl, Nat.zero_le _, by cases m <;> rfl, by decide⟩
  | .bad, m, h => by exfalso; apply h; cases m <;> rfl
  | .two l r, 0, h => absurd rfl h
  | .two l r, m + 1, h => by
    simp only [wIn] at h ⊢
    split at h
    · exact absurd rfl h
    · rename_i c
      obtain ⟨a, rfl, h1, h2, h3⟩ := g_good l m (fun z => c (.inl z))
      obtain ⟨b, rfl, h4, h5, h6⟩ := g_good r m (fun z => c (.inr (.inl z)))
      refine ⟨.two a b, rfl, by simp only [hei]; omega, ?_, ?_⟩
      · rw [if_neg c]; simp only [wid]; omega
      · simp only [wid]; omega
theorem gshp_sh {H : Hp} : ∀ (s : Sh) (v : V), GShp H v s.g → Shp H v s
  | .one, _, h => by cases h; exact .one
  | .two l r, _, h => by
    cases h with
    | two a h1 h2 => exact .two a (gshp_sh l _ h1) (gshp_sh r _ h2)
/-- a judge of shapes -/
def spJudge (K : PySem.W.Frag) (f : Sh → V) : Sp := fun vs H Q E => ∃ v g, vs = [v] ∧ GShp H v g ∧ (wIn 40 g = 0 → E (.ref (He.ga K "BadShape")) none H) ∧
  ∀ s, g = s.g → Shp H v s → hei s ≤ 40 → wid s ≤ 20000 → Q (f s) H
abbrev s_need_shape : Stmt := (top 33)
theorem sc_need_shape : FnScope ["shape", "width"] ["shape"] (defScope s_need_shape) := ⟨rfl, rfl, rfl, by decide +kernel, rfl, by decide +kernel, by decide +kernel⟩
theorem b_need_shape (T : Txt K mg) (C_width_in : Cal P w K mg base 41 "width_in" (spWidthIn 40)) : Body P w K mg base (41) ["shape", "width"] "need_shape" (defScope s_need_shape) (defBody s_need_shape) (spJudge K fun s => .int (wid s : Nat)) := by
  intro f cdv A outer s H vs Q E hr h
  obtain ⟨v, g, rfl, hg, q1, q2⟩ := h
  have hu := hu_of hr
  have tk : Takes (cxOf (L2.CX P w) P w K mg base ["shape", "width"] "need_shape" (defScope s_need_shape) f cdv A outer s H E) (fun cls d _ H => E cls d H) := takes_of rfl rfl rfl rfl
  refine ⟨_, (pss_cons (ps_set (i := 1) sc_need_shape.nd rfl (Or.inl rfl) (pe_cal C_width_in hr (by omega) tk (pa_cons (pv 0) (pa_cons (pe_gint T.g_MOST_HEIGHT) pa_nil))))
    (pss_cons (ps_if (pt_cmpR op_eq (pv 1) pe_int (nomark _)) (pss_one (ps_raiseX T.x_BadShape tk)) pss_nil)
    (pss_one (ps_ret (pv 1))))), ?_⟩
  refine i_start [some _, none] (by rfl) ?_
  try dsimp only [cxOf]
  walk_at "rd"
  refine ⟨v, 40, g, rfl, hg, Nat.le_refl _, ?_⟩
  walk_at "rd"
  refine i_dec (fun h => ?_) (fun h => ?_)
  · walk_at "rd"
    exact q1 (by omega)
  · walk_at "rd"
    obtain ⟨sh, e, h1, h2, h3⟩ := g_good g 40 (by omega)
    rw [← h2]
    subst e
    exact q2 sh rfl (gshp_sh sh v hg) h1 h3
theorem c_need_shape (T : Txt K mg) : Cal P w K mg base 42 "need_shape" (spJudge K fun s => .int (wid s : Nat)) := T.d_need_shape.cal sc_need_shape (fun vs H Q E h => by obtain ⟨_, _, rfl, _⟩ := h; rfl) (b_need_shape T (c_width_in T 40))
end

end K63

set_option maxHeartbeats 4000000
namespace K63
open PySem PySem.Spec PyProof.Rows L2 KB KM
set_option exponentiation.threshold 2000
/-! ### the law's draws -/
abbrev ib : Int → Nat := Builtin.Int.intBits
theorem ib_le {x : Int} {m : Nat} (h : x.natAbs < 2 ^ m) : ib x ≤ m := PyProof.Rows.intBits_le h
theorem ib_mono {x y : Int} (h : x.natAbs ≤ y.natAbs) : ib x ≤ ib y := by
  by_cases hx : x = 0
  · subst hx; exact Nat.zero_le _
  · have hy : y ≠ 0 := by omega
    show Builtin.Int.intBits x ≤ Builtin.Int.intBits y
    unfold Builtin.Int.intBits
    rw [if_neg (by simpa using hx), if_neg (by simpa using hy)]
    have h1 : x.natAbs < 2 ^ (y.natAbs.log2 + 1) := Nat.lt_of_le_of_lt h Nat.lt_log2_self
    have h2 := (Nat.log2_lt (by omega)).mpr h1
    omega
theorem mulx {x y : Int} (a b : Nat) (h1 : ib x ≤ a) (h2 : ib y ≤ b) (h : a + b ≤ 134217728) : CMulX x y := by
  unfold CMulX
  have h3 : Builtin.Int.intBits x ≤ a := h1
  have h4 : Builtin.Int.intBits y ≤ b := h2
  omega
/-- what a feed holds behind at most n stirred draws -/
def FdL (n : Nat) (xs : List V) : Prop := ∃ a b c : Int, xs = [.int a, .int b, .int c] ∧ 0 ≤ a ∧ ib a ≤ 1048576 ∧ 0 ≤ b ∧ b < 10 ^ 40 ∧ 0 ≤ c ∧ c ≤ n
theorem FdL.mono {n m : Nat} {xs : List V} (h : FdL n xs) (l : n ≤ m) : FdL m xs := by
  obtain ⟨a, b, c, e, h1, h2, h3, h4, h5, h6⟩ := h
  exact ⟨a, b, c, e, h1, h2, h3, h4, h5, by omega⟩
section
variable {P : Program} {w : World} {K : PySem.W.Frag} {mg : Str → Option Value} {base : Heap}
/-! ### _law_feed -/
def spFeed (K : PySem.W.Frag) : Sp := fun vs H Q _ => ∃ (a : Addr) (ns : List Int) (k : Nat), vs = [.ref a, .int k] ∧ SqL K H a (ns.map V.int) ∧ (∀ z ∈ ns, ib z ≤ 1048576) ∧ k ≤ 100 ∧
  ∀ (p : Addr) (xs : List V) (H' : Hp), H p = none → Same H H' → H' p = some (.lst xs) → FdL 0 xs → Q (.ref p) H'
theorem cut1 (ns : List Int) : cutV (ns.map V.int) none (some 1) = (ns.take 1).map V.int := by
  unfold cutV
  have e := HT.sIx_nat (ns.map V.int).length (ns.map V.int).length 1
  rw [show ((1 : Nat) : Int) = 1 from rfl] at e
  rw [e, HT.sIx_none, List.drop_zero, Nat.sub_zero, List.map_take, List.length_map]
  cases ns with
  | nil => rfl
  | cons z r => simp
theorem sum1 {ns : List Int} (h : ∀ z ∈ ns, ib z ≤ 1048576) : ib (ns.take 1).sum ≤ 1048576 := by
  cases ns with
  | nil => decide
  | cons z r => simpa using h z (by simp)
abbrev s__law_feed : Stmt := (top 38)
theorem sc__law_feed : FnScope ["script", "k", "cell"] ["script", "k"] (defScope s__law_feed) := ⟨rfl, rfl, rfl, by decide +kernel, rfl, by decide +kernel, by decide +kernel⟩
theorem feed_end {cell : Int} {k : Nat} (h : ∃ z : Int, ib z ≤ 1048576 ∧ z ≤ cell ∧ cell ≤ z + 100000) :
    FdL 0 [.int (max 0 (cell - 10 ^ (18 : Int).toNat)), .int ((cell * 19 + 7 * (k : Int)) % (10 ^ (39 : Int).toNat + 23)), .int 0] := by
  obtain ⟨z, h1, h2, h3⟩ := h
  refine ⟨_, _, _, rfl, by omega, ?_, Int.emod_nonneg _ (by decide +kernel), ?_, by omega, by omega⟩
  · refine Nat.le_trans (ib_mono ?_) h1
    rw [show (10 : Int) ^ (18 : Int).toNat = 1000000000000000000 by decide +kernel]
    omega
  · exact Int.lt_trans (Int.emod_lt_of_pos _ (by decide +kernel)) (by decide +kernel)
theorem b_feed (T : Txt K mg) : Body P w K mg base (0) ["script", "k", "cell"] "_law_feed" (defScope s__law_feed) (defBody s__law_feed) (spFeed K) := by
  intro f cdv A outer s H vs Q E hr h
  obtain ⟨a, ns, k, rfl, hS, hb, hk, q⟩ := h
  have hu := hu_of hr
  have tk : Takes (cxOf (L2.CX P w) P w K mg base ["script", "k", "cell"] "_law_feed" (defScope s__law_feed) f cdv A outer s H E) (fun cls d _ H => E cls d H) := takes_of rfl rfl rfl rfl
  refine ⟨_, (pss_cons (ps_set (i := 2) sc__law_feed.nd rfl (Or.inl rfl) (pe_op op_add (pe_op op_mul pe_int (pv 1)) (pe_callB (cr_sum rfl) (by rfl) T.g_sum (by decide +kernel) (pa_cons (pe_slice sl_list (pv 0) po_none (po_some pe_int)) pa_nil))))
    (pss_cons (ps_if (pt_cmpR op_lt (pv 1) (pe_callB call_lenK (by rfl) T.g_len (by decide +kernel) (pa_cons (pv 0) pa_nil)) (nomark _)) (pss_one (ps_set (i := 2) sc__law_feed.nd rfl (Or.inl rfl) (pe_ix ix_list (pv 0) (pv 1) (fun _ _ => rfl)))) pss_nil)
    (pss_one (ps_ret (pe_lst (pa_cons (pe_callB (call_max2K rfl) (by rfl) T.g_max (by decide +kernel) (pa_cons pe_int (pa_cons (pe_op op_sub (pv 2) (pe_op op_pow pe_int pe_int)) pa_nil))) (pa_cons (pe_op op_mod (pe_callTy call_int1K (by rfl) T.g_int (by decide +kernel) (pa_cons (pe_op op_add (pe_op op_mul (pv 2) pe_int) (pe_op op_mul pe_int (pv 1))) pa_nil)) (pe_op op_add (pe_op op_pow pe_int pe_int) pe_int)) (pa_cons pe_int pa_nil)))))))), ?_⟩
  refine i_start [some _, some _, none] (by rfl) ?_
  try dsimp only [cxOf]
  walk_at "rd"
  refine i_rI (.inl ⟨by decide, by decide⟩) ?_
  walk_at "rd"
  refine ⟨a, _, rfl, hS, fun sl hsl => ?_⟩
  walk_at "rd"
  rw [cut1]
  refine ⟨sl, ns.take 1, rfl, SqL.of upd_same, ?_⟩
  walk_at "rd"
  have s1 : Same H (L2.upd H sl (.lst ((ns.take 1).map V.int))) := Same.new hsl
  refine i_lenL (s1.seq hS) ?_
  walk_at "rd"
  have fin : ∀ cell : Int, (∃ z : Int, ib z ≤ 1048576 ∧ z ≤ cell ∧ cell ≤ z + 100000) → ∀ p, L2.upd H sl (.lst ((ns.take 1).map V.int)) p = none →
      Q (.ref p) (L2.upd (L2.upd H sl (.lst ((ns.take 1).map V.int))) p (.lst [.int (max 0 (cell - 10 ^ (18 : Int).toNat)), .int ((cell * 19 + 7 * (k : Int)) % (10 ^ (39 : Int).toNat + 23)), .int 0])) :=
    fun cell hc p hp => q p _ _ (s1.free hp) (s1.trans (Same.new hp)) upd_same (feed_end hc)
  refine i_dec (fun hl => ?_) (fun hl => ?_)
  · rw [List.length_map] at hl
    have hk2 : k < ns.length := by omega
    walk_at "rd"
    refine i_ixL (s1.seq hS) (atI_nat (v := .int ns[k]) (by rw [List.getElem?_map, List.getElem?_eq_getElem hk2]; rfl)) ?_
    walk_at "rd"
    refine i_rI ⟨by decide, by decide, by decide⟩ ?_
    walk_at "rd"
    refine i_rI (.inr ⟨by decide, by decide⟩) ?_
    walk_at "rd"
    refine i_rI (.inl ⟨by decide, by decide⟩) ?_
    walk_at "rd"
    refine i_rI ⟨by decide, by decide, by decide⟩ ?_
    walk_at "rd"
    refine i_rI (by decide +kernel) ?_
    walk_at "rd"
    refine ⟨by show 3 ≤ sizeLine; decide, ?_⟩
    exact fin ns[k] ⟨ns[k], hb _ (List.getElem_mem hk2), by omega, by omega⟩
  · walk_at "rd"
    refine i_rI ⟨by decide, by decide, by decide⟩ ?_
    walk_at "rd"
    refine i_rI (.inr ⟨by decide, by decide⟩) ?_
    walk_at "rd"
    refine i_rI (.inl ⟨by decide, by decide⟩) ?_
    walk_at "rd"
    refine i_rI ⟨by decide, by decide, by decide⟩ ?_
    walk_at "rd"
    refine i_rI (by decide +kernel) ?_
    walk_at "rd"
    refine ⟨by show 3 ≤ sizeLine; decide, ?_⟩
    exact fin _ ⟨(ns.take 1).sum, sum1 hb, by omega, by omega⟩
/-! ### _law_draw -/
def spDraw : Sp := fun vs H Q _ => ∃ fd many n xs, vs = [.ref fd, .int many] ∧ H fd = some (.lst xs) ∧ FdL n xs ∧ 0 < many ∧ many ≤ 10 ^ 70 ∧ n < 1000000 ∧
  ∀ g ys, 0 ≤ g → g < many → FdL (n + 1) ys → Q (.int g) (L2.upd H fd (.lst ys))
abbrev s__law_draw : Stmt := (top 39)
theorem sc__law_draw : FnScope ["feed", "many", "rest", "got", "stir"] ["feed", "many"] (defScope s__law_draw) := ⟨rfl, rfl, rfl, by decide +kernel, rfl, by decide +kernel, by decide +kernel⟩
theorem b_draw (T : Txt K mg) : Body P w K mg base (0) ["feed", "many", "rest", "got", "stir"] "_law_draw" (defScope s__law_draw) (defBody s__law_draw) spDraw := by
  intro f cdv A outer s H vs Q E hr h
  obtain ⟨fd, many, n, xs, rfl, hf, ⟨a, b, c, rfl, ha, hab, hb, hb2, hc, hcn⟩, hm, hm2, hn, q⟩ := h
  have hu := hu_of hr
  have tk : Takes (cxOf (L2.CX P w) P w K mg base ["feed", "many", "rest", "got", "stir"] "_law_draw" (defScope s__law_draw) f cdv A outer s H E) (fun cls d _ H => E cls d H) := takes_of rfl rfl rfl rfl
  refine ⟨_, (pss_cons (ps_if (pt_cmpR op_gt (pe_ix ix_list (pv 0) pe_int (fun _ _ => rfl)) pe_int (nomark _)) (pss_cons (ps_set (i := 2) sc__law_draw.nd rfl (Or.inl rfl) (pe_op op_fdivW (pe_ix ix_list (pv 0) pe_int (fun _ _ => rfl)) (pv 1)))
    (pss_cons (ps_set (i := 3) sc__law_draw.nd rfl (Or.inl rfl) (pe_op op_sub (pe_ix ix_list (pv 0) pe_int (fun _ _ => rfl)) (pe_op op_mulX (pv 2) (pv 1))))
    (pss_cons (ps_asg (pv 2) (pg_sub (pv 0) pe_int set_list))
    (pss_one (ps_ret (pv 3)))))) pss_nil)
    (pss_cons (ps_asg (pe_op op_add (pe_ix ix_list (pv 0) pe_int (fun _ _ => rfl)) pe_int) (pg_sub (pv 0) pe_int set_list))
    (pss_cons (ps_set (i := 4) sc__law_draw.nd rfl (Or.inl rfl) (pe_op op_add (pe_ix ix_list (pv 0) pe_int (fun _ _ => rfl)) (pe_op op_mul pe_int (pe_ix ix_list (pv 0) pe_int (fun _ _ => rfl)))))
    (pss_cons (ps_set (i := 4) sc__law_draw.nd rfl (Or.inl rfl) (pe_op op_mod (pe_callTy call_int1K (by rfl) T.g_int (by decide +kernel) (pa_cons (pe_op op_add (pe_op op_mulX (pe_op op_mulX (pv 4) (pv 4)) (pv 4)) (pe_op op_mul pe_int (pe_ix ix_list (pv 0) pe_int (fun _ _ => rfl)))) pa_nil)) (pe_op op_add (pe_op op_pow pe_int pe_int) pe_int)))
    (pss_cons (ps_set (i := 4) sc__law_draw.nd rfl (Or.inl rfl) (pe_op op_mod (pe_callTy call_int1K (by rfl) T.g_int (by decide +kernel) (pa_cons (pe_op op_add (pe_op op_mulX (pv 4) (pv 4)) pe_int) pa_nil)) (pe_op op_add (pe_op op_pow pe_int pe_int) pe_int)))
    (pss_one (ps_ret (pe_op op_mod (pe_callTy call_int1K (by rfl) T.g_int (by decide +kernel) (pa_cons (pe_op op_fdivW (pv 4) (pe_op op_pow pe_int pe_int)) pa_nil)) (pv 1))))))))), ?_⟩
  refine i_start [some _, some _, none, none, none] (by rfl) ?_
  try dsimp only [cxOf]
  walk_at "rd"
  have mN : many.natAbs < 2 ^ 240 := Nat.lt_of_le_of_lt (show many.natAbs ≤ 10 ^ 70 by omega) (by decide +kernel)
  refine i_ixL (SqL.of hf) rfl ?_
  walk_at "rd"
  refine i_dec (fun h1 => ?_) (fun h1 => ?_)
  · walk_at "rd"
    refine i_ixL (SqL.of hf) rfl ?_
    walk_at "rd"
    refine i_rI (wide_div hm mN (by decide) (by decide)) ?_
    walk_at "rd"
    refine i_ixL (SqL.of hf) rfl ?_
    walk_at "rd"
    have d0 : 0 ≤ a / many := Int.ediv_nonneg ha (by omega)
    have d1 : a / many ≤ a := Int.ediv_le_self _ ha
    have db : ib (a / many) ≤ 1048576 := Nat.le_trans (ib_mono (by omega)) hab
    have mb := ib_le mN
    refine i_rI (mulx 1048576 240 db mb (by decide)) ?_
    walk_at "rd"
    refine i_setL hf rfl ?_
    walk_at "rd"
    have e : a - a / many * many = a % many := by rw [Int.emod_def, Int.mul_comm]
    rw [e]
    exact q _ _ (Int.emod_nonneg _ (by omega)) (Int.emod_lt_of_pos _ hm) ⟨a / many, b, c, rfl, d0, db, hb, hb2, hc, by omega⟩
  · walk_at "rd"
    refine i_ixL (SqL.of hf) rfl ?_
    walk_at "rd"
    refine i_setL hf rfl ?_
    walk_at "rd"
    refine i_ixL (SqL.of upd_same) rfl ?_
    walk_at "rd"
    refine i_ixL (SqL.of upd_same) rfl ?_
    walk_at "rd"
    refine i_rI (.inl ⟨by decide, by decide⟩) ?_
    walk_at "rd"
    generalize hst : b + 6700417 * (c + 1) = st
    have st1 : ib st ≤ 200 := ib_le (Nat.lt_of_le_of_lt (show st.natAbs ≤ 10 ^ 41 by omega) (by decide +kernel))
    have st2 : ib (st * st) ≤ 400 := by
      refine ib_le ?_
      have h2 : st.natAbs < 2 ^ 200 := Nat.lt_of_le_of_lt (show st.natAbs ≤ 10 ^ 41 by omega) (by decide +kernel)
      exact wide_lt (a := 200) (b := 200) h2 h2
    refine i_rI (mulx 200 200 st1 st1 (by decide)) ?_
    walk_at "rd"
    refine i_rI (mulx 400 200 st2 st1 (by decide)) ?_
    walk_at "rd"
    refine i_ixL (SqL.of upd_same) rfl ?_
    walk_at "rd"
    refine i_rI (.inl ⟨by decide, by decide⟩) ?_
    walk_at "rd"
    refine i_rI ⟨by decide, by decide, by decide⟩ ?_
    walk_at "rd"
    refine i_rI (by decide +kernel) ?_
    walk_at "rd"
    generalize hs2 : (st * st * st + 15485863 * (c + 1)) % (10 ^ (43 : Int).toNat + 57) = s2
    have s20 : 0 ≤ s2 := by rw [← hs2]; exact Int.emod_nonneg _ (by decide +kernel)
    have s21 : s2 < 10 ^ (43 : Int).toNat + 57 := by rw [← hs2]; exact Int.emod_lt_of_pos _ (by decide +kernel)
    rw [show (10 : Int) ^ (43 : Int).toNat + 57 = 10 ^ 43 + 57 by decide +kernel] at s21
    have s2b : ib s2 ≤ 200 := ib_le (Nat.lt_of_le_of_lt (show s2.natAbs ≤ 10 ^ 44 by omega) (by decide +kernel))
    refine i_rI (mulx 200 200 s2b s2b (by decide)) ?_
    walk_at "rd"
    refine i_rI ⟨by decide, by decide, by decide⟩ ?_
    walk_at "rd"
    refine i_rI (by decide +kernel) ?_
    walk_at "rd"
    refine i_rI ⟨by decide, by decide, by decide⟩ ?_
    walk_at "rd"
    refine i_rI (show CDivW _ (10 ^ (9 : Int).toNat) from ⟨by decide +kernel, by decide +kernel⟩) ?_
    walk_at "rd"
    refine i_rI hm ?_
    walk_at "rd"
    exact q _ _ (Int.emod_nonneg _ (by omega)) (Int.emod_lt_of_pos _ hm) ⟨a, b, c + 1, rfl, ha, hab, hb, hb2, by omega, by omega⟩
end

end K63

set_option maxHeartbeats 4000000
namespace K63
open PySem PySem.Spec PyProof.Rows L2 KB KM
section
variable {P : Program} {w : World} {K : PySem.W.Frag} {mg : Str → Option Value} {base : Heap}
theorem c_feed (T : Txt K mg) : Cal P w K mg base 1 "_law_feed" (spFeed K) := T.d__law_feed.cal sc__law_feed (fun vs H Q E h => by obtain ⟨_, _, _, rfl, _⟩ := h; rfl) (b_feed T)
theorem c_draw (T : Txt K mg) : Cal P w K mg base 1 "_law_draw" spDraw := T.d__law_draw.cal sc__law_draw (fun vs H Q E h => by obtain ⟨_, _, _, _, rfl, _⟩ := h; rfl) (b_draw T)
/-! ### _law_one -/
def spOne : Sp := fun vs H Q _ => ∃ fd th n xs ys, vs = [.ref fd, .ref th] ∧ H fd = some (.lst xs) ∧ FdL n xs ∧ n < 1000000 ∧ H th = some (.lst ys) ∧ th ≠ fd ∧ ys ≠ [] ∧ ys.length ≤ 100000 ∧
  ∀ v zs, v ∈ ys → FdL (n + 1) zs → Q v (L2.upd H fd (.lst zs))
abbrev s__law_one : Stmt := (top 40)
theorem sc__law_one : FnScope ["feed", "things"] ["feed", "things"] (defScope s__law_one) := ⟨rfl, rfl, rfl, by decide +kernel, rfl, by decide +kernel, by decide +kernel⟩
theorem b_one (T : Txt K mg) (C__law_draw : Cal P w K mg base 1 "_law_draw" spDraw) : Body P w K mg base (1) ["feed", "things"] "_law_one" (defScope s__law_one) (defBody s__law_one) spOne := by
  intro f cdv A outer s H vs Q E hr h
  obtain ⟨fd, th, n, xs, ys, rfl, hf, hF, hn, ht, ne, hy, hl, q⟩ := h
  have hu := hu_of hr
  have tk : Takes (cxOf (L2.CX P w) P w K mg base ["feed", "things"] "_law_one" (defScope s__law_one) f cdv A outer s H E) (fun cls d _ H => E cls d H) := takes_of rfl rfl rfl rfl
  refine ⟨_, (pss_one (ps_ret (pe_ix ix_list (pv 1) (pe_cal C__law_draw hr (by omega) tk (pa_cons (pv 0) (pa_cons (pe_callB call_lenK (by rfl) T.g_len (by decide +kernel) (pa_cons (pv 1) pa_nil)) pa_nil))) (fun _ _ => rfl)))), ?_⟩
  refine i_start [some _, some _] (by rfl) ?_
  try dsimp only [cxOf]
  have hp : 0 < ys.length := List.length_pos_iff.mpr hy
  walk_at "rd"
  refine i_lenL (SqL.of ht) ?_
  walk_at "rd"
  refine ⟨fd, _, n, xs, rfl, hf, hF, by omega, by omega, hn, fun g zs g0 g1 hz => ?_⟩
  walk_at "rd"
  have hg : g.toNat < ys.length := by omega
  have eg : g = ((g.toNat : Nat) : Int) := by omega
  rw [eg]
  refine i_ixL (SqL.of ((upd_ne ne).trans ht)) (atI_nat (List.getElem?_eq_getElem hg)) ?_
  walk_at "rd"
  exact q _ zs (List.getElem_mem hg) hz
theorem c_one (T : Txt K mg) : Cal P w K mg base 2 "_law_one" spOne := T.d__law_one.cal sc__law_one (fun vs H Q E h => by obtain ⟨_, _, _, _, _, rfl, _⟩ := h; rfl) (b_one T (c_draw T))
/-! ### _law_least -/
def spLeast : Sp := fun vs H Q _ => ∃ n : Nat, vs = [.int n] ∧ n < 2 ^ 60 ∧ ∀ H', Same H H' → Q (.int (L n : Nat)) H'
abbrev s__law_least : Stmt := (top 41)
theorem sc__law_least : FnScope ["height", "least", "more", "turn"] ["height"] (defScope s__law_least) := ⟨rfl, rfl, rfl, by decide +kernel, rfl, by decide +kernel, by decide +kernel⟩
theorem b_least (T : Txt K mg) : Body P w K mg base (0) ["height", "least", "more", "turn"] "_law_least" (defScope s__law_least) (defBody s__law_least) spLeast := by
  intro f cdv A outer s H vs Q E hr h
  obtain ⟨n, rfl, hn, q⟩ := h
  have hu := hu_of hr
  have tk : Takes (cxOf (L2.CX P w) P w K mg base ["height", "least", "more", "turn"] "_law_least" (defScope s__law_least) f cdv A outer s H E) (fun cls d _ H => E cls d H) := takes_of rfl rfl rfl rfl
  refine ⟨_, (pss_cons (ps_asg (pe_tup (pa_cons pe_int (pa_cons pe_int pa_nil))) (pg_tup (n := 2) (by rfl) (pgs_cons (pg_name (i := 1) sc__law_least.nd rfl (Or.inl rfl)) (pgs_cons (pg_name (i := 2) sc__law_least.nd rfl (Or.inl rfl)) pgs_nil))))
    (pss_cons (ps_for (passes_of rfl) rfl (pi_range1 rfl T.g_range (pa_cons (pv 0) pa_nil)) (pg_name (i := 3) sc__law_least.nd rfl (Or.inl rfl)) (pss_one (ps_par (i := 1) (j := 2) (by rfl) sc__law_least.nd rfl rfl (by decide) rfl rfl (pa_cons (pv 2) (pa_cons (pe_op op_add (pv 1) (pv 2)) pa_nil)) (by rfl))))
    (pss_one (ps_ret (pv 1))))), ?_⟩
  refine i_start [some _, none, none, none] (by rfl) ?_
  try dsimp only [cxOf]
  walk_at "rd"
  refine ⟨by show 2 ≤ sizeLine; decide, fun t ht => ?_⟩
  walk_at "rd"
  refine ⟨t, _, rfl, SqT.of upd_same, rfl, ?_⟩
  walk_at "rd"
  refine ⟨n, rfl, by omega, by omega, ?_⟩
  refine for_range (lo := 0) (n := ((n : Int)).toNat) (fun i s h => ∃ z, s = [some (.int n), some (.int (L i : Nat)), some (.int (L (i + 1) : Nat)), z] ∧ h = L2.upd H t (.tup [.int 1, .int 2])) ⟨none, rfl, rfl⟩ ?_ ?_
  · rintro i s h hi ⟨z, rfl, rfl⟩
    walk_at "rd"
    have e2 : ((L i : Nat) : Int) + ((L (i + 1) : Nat) : Int) = ((L (i + 2) : Nat) : Int) := by simp only [L]; omega
    rw [e2]
    exact ⟨_, rfl, rfl⟩
  · rintro s h ⟨z, rfl, rfl⟩
    rw [Int.toNat_natCast]
    walk_at "rd"
    exact q _ (Same.new ht)
theorem c_least (T : Txt K mg) : Cal P w K mg base 1 "_law_least" spLeast := T.d__law_least.cal sc__law_least (fun vs H Q E h => by obtain ⟨_, rfl, _⟩ := h; rfl) (b_least T)
/-! ### _law_tallest -/
def spLTallest : Sp := fun vs H Q _ => ∃ n : Nat, vs = [.int n] ∧ n ≤ 100000 ∧ ∀ (h : Nat) H', Same H H' → Tl n h → Q (.int h) H'
theorem L_big : ∀ n, n < L n := by
  intro n
  induction n with
  | zero => decide
  | succ n ih => have := L_lt n; omega
abbrev s__law_tallest : Stmt := (top 42)
theorem sc__law_tallest : FnScope ["width", "height"] ["width"] (defScope s__law_tallest) := ⟨rfl, rfl, rfl, by decide +kernel, rfl, by decide +kernel, by decide +kernel⟩
theorem b_ltallest (T : Txt K mg) (C__law_least : Cal P w K mg base 1 "_law_least" spLeast) : Body P w K mg base (1) ["width", "height"] "_law_tallest" (defScope s__law_tallest) (defBody s__law_tallest) spLTallest := by
  intro f cdv A outer s H vs Q E hr h
  obtain ⟨n, rfl, hn, q⟩ := h
  have hu := hu_of hr
  have tk : Takes (cxOf (L2.CX P w) P w K mg base ["width", "height"] "_law_tallest" (defScope s__law_tallest) f cdv A outer s H E) (fun cls d _ H => E cls d H) := takes_of rfl rfl rfl rfl
  refine ⟨_, (pss_cons (ps_set (i := 1) sc__law_tallest.nd rfl (Or.inl rfl) pe_int)
    (pss_cons (ps_while (passes_of rfl) (pt_cmpR op_le (pe_cal C__law_least hr (by omega) tk (pa_cons (pe_op op_add (pv 1) pe_int) pa_nil)) (pv 0) (nomark _)) (pss_one (ps_set (i := 1) sc__law_tallest.nd rfl (Or.inl rfl) (pe_op op_add (pv 1) pe_int))))
    (pss_one (ps_ret (pv 1))))), ?_⟩
  refine i_start [some _, none] (by rfl) ?_
  try dsimp only [cxOf]
  walk_at "rd"
  refine i_whileR (fun m s h => ∃ k : Nat, s = [some (.int n), some (.int k)] ∧ Same H h ∧ (k = 0 ∨ L k ≤ n) ∧ m = n + 1 - L (k + 1)) (n + 1 - L 1) ⟨0, rfl, Same.refl H, .inl rfl, rfl⟩ ?_
  rintro m s h ⟨k, rfl, s1, hk, rfl⟩
  walk_at "rd"
  have kb : k ≤ n := by have := L_big k; rcases hk with e | e <;> omega
  refine ⟨k + 1, by rw [Int.natCast_add]; rfl, by omega, fun H2 s2 => ?_⟩
  walk_at "rd"
  refine i_dec (fun c => ?_) (fun c => ?_)
  · refine i_more ?_
    walk_at "rd"
    have lt : L (k + 1) < L (k + 2) := L_lt (k + 1)
    refine ⟨n + 1 - L (k + 2), by omega, k + 1, ?_, s1.trans s2, .inr (by omega), rfl⟩
    rw [Int.natCast_add]
    rfl
  · walk_at "rd"
    exact q k H2 (s1.trans s2) ⟨hk, by omega⟩
theorem c_ltallest (T : Txt K mg) : Cal P w K mg base 2 "_law_tallest" spLTallest := T.d__law_tallest.cal sc__law_tallest (fun vs H Q E h => by obtain ⟨_, rfl, _⟩ := h; rfl) (b_ltallest T (c_least T))
end

end K63

set_option maxHeartbeats 4000000
namespace K63
open PySem PySem.Spec PyProof.Rows L2 KB KM
/-- all but one object stays -/
def SameX (f : Addr) (H H' : Hp) : Prop := ∀ b o, b ≠ f → H b = some o → H' b = some o
theorem SameX.refl (f : Addr) (H : Hp) : SameX f H H := fun _ _ _ h => h
theorem SameX.trans {f : Addr} {H H1 H2 : Hp} (a : SameX f H H1) (b : SameX f H1 H2) : SameX f H H2 := fun c o n h => b c o n (a c o n h)
theorem SameX.of {f : Addr} {H H' : Hp} (a : Same H H') : SameX f H H' := fun c o _ h => a c o h
theorem SameX.upd {f : Addr} {H : Hp} {o : HO} : SameX f H (L2.upd H f o) := fun c u n h => (upd_ne n).trans h
theorem SameX.new {f p : Addr} {H H' : Hp} {o : HO} (a : SameX f H H') (hp : H' p = none) : SameX f H (L2.upd H' p o) := fun c u n h => by
  have e := a c u n h
  rw [upd_ne (ne_of_none e hp)]
  exact e
theorem SameX.tups {f : Addr} {H H' : Hp} {xs : List V} (a : SameX f H H') (h : H f = some (.lst xs)) : Tups H H' := fun b ys e => a b _ (ne_of e h (by intro z; cases z)) e
/-- the three ways down -/
def prs (h : Int) : List (Int × Int) := [(h - 1, h - 1), (h - 1, h - 2), (h - 2, h - 1)]
/-- a way as it lies in the list -/
def WayAt (w h : Nat) (H : Hp) (v : V) : Prop := ∃ (t : Addr) (l r : Nat) (lo hi : Int), v = .ref t ∧ H t = some (.tup [.int l, .int r, .int lo, .int hi]) ∧ l ≤ r + 1 ∧ r ≤ l + 1 ∧ h = 1 + max l r ∧ lo ≤ hi ∧ 0 ≤ lo ∧ hi ≤ w ∧
  ∀ first : Nat, lo ≤ first → (first : Int) ≤ hi → Fit first l ∧ first ≤ w ∧ Fit (w - first) r
theorem WayAt.mono {w h : Nat} {H H' : Hp} {v : V} (x : WayAt w h H v) (k : Tups H H') : WayAt w h H' v := by
  obtain ⟨t, l, r, lo, hi, e, ht, z⟩ := x
  exact ⟨t, l, r, lo, hi, e, k _ _ ht, z⟩
/-- a way is let -/
def Adm (w : Nat) (p : Int × Int) : Prop := 0 ≤ p.1 ∧ 0 ≤ p.2 ∧ max ((L p.1.toNat : Nat) : Int) ((w : Int) - 1 * 2 ^ p.2.toNat) ≤ min (1 * 2 ^ p.1.toNat) ((w : Int) - ((L p.2.toNat : Nat) : Int))
theorem pow_cast (n : Nat) : ((2 : Int) ^ n) = ((2 ^ n : Nat) : Int) := by rw [Int.natCast_pow]; rfl
theorem adm_there {w h : Nat} (f : Fit w (h + 1)) : ∃ j p, j < 2 ∧ (prs ((h + 1 : Nat) : Int))[j]? = some p ∧ Adm w p := by
  have L1 := L_le_pow h
  have P1 := L_pos h
  rcases way_there f with ⟨a, b, c⟩ | ⟨g, rfl, a, b⟩
  · refine ⟨0, _, by omega, rfl, ?_⟩
    have e : (((h + 1 : Nat) : Int) - 1).toNat = h := by omega
    refine ⟨by omega, by omega, ?_⟩
    show max ((L (((h + 1 : Nat) : Int) - 1).toNat : Nat) : Int) ((w : Int) - 1 * 2 ^ (((h + 1 : Nat) : Int) - 1).toNat) ≤ min (1 * 2 ^ (((h + 1 : Nat) : Int) - 1).toNat) ((w : Int) - ((L (((h + 1 : Nat) : Int) - 1).toNat : Nat) : Int))
    rw [e, pow_cast]
    omega
  · refine ⟨1, _, by omega, rfl, ?_⟩
    have e : (((g + 1 + 1 : Nat) : Int) - 1).toNat = g + 1 := by omega
    have e2 : (((g + 1 + 1 : Nat) : Int) - 2).toNat = g := by omega
    have L2 := L_le_pow g
    refine ⟨by show (0 : Int) ≤ ((g + 1 + 1 : Nat) : Int) - 1; omega, by show (0 : Int) ≤ ((g + 1 + 1 : Nat) : Int) - 2; omega, ?_⟩
    show max ((L (((g + 1 + 1 : Nat) : Int) - 1).toNat : Nat) : Int) ((w : Int) - 1 * 2 ^ (((g + 1 + 1 : Nat) : Int) - 2).toNat) ≤ min (1 * 2 ^ (((g + 1 + 1 : Nat) : Int) - 1).toNat) ((w : Int) - ((L (((g + 1 + 1 : Nat) : Int) - 2).toNat : Nat) : Int))
    rw [e, e2, pow_cast, pow_cast]
    omega
theorem way_of {w h : Nat} {j : Nat} {p : Int × Int} (hp : (prs (h : Int))[j]? = some p) (h0 : 0 ≤ p.1) (h1 : 0 ≤ p.2) {H : Hp} {t : Addr} {lo hi : Int} (elo : lo = max ((L p.1.toNat : Nat) : Int) ((w : Int) - 1 * 2 ^ p.2.toNat))
    (ehi : hi = min (1 * 2 ^ p.1.toNat) ((w : Int) - ((L p.2.toNat : Nat) : Int))) (le : lo ≤ hi) (ht : H t = some (.tup [.int p.1, .int p.2, .int lo, .int hi])) : WayAt w h H (.ref t) := by
  have k : p.1.toNat ≤ p.2.toNat + 1 ∧ p.2.toNat ≤ p.1.toNat + 1 ∧ h = 1 + max p.1.toNat p.2.toNat := by
    match j, hp with
    | 0, hp => cases hp; simp only at h0 h1 ⊢; omega
    | 1, hp => cases hp; simp only at h0 h1 ⊢; omega
    | 2, hp => cases hp; simp only at h0 h1 ⊢; omega
    | j + 3, hp => simp [prs] at hp
  refine ⟨t, p.1.toNat, p.2.toNat, lo, hi, rfl, by rw [Int.toNat_of_nonneg h0, Int.toNat_of_nonneg h1]; exact ht, k.1, k.2.1, k.2.2, le, ?_, ?_, fun first a b => ?_⟩
  · have := L_pos p.1.toNat; omega
  · omega
  · rw [pow_cast] at elo ehi
    exact ⟨⟨by omega, by omega⟩, by omega, ⟨by omega, by omega⟩⟩
section
variable {P : Program} {w : World} {K : PySem.W.Frag} {mg : Str → Option Value} {base : Heap}
/-! ### _law_balanced -/
def spBalanced (n : Nat) : Sp := fun vs H Q _ => ∃ (fd : Addr) (wd h m : Nat) (xs : List V), vs = [.ref fd, .int wd, .int h] ∧ H fd = some (.lst xs) ∧ FdL m xs ∧ Fit wd h ∧ h ≤ n ∧ h ≤ 40 ∧ wd ≤ 100000 ∧ m + 2 * wd ≤ 999000 ∧
  ∀ v s zs H', SameX fd H H' → H' fd = some (.lst zs) → FdL (m + 2 * wd - 2) zs → Shp H' v s → bal s → wid s = wd → hei s = h → Q v H'
abbrev s__law_balanced : Stmt := (top 43)
theorem sc__law_balanced : FnScope ["feed", "width", "height", "ways", "left", "right", "low", "high", "first"] ["feed", "width", "height"] (defScope s__law_balanced) := ⟨rfl, rfl, rfl, by decide +kernel, rfl, by decide +kernel, by decide +kernel⟩
theorem b_balanced (T : Txt K mg) (C__law_least : Cal P w K mg base 1 "_law_least" spLeast) (C__law_one : Cal P w K mg base 2 "_law_one" spOne) (C__law_draw : Cal P w K mg base 1 "_law_draw" spDraw) (n : Nat)
    (C__law_balanced : Cal P w K mg base (n + 2) "_law_balanced" (spPre spBalanced n)) : Body P w K mg base (n + 2) ["feed", "width", "height", "ways", "left", "right", "low", "high", "first"] "_law_balanced" (defScope s__law_balanced) (defBody s__law_balanced) (spBalanced n) := by
  intro f cdv A outer s H vs Q E hr h
  obtain ⟨fd, wd, h, m, xs, rfl, hf, hF, fit, hn, h40, hw, hm, q⟩ := h
  have hu := hu_of hr
  have tk : Takes (cxOf (L2.CX P w) P w K mg base ["feed", "width", "height", "ways", "left", "right", "low", "high", "first"] "_law_balanced" (defScope s__law_balanced) f cdv A outer s H E) (fun cls d _ H => E cls d H) := takes_of rfl rfl rfl rfl
  refine ⟨_, (pss_cons (ps_if (pt_cmpR op_eq (pv 2) pe_int (nomark _)) (pss_one (ps_ret pe_non)) pss_nil)
    (pss_cons (ps_set (i := 3) sc__law_balanced.nd rfl (Or.inl rfl) (pe_lst pa_nil))
    (pss_cons (ps_for (passes_of rfl) rfl (pi_list (pe_lst (pa_cons (pe_tup (pa_cons (pe_op op_sub (pv 2) pe_int) (pa_cons (pe_op op_sub (pv 2) pe_int) pa_nil))) (pa_cons (pe_tup (pa_cons (pe_op op_sub (pv 2) pe_int) (pa_cons (pe_op op_sub (pv 2) pe_int) pa_nil))) (pa_cons (pe_tup (pa_cons (pe_op op_sub (pv 2) pe_int) (pa_cons (pe_op op_sub (pv 2) pe_int) pa_nil))) pa_nil))))) (pg_tup (n := 2) (by rfl) (pgs_cons (pg_name (i := 4) sc__law_balanced.nd rfl (Or.inl rfl)) (pgs_cons (pg_name (i := 5) sc__law_balanced.nd rfl (Or.inl rfl)) pgs_nil))) (pss_one (ps_if (pt_cmpR op_ge (pe_callB (call_min2K rfl) (by rfl) T.g_min (by decide +kernel) (pa_cons (pv 4) (pa_cons (pv 5) pa_nil))) pe_int (nomark _)) (pss_cons (ps_set (i := 6) sc__law_balanced.nd rfl (Or.inl rfl) (pe_callB (call_max2K rfl) (by rfl) T.g_max (by decide +kernel) (pa_cons (pe_cal C__law_least hr (by omega) tk (pa_cons (pv 4) pa_nil)) (pa_cons (pe_op op_sub (pv 1) (pe_op op_shl pe_int (pv 5))) pa_nil))))
    (pss_cons (ps_set (i := 7) sc__law_balanced.nd rfl (Or.inl rfl) (pe_callB (call_min2K rfl) (by rfl) T.g_min (by decide +kernel) (pa_cons (pe_op op_shl pe_int (pv 4)) (pa_cons (pe_op op_sub (pv 1) (pe_cal C__law_least hr (by omega) tk (pa_cons (pv 5) pa_nil))) pa_nil))))
    (pss_one (ps_if (pt_cmpR op_le (pv 6) (pv 7) (nomark _)) (pss_one (ps_expr (pe_bm PySem.F.plainAttrs_list PySem.F.slot_list_append PySem.F.type_list_append mt_append (pv 3) (pa_cons (pe_tup (pa_cons (pv 4) (pa_cons (pv 5) (pa_cons (pv 6) (pa_cons (pv 7) pa_nil))))) pa_nil)))) pss_nil)))) pss_nil)))
    (pss_cons (ps_asg (pe_cal C__law_one hr (by omega) tk (pa_cons (pv 0) (pa_cons (pv 3) pa_nil))) (pg_tup (n := 4) (by rfl) (pgs_cons (pg_name (i := 4) sc__law_balanced.nd rfl (Or.inl rfl)) (pgs_cons (pg_name (i := 5) sc__law_balanced.nd rfl (Or.inl rfl)) (pgs_cons (pg_name (i := 6) sc__law_balanced.nd rfl (Or.inl rfl)) (pgs_cons (pg_name (i := 7) sc__law_balanced.nd rfl (Or.inl rfl)) pgs_nil))))))
    (pss_cons (ps_set (i := 8) sc__law_balanced.nd rfl (Or.inl rfl) (pe_op op_add (pv 6) (pe_cal C__law_draw hr (by omega) tk (pa_cons (pv 0) (pa_cons (pe_op op_add (pe_op op_sub (pv 7) (pv 6)) pe_int) pa_nil)))))
    (pss_one (ps_ret (pe_tup (pa_cons (pe_cal C__law_balanced hr (by omega) tk (pa_cons (pv 0) (pa_cons (pv 8) (pa_cons (pv 4) pa_nil)))) (pa_cons (pe_cal C__law_balanced hr (by omega) tk (pa_cons (pv 0) (pa_cons (pe_op op_sub (pv 1) (pv 8)) (pa_cons (pv 5) pa_nil)))) pa_nil)))))))))), ?_⟩
  refine i_start [some _, some _, some _, none, none, none, none, none, none] (by rfl) ?_
  try dsimp only [cxOf]
  walk_at "rd"
  refine i_dec (fun h0 => ?_) (fun h0 => ?_)
  · walk_at "rd"
    have e : h = 0 := by omega
    subst e
    have e1 : wd = 1 := by have := fit.1; have := fit.2; simp only [L] at *; omega
    exact q .non .one xs H (SameX.refl _ _) hf (hF.mono (by omega)) .one trivial e1.symm rfl
  · obtain ⟨g, rfl⟩ : ∃ g, h = g + 1 := ⟨h - 1, by omega⟩
    walk_at "rd"
    refine ⟨Nat.zero_le _, fun wl hwl => ?_⟩
    generalize eH1 : L2.upd H wl _ = H1
    obtain ⟨s1, e1⟩ := laid eH1 hwl
    walk_at "rd"
    refine ⟨by show 2 ≤ sizeLine; decide, fun t1 ht1 => ?_⟩
    generalize eH2 : L2.upd H1 t1 _ = H2
    obtain ⟨s2, e2⟩ := laid eH2 ht1
    walk_at "rd"
    refine ⟨by show 2 ≤ sizeLine; decide, fun t2 ht2 => ?_⟩
    generalize eH3 : L2.upd H2 t2 _ = H3
    obtain ⟨s3, e3⟩ := laid eH3 ht2
    walk_at "rd"
    refine ⟨by show 2 ≤ sizeLine; decide, fun t3 ht3 => ?_⟩
    generalize eH4 : L2.upd H3 t3 _ = H4
    obtain ⟨s4, e4⟩ := laid eH4 ht3
    walk_at "rd"
    refine ⟨by show 3 ≤ sizeLine; decide, fun l0 hl0 => ?_⟩
    generalize eH5 : L2.upd H4 l0 _ = H5
    obtain ⟨s5, e5⟩ := laid eH5 hl0
    have S5 : Same H H5 := (((s1.trans s2).trans s3).trans s4).trans s5
    have n4 : wl ≠ l0 := ne_of_none (((s2.trans s3).trans s4) _ _ e1) hl0
    have ew5 : H5 wl = some (.lst []) := (((s2.trans s3).trans s4).trans s5) _ _ e1
    have nfd : wl ≠ fd := fun z => by rw [z, hf] at hwl; cases hwl
    have tt : ∀ (i : Nat) (x : V), ([.ref t1, .ref t2, .ref t3] : List V)[i]? = some x → ∃ (t : Addr) (p : Int × Int), x = V.ref t ∧ (prs ((g + 1 : Nat) : Int))[i]? = some p ∧ H5 t = some (.tup [.int p.1, .int p.2]) := by
      intro i x hi
      match i, hi with
      | 0, hi => cases hi; exact ⟨t1, _, rfl, rfl, (((s3.trans s4).trans s5) _ _ e2)⟩
      | 1, hi => cases hi; exact ⟨t2, _, rfl, rfl, ((s4.trans s5) _ _ e3)⟩
      | 2, hi => cases hi; exact ⟨t3, _, rfl, rfl, s5 _ _ e4⟩
      | i + 3, hi => simp at hi
    have pb : ∀ {i : Nat} {p : Int × Int}, (prs ((g + 1 : Nat) : Int))[i]? = some p → p.1 ≤ 40 ∧ p.2 ≤ 40 := by
      intro i p hi
      match i, hi with
      | 0, hi => cases hi; constructor <;> (show _ ≤ _; omega)
      | 1, hi => cases hi; constructor <;> (show _ ≤ _; omega)
      | 2, hi => cases hi; constructor <;> (show _ ≤ _; omega)
      | i + 3, hi => simp [prs] at hi
    walk_at "rd"
    refine ⟨l0, rfl, ⟨_, SqL.of e5⟩, for_list (xs := [.ref t1, .ref t2, .ref t3]) (fun i s h => ∃ ws a4 a5 a6 a7, s = [some (.ref fd), some (.int wd), some (.int ((g + 1 : Nat) : Int)), some (.ref wl), a4, a5, a6, a7, none] ∧
      SameX wl H5 h ∧ h wl = some (.lst ws) ∧ (∀ v ∈ ws, WayAt wd (g + 1) h v) ∧ ws.length ≤ i ∧ (∀ j p, j < i → (prs ((g + 1 : Nat) : Int))[j]? = some p → Adm wd p → ws ≠ []))
      ⟨[], none, none, none, none, rfl, SameX.refl _ _, ew5, fun v z => by simp at z, Nat.le_refl _, fun j p z => by omega⟩ ?_ ?_ ?_⟩
    · rintro i s h _ ⟨ws, a4, a5, a6, a7, rfl, sx, ew, hw', hlen, hne⟩
      exact SqL.of (sx _ _ n4.symm e5)
    · rintro i x s h hi ⟨ws, a4, a5, a6, a7, rfl, sx, ew, hw', hlen, hne⟩
      obtain ⟨t, p, rfl, hp, ht⟩ := tt i x hi
      obtain ⟨b1, b2⟩ := pb hp
      have nt : t ≠ wl := ne_of ht ew5 (by intro z; cases z)
      have hi3 : i < 3 := by
        have := (List.getElem?_eq_some_iff.mp hi).1
        exact this
      walk_at "rd"
      refine ⟨t, _, rfl, SqT.of (sx _ _ nt ht), rfl, ?_⟩
      walk_at "rd"
      refine i_dec (fun hp0 => ?_) (fun hp0 => ?_)
      · have p0 : 0 ≤ p.1 := by omega
        have p1 : 0 ≤ p.2 := by omega
        walk_at "rd"
        refine ⟨p.1.toNat, by rw [Int.toNat_of_nonneg p0], by omega, fun H6 s6 => ?_⟩
        walk_at "rd"
        refine i_rI ⟨p1, by omega, by decide⟩ ?_
        walk_at "rd"
        refine i_rI ⟨p0, by omega, by decide⟩ ?_
        walk_at "rd"
        refine ⟨p.2.toNat, by rw [Int.toNat_of_nonneg p1], by omega, fun H7 s7 => ?_⟩
        walk_at "rd"
        have ew7 : H7 wl = some (.lst ws) := s7 _ _ (s6 _ _ ew)
        have sx7 : SameX wl H5 H7 := sx.trans (SameX.of (s6.trans s7))
        have hw7 : ∀ v ∈ ws, WayAt wd (g + 1) H7 v := fun v hv => (hw' v hv).mono (Same.tups (s6.trans s7))
        refine i_dec (fun hle => ?_) (fun hle => ?_)
        · walk_at "rd"
          refine i_tyL (SqL.of ew7) ?_
          walk_at "rd"
          refine ⟨by show 4 ≤ sizeLine; decide, fun t' ht' => ?_⟩
          generalize eH8 : L2.upd H7 t' _ = H8
          obtain ⟨s8, e8⟩ := laid eH8 ht'
          walk_at "rd"
          have l3 : ws.length < sizeLine := Nat.lt_of_le_of_lt (show ws.length ≤ 3 by omega) (by decide)
          refine i_app (s8 _ _ ew7) l3 ?_
          walk_at "rd"
          have nt' : t' ≠ wl := fun z => by rw [z, ew7] at ht'; cases ht'
          refine ⟨ws ++ [.ref t'], _, _, _, _, rfl, (sx7.trans (SameX.of s8)).trans SameX.upd, upd_same, fun v hv => ?_, by rw [List.length_append, List.length_singleton]; omega, fun _ _ _ _ _ z => by simp at z⟩
          have tu : Tups H8 (L2.upd H8 wl (.lst (ws ++ [.ref t']))) := SameX.tups (f := wl) SameX.upd (s8 _ _ ew7)
          rcases List.mem_append.mp hv with hv | hv
          · exact ((hw7 v hv).mono (Same.tups s8)).mono tu
          · rw [List.mem_singleton] at hv
            subst hv
            exact (way_of hp p0 p1 rfl rfl hle e8).mono tu
        · walk_at "rd"
          refine ⟨ws, _, _, _, _, rfl, sx7, ew7, hw7, by omega, fun j p' hj hp' ad => ?_⟩
          by_cases c : j = i
          · subst c
            rw [hp] at hp'
            cases hp'
            exact absurd ad.2.2 hle
          · exact hne j p' (by omega) hp' ad
      · walk_at "rd"
        refine ⟨ws, _, _, _, _, rfl, sx, ew, hw', by omega, fun j p' hj hp' ad => ?_⟩
        by_cases c : j = i
        · subst c
          rw [hp] at hp'
          cases hp'
          obtain ⟨ad1, ad2, _⟩ := ad
          omega
        · exact hne j p' (by omega) hp' ad
    · rintro s h ⟨ws, a4, a5, a6, a7, rfl, sx, ew, hw', hlen, hne⟩
      obtain ⟨j, p, hj, hp, ad⟩ := adm_there fit
      have wne : ws ≠ [] := hne j p (by show j < 3; omega) hp ad
      have hl3 : ws.length ≤ 3 := hlen
      have hf5 : H5 fd = some (.lst xs) := S5 _ _ hf
      have hfh : h fd = some (.lst xs) := sx _ _ nfd.symm hf5
      walk_at "rd"
      refine ⟨fd, wl, m, xs, ws, rfl, hfh, hF, by omega, ew, nfd, wne, by omega, fun v zs hv hz => ?_⟩
      have tu : Tups h (L2.upd h fd (.lst zs)) := SameX.tups (f := fd) SameX.upd hfh
      obtain ⟨t, l, r, lo, hi, rfl, ht, k1, k2, k3, k4, k5, k6, k7⟩ := (hw' v hv).mono tu
      walk_at "rd"
      refine ⟨t, _, rfl, SqT.of ht, rfl, ?_⟩
      walk_at "rd"
      refine ⟨fd, _, m + 1, zs, rfl, upd_same, hz, by omega, by omega, by omega, fun gt ys g0 g1 hy => ?_⟩
      rw [upd_upd]
      walk_at "rd"
      have sx1 : SameX fd H (L2.upd h fd (.lst ys)) := fun b o nb e => by
        rw [upd_ne nb]
        exact sx _ _ (fun z => by rw [z] at e; rw [e] at hwl; cases hwl) (S5 _ _ e)
      obtain ⟨first, ef⟩ : ∃ first : Nat, lo + gt = (first : Int) := ⟨(lo + gt).toNat, by omega⟩
      obtain ⟨f1, f2, f3⟩ := k7 first (by omega) (by omega)
      have w1 : 1 ≤ first := by have := f1.1; have := L_pos l; omega
      have w2 : 1 ≤ wd - first := by have := f3.1; have := L_pos r; omega
      obtain ⟨n', rfl⟩ : ∃ n', n = n' + 1 := ⟨n - 1, by omega⟩
      rw [ef]
      refine ⟨fd, first, l, m + 2, ys, rfl, upd_same, hy, f1, by omega, by omega, by omega, by omega, fun v1 sh1 zs1 H1' sx1' ef1 hz1 sp1 b1 wd1 he1 => ?_⟩
      walk_at "rd"
      have e2 : ((wd : Nat) : Int) - ((first : Nat) : Int) = ((wd - first : Nat) : Int) := by omega
      rw [e2]
      refine ⟨fd, wd - first, r, _, zs1, rfl, ef1, hz1, f3, by omega, by omega, by omega, by omega, fun v2 sh2 zs2 H2' sx2' ef2 hz2 sp2 b2 wd2 he2 => ?_⟩
      walk_at "rd"
      refine ⟨by show 2 ≤ sizeLine; decide, fun tp htp => ?_⟩
      generalize eH9 : L2.upd H2' tp _ = H9
      obtain ⟨s9, e9⟩ := laid eH9 htp
      walk_at "rd"
      have tu1 : Tups H1' H9 := fun a ys e => s9 _ _ (SameX.tups sx2' ef1 a ys e)
      refine q (.ref tp) (.two sh1 sh2) zs2 H9 (((sx1.trans sx1').trans sx2').trans (SameX.of s9)) (s9 _ _ ef2) (hz2.mono (by omega)) (.two e9 (sp1.mono tu1) (sp2.mono (Same.tups s9))) ⟨b1, b2, by omega, by omega⟩ ?_ ?_
      · simp only [wid]; omega
      · simp only [hei]; omega
theorem c_balanced (T : Txt K mg) (n : Nat) : Cal P w K mg base (n + 2 + 1) "_law_balanced" (spBalanced n) := T.d__law_balanced.rec_ sc__law_balanced 2 (fun n vs H Q E h => by obtain ⟨_, _, _, _, _, rfl, _⟩ := h; rfl) (b_balanced T (c_least T) (c_one T) (c_draw T)) n
end

end K63

set_option maxHeartbeats 4000000
namespace K63
open PySem PySem.Spec PyProof.Rows L2 KB KM
theorem SameX.fresh {f : Addr} {H0 H H' : Hp} (a : SameX f H H') (s : Same H0 H) (n : H0 f = none) : Same H0 H' := fun b o e => a b o (fun z => by rw [z, n] at e; cases e) (s b o e)
/-- a shape as data -/
def pd : Sh → PyData
  | .one => .none
  | .two l r => .tuple [pd l, pd r]
theorem pd_dp {K : PySem.W.Frag} {H : Hp} {v : V} {s : Sh} (h : Shp H v s) : Dp K H v (pd s) := by
  induction h with
  | one => exact .non
  | two a _ _ ih1 ih2 => exact .tup (SqT.of a) (.cons ih1 (.cons ih2 .nil))
theorem pd_lay : ∀ s : Sh, PyData.canLay0 (pd s) = true
  | .one => rfl
  | .two l r => by simp only [pd, PyData.canLay0, PyData.canLayAll0, pd_lay l, pd_lay r, Bool.and_self]
theorem pd_depth : ∀ s : Sh, PyData.depth (pd s) = hei s
  | .one => rfl
  | .two l r => by simp only [pd, PyData.depth, PyData.depthAll, pd_depth l, pd_depth r, hei]; omega
theorem pd_shaped {s : Sh} (h : hei s ≤ 64) : SeqAt.shaped (pd s) = true := by
  unfold SeqAt.shaped
  rw [pd_lay, pd_depth, decide_eq_true h]
  rfl
theorem pd_refl (s : Sh) : PyData.eqv (pd s) (pd s) = true := PySem.SeqAt.eqv_refl (pd s) (pd_lay s)
theorem i_neSame {K : PySem.W.Frag} {H : Hp} {x y : V} {s : Sh} {Q : VK} (h1 : Shp H x s) (h2 : Shp H y s) (h : hei s ≤ 64) (q : Q (.bl false) H) : rNeD K x y H Q :=
  ⟨pd s, pd s, pd_dp h1, pd_dp h2, pd_shaped h, pd_shaped h, by rw [pd_refl]; exact q⟩
theorem kn_stay {H H' : Hp} {v : V} {n : String} (k : Kn H v n) (s : Same H H') : Kn H' v n := by
  obtain ⟨k1, k2⟩ := k
  refine ⟨?_, k2⟩
  cases v with
  | ref p =>
    have k3 : (match H p with
      | some (.lst _) => some "list"
      | some (.tup _) => some "tuple"
      | some (.dK _) => some "dict"
      | some (.dT _) => some "dict"
      | some (.frz _ (.lst _)) => some "list"
      | _ => none) = some n := k1
    cases eo : H p with
    | none => rw [eo] at k3; cases k3
    | some o =>
      have e8 := s _ _ eo
      simp only [tyN, e8]
      rw [eo] at k3
      exact k3
  | _ => exact k1
theorem bits_is (n : Nat) (h : 1 ≤ n) : (Builtin.Int.intBits ((n : Int) - 1) : Nat) = bits (n - 1) := by
  rw [show ((n : Nat) : Int) - 1 = ((n - 1 : Nat) : Int) by omega]
  unfold Builtin.Int.intBits
  by_cases c : n - 1 = 0
  · rw [c, bits_0]; rfl
  · rw [bits_log _ c, if_neg (by simpa using c), Int.natAbs_natCast]
def spAsked (K : PySem.W.Frag) : Sp := fun vs H Q _ => ∃ (a : Addr) (ns : List Int), vs = [.ref a] ∧ SqL K H a (ns.map V.int) ∧ (∀ z ∈ ns, ib z ≤ 1048576) ∧ ns.length ≤ 63 ∧ ∀ H', Same H H' → Q (.bl true) H'
def spLaw (K : PySem.W.Frag) : Sp := fun vs H Q _ => ∃ (a : Addr) (ns : List Int), vs = [.ref a] ∧ SqL K H a (ns.map V.int) ∧ (∀ z ∈ ns, ib z ≤ 1048576) ∧ ns.length ≤ 63 ∧ ∀ H', Q (.bl true) H'

end K63

set_option maxHeartbeats 4000000
namespace K63
open PySem PySem.Spec PyProof.Rows L2 KB KM
section
variable {P : Program} {w : World} {K : PySem.W.Frag} {mg : Str → Option Value} {base : Heap}
/-! ### Builder.sides -/
def spSides (K : PySem.W.Frag) : Sp := fun vs H Q _ => ∃ b t l r, vs = [b, t] ∧ Stm (CS K) H t (.two l r) ∧ ∀ p H' x y, Same H H' → H' p = some (.tup [x, y]) → Stm (CS K) H' x l → Stm (CS K) H' y r → Q (.ref p) H'
abbrev s_Builder_sides : Stmt := (inClass (top 21) 1)
theorem sc_Builder_sides : FnScope ["self", "tree"] ["self", "tree"] (defScope s_Builder_sides) := ⟨rfl, rfl, rfl, by decide +kernel, rfl, by decide +kernel, by decide +kernel⟩
theorem b_sides (T : Txt K mg) : Body P w K mg base (0) ["self", "tree"] "Builder.sides" (defScope s_Builder_sides) (defBody s_Builder_sides) (spSides K) := by
  intro f cdv A outer s H vs Q E hr h
  obtain ⟨b, t, l, r, rfl, ht, q⟩ := h
  obtain ⟨a, dx, x, y, rfl, ha, hc⟩ := ht.at_
  rcases hc with ⟨z, _⟩ | ⟨l', r', e, hl, hr2⟩
  · cases z
  · cases e
    have hu := hu_of hr
    have tk : Takes (cxOf (L2.CX P w) P w K mg base ["self", "tree"] "Builder.sides" (defScope s_Builder_sides) f cdv A outer s H E) (fun cls d _ H => E cls d H) := takes_of rfl rfl rfl rfl
    refine ⟨_, (pss_one (ps_ret (pe_tup (pa_cons (pe_fld (pv 1) rfl) (pa_cons (pe_fld (pv 1) rfl) pa_nil))))), ?_⟩
    refine i_start [some _, some _] (by rfl) ?_
    try dsimp only [cxOf]
    walk_at "rd"
    refine i_fldR ha T.c_Stem T.n_Stem_left st_left ?_
    walk_at "rd"
    refine i_fldR ha T.c_Stem T.n_Stem_right st_right ?_
    walk_at "rd"
    refine ⟨by show 2 ≤ sizeLine; decide, fun p hp => ?_⟩
    generalize eH1 : L2.upd H p _ = H1
    obtain ⟨s1, e1⟩ := laid eH1 hp
    walk_at "rd"
    exact q p H1 x y s1 e1 (hl.mono s1) (hr2.mono s1)
theorem m_sides (T : Txt K mg) : Met P w K mg base 1 (CB K) "sides" (spSides K) := T.m_Builder_sides.met T.c_Builder sc_Builder_sides (fun vs H Q E h => by obtain ⟨_, _, _, _, rfl, _⟩ := h; rfl) (b_sides T)
/-! ### even_pair -/
def spEvenPair (K : PySem.W.Frag) : Sp := fun vs H Q _ => ∃ b dx x y l r, vs = [.ref b, x, y] ∧ H b = some (.ins (CB K) dx []) ∧ Stm (CS K) H x l ∧ Stm (CS K) H y r ∧ ∀ p H', Same H H' → Stm (CS K) H' (.ref p) (ep l r) → Q (.ref p) H'
theorem stm_ref {C : Addr} {H : Hp} {v : V} {s : Sh} (h : Stm C H v s) : ∃ a, v = .ref a := by cases h <;> exact ⟨_, rfl⟩
abbrev s_even_pair : Stmt := (top 27)
theorem sc_even_pair : FnScope ["builder", "left", "right", "inner", "outer", "one", "other"] ["builder", "left", "right"] (defScope s_even_pair) := ⟨rfl, rfl, rfl, by decide +kernel, rfl, by decide +kernel, by decide +kernel⟩
theorem b_even_pair (T : Txt K mg) (D_Builder_pair : Met P w K mg base 3 (CB K) "pair" (spPair K)) (D_Builder_sides : Met P w K mg base 1 (CB K) "sides" (spSides K)) : Body P w K mg base (3) ["builder", "left", "right", "inner", "outer", "one", "other"] "even_pair" (defScope s_even_pair) (defBody s_even_pair) (spEvenPair K) := by
  intro f cdv A outer s H vs Q E hr h
  obtain ⟨b, dx, x, y, l, r, rfl, hb, hl, hr2, q⟩ := h
  obtain ⟨ax, dxx, xl, xr, rfl, hax, hcx⟩ := hl.at_
  obtain ⟨ay, dxy, yl, yr, rfl, hay, hcy⟩ := hr2.at_
  have hu := hu_of hr
  have tk : Takes (cxOf (L2.CX P w) P w K mg base ["builder", "left", "right", "inner", "outer", "one", "other"] "even_pair" (defScope s_even_pair) f cdv A outer s H E) (fun cls d _ H => E cls d H) := takes_of rfl rfl rfl rfl
  refine ⟨_, (pss_cons (ps_if (pt_cmpR op_gt (pe_fld (pv 2) rfl) (pe_op op_add (pe_fld (pv 1) rfl) pe_int) (nomark _)) (pss_cons (ps_asg (pe_met D_Builder_sides hr (by omega) (pv 0) (pa_cons (pv 2) pa_nil)) (pg_tup (n := 2) (by rfl) (pgs_cons (pg_name (i := 3) sc_even_pair.nd rfl (Or.inl rfl)) (pgs_cons (pg_name (i := 4) sc_even_pair.nd rfl (Or.inl rfl)) pgs_nil))))
    (pss_cons (ps_if (pt_cmpR op_le (pe_fld (pv 3) rfl) (pe_fld (pv 4) rfl) (nomark _)) (pss_one (ps_ret (pe_met D_Builder_pair hr (by omega) (pv 0) (pa_cons (pe_met D_Builder_pair hr (by omega) (pv 0) (pa_cons (pv 1) (pa_cons (pv 3) pa_nil))) (pa_cons (pv 4) pa_nil))))) pss_nil)
    (pss_cons (ps_asg (pe_met D_Builder_sides hr (by omega) (pv 0) (pa_cons (pv 3) pa_nil)) (pg_tup (n := 2) (by rfl) (pgs_cons (pg_name (i := 5) sc_even_pair.nd rfl (Or.inl rfl)) (pgs_cons (pg_name (i := 6) sc_even_pair.nd rfl (Or.inl rfl)) pgs_nil))))
    (pss_one (ps_ret (pe_met D_Builder_pair hr (by omega) (pv 0) (pa_cons (pe_met D_Builder_pair hr (by omega) (pv 0) (pa_cons (pv 1) (pa_cons (pv 5) pa_nil))) (pa_cons (pe_met D_Builder_pair hr (by omega) (pv 0) (pa_cons (pv 6) (pa_cons (pv 4) pa_nil))) pa_nil)))))))) pss_nil)
    (pss_cons (ps_if (pt_cmpR op_gt (pe_fld (pv 1) rfl) (pe_op op_add (pe_fld (pv 2) rfl) pe_int) (nomark _)) (pss_cons (ps_asg (pe_met D_Builder_sides hr (by omega) (pv 0) (pa_cons (pv 1) pa_nil)) (pg_tup (n := 2) (by rfl) (pgs_cons (pg_name (i := 4) sc_even_pair.nd rfl (Or.inl rfl)) (pgs_cons (pg_name (i := 3) sc_even_pair.nd rfl (Or.inl rfl)) pgs_nil))))
    (pss_cons (ps_if (pt_cmpR op_le (pe_fld (pv 3) rfl) (pe_fld (pv 4) rfl) (nomark _)) (pss_one (ps_ret (pe_met D_Builder_pair hr (by omega) (pv 0) (pa_cons (pv 4) (pa_cons (pe_met D_Builder_pair hr (by omega) (pv 0) (pa_cons (pv 3) (pa_cons (pv 2) pa_nil))) pa_nil))))) pss_nil)
    (pss_cons (ps_asg (pe_met D_Builder_sides hr (by omega) (pv 0) (pa_cons (pv 3) pa_nil)) (pg_tup (n := 2) (by rfl) (pgs_cons (pg_name (i := 5) sc_even_pair.nd rfl (Or.inl rfl)) (pgs_cons (pg_name (i := 6) sc_even_pair.nd rfl (Or.inl rfl)) pgs_nil))))
    (pss_one (ps_ret (pe_met D_Builder_pair hr (by omega) (pv 0) (pa_cons (pe_met D_Builder_pair hr (by omega) (pv 0) (pa_cons (pv 4) (pa_cons (pv 5) pa_nil))) (pa_cons (pe_met D_Builder_pair hr (by omega) (pv 0) (pa_cons (pv 6) (pa_cons (pv 2) pa_nil))) pa_nil)))))))) pss_nil)
    (pss_one (ps_ret (pe_met D_Builder_pair hr (by omega) (pv 0) (pa_cons (pv 1) (pa_cons (pv 2) pa_nil))))))), ?_⟩
  refine i_start [some _, some _, some _, none, none, none, none] (by rfl) ?_
  try dsimp only [cxOf]
  walk_at "rd"
  refine i_fldR hay T.c_Stem T.n_Stem_height st_height ?_
  walk_at "rd"
  refine i_fldR hax T.c_Stem T.n_Stem_height st_height ?_
  walk_at "rd"
  refine i_dec (fun c1 => ?_) (fun c1 => ?_)
  · have c1' : hei l + 1 < hei r := by omega
    rcases hcy with ⟨rfl, _⟩ | ⟨i, o, rfl, hi, ho⟩
    · simp only [hei] at c1'; omega
    · have e1 : ep l (.two i o) = epR l i o := ep_r c1'
      rw [e1] at q
      walk_at "rd"
      refine ⟨b, dx, [], rfl, hb, rfl, ?_⟩
      walk_at "rd"
      refine ⟨_, _, i, o, rfl, hr2, fun p1 H1 x1 y1 s1 ht1 hi1 ho1 => ?_⟩
      walk_at "rd"
      refine ⟨p1, _, rfl, SqT.of ht1, rfl, ?_⟩
      walk_at "rd"
      obtain ⟨a1, dx1, x1l, x1r, rfl, h1, hc1⟩ := hi1.at_
      obtain ⟨a2, dx2, x2l, x2r, rfl, h2, hc2⟩ := ho1.at_
      refine i_fldR h1 T.c_Stem T.n_Stem_height st_height ?_
      walk_at "rd"
      refine i_fldR h2 T.c_Stem T.n_Stem_height st_height ?_
      walk_at "rd"
      refine i_dec (fun c2 => ?_) (fun c2 => ?_)
      · walk_at "rd"
        have e2 : epR l i o = .two (.two l i) o := by unfold epR; rw [if_pos (by omega)]
        rw [e2] at q
        refine ⟨b, dx, [], rfl, s1 _ _ hb, rfl, ?_⟩
        walk_at "rd"
        refine ⟨b, dx, [], rfl, s1 _ _ hb, rfl, ?_⟩
        walk_at "rd"
        refine ⟨_, _, _, l, i, rfl, hl.mono s1, hi1, fun p2 H2 s2 t2 => ?_⟩
        walk_at "rd"
        refine ⟨_, _, _, _, _, rfl, t2, ho1.mono s2, fun p3 H3 s3 t3 => ?_⟩
        walk_at "rd"
        exact q p3 H3 ((s1.trans s2).trans s3) t3
      · rcases hc1 with ⟨rfl, _⟩ | ⟨u, v, rfl, hu1, hv1⟩
        · simp only [hei] at c2; omega
        · have e2 : epR l (.two u v) o = .two (.two l u) (.two v o) := by unfold epR; rw [if_neg (by omega)]
          rw [e2] at q
          walk_at "rd"
          refine ⟨b, dx, [], rfl, s1 _ _ hb, rfl, ?_⟩
          walk_at "rd"
          refine ⟨_, _, u, v, rfl, hi1, fun p2 H2 x2 y2 s2 ht2 hu2 hv2 => ?_⟩
          walk_at "rd"
          refine ⟨p2, _, rfl, SqT.of ht2, rfl, ?_⟩
          walk_at "rd"
          refine ⟨b, dx, [], rfl, s2 _ _ (s1 _ _ hb), rfl, ?_⟩
          walk_at "rd"
          refine ⟨b, dx, [], rfl, s2 _ _ (s1 _ _ hb), rfl, ?_⟩
          walk_at "rd"
          refine ⟨_, _, _, l, u, rfl, hl.mono (s1.trans s2), hu2, fun p3 H3 s3 t3 => ?_⟩
          walk_at "rd"
          refine ⟨b, dx, [], rfl, s3 _ _ (s2 _ _ (s1 _ _ hb)), rfl, ?_⟩
          walk_at "rd"
          refine ⟨_, _, _, v, o, rfl, hv2.mono s3, ho1.mono (s2.trans s3), fun p4 H4 s4 t4 => ?_⟩
          walk_at "rd"
          refine ⟨_, _, _, _, _, rfl, t3.mono s4, t4, fun p5 H5 s5 t5 => ?_⟩
          walk_at "rd"
          exact q p5 H5 ((((s1.trans s2).trans s3).trans s4).trans s5) t5
  · walk_at "rd"
    refine i_fldR hax T.c_Stem T.n_Stem_height st_height ?_
    walk_at "rd"
    refine i_fldR hay T.c_Stem T.n_Stem_height st_height ?_
    walk_at "rd"
    refine i_dec (fun c3 => ?_) (fun c3 => ?_)
    · have c1' : ¬ hei l + 1 < hei r := by omega
      have c3' : hei r + 1 < hei l := by omega
      rcases hcx with ⟨rfl, _⟩ | ⟨o, i, rfl, ho, hi⟩
      · simp only [hei] at c3'; omega
      · have e1 : ep (.two o i) r = epL o i r := ep_l c1' c3'
        rw [e1] at q
        walk_at "rd"
        refine ⟨b, dx, [], rfl, hb, rfl, ?_⟩
        walk_at "rd"
        refine ⟨_, _, o, i, rfl, hl, fun p1 H1 x1 y1 s1 ht1 ho1 hi1 => ?_⟩
        walk_at "rd"
        refine ⟨p1, _, rfl, SqT.of ht1, rfl, ?_⟩
        walk_at "rd"
        obtain ⟨a1, dx1, x1l, x1r, rfl, h1, hc1⟩ := hi1.at_
        obtain ⟨a2, dx2, x2l, x2r, rfl, h2, hc2⟩ := ho1.at_
        refine i_fldR h1 T.c_Stem T.n_Stem_height st_height ?_
        walk_at "rd"
        refine i_fldR h2 T.c_Stem T.n_Stem_height st_height ?_
        walk_at "rd"
        refine i_dec (fun c2 => ?_) (fun c2 => ?_)
        · walk_at "rd"
          have e2 : epL o i r = .two o (.two i r) := by unfold epL; rw [if_pos (by omega)]
          rw [e2] at q
          refine ⟨b, dx, [], rfl, s1 _ _ hb, rfl, ?_⟩
          walk_at "rd"
          refine ⟨b, dx, [], rfl, s1 _ _ hb, rfl, ?_⟩
          walk_at "rd"
          refine ⟨_, _, _, i, r, rfl, hi1, hr2.mono s1, fun p2 H2 s2 t2 => ?_⟩
          walk_at "rd"
          refine ⟨_, _, _, _, _, rfl, ho1.mono s2, t2, fun p3 H3 s3 t3 => ?_⟩
          walk_at "rd"
          exact q p3 H3 ((s1.trans s2).trans s3) t3
        · rcases hc1 with ⟨rfl, _⟩ | ⟨u, v, rfl, hu1, hv1⟩
          · simp only [hei] at c2; omega
          · have e2 : epL o (.two u v) r = .two (.two o u) (.two v r) := by unfold epL; rw [if_neg (by omega)]
            rw [e2] at q
            walk_at "rd"
            refine ⟨b, dx, [], rfl, s1 _ _ hb, rfl, ?_⟩
            walk_at "rd"
            refine ⟨_, _, u, v, rfl, hi1, fun p2 H2 x2 y2 s2 ht2 hu2 hv2 => ?_⟩
            walk_at "rd"
            refine ⟨p2, _, rfl, SqT.of ht2, rfl, ?_⟩
            walk_at "rd"
            refine ⟨b, dx, [], rfl, s2 _ _ (s1 _ _ hb), rfl, ?_⟩
            walk_at "rd"
            refine ⟨b, dx, [], rfl, s2 _ _ (s1 _ _ hb), rfl, ?_⟩
            walk_at "rd"
            refine ⟨_, _, _, o, u, rfl, ho1.mono s2, hu2, fun p3 H3 s3 t3 => ?_⟩
            walk_at "rd"
            refine ⟨b, dx, [], rfl, s3 _ _ (s2 _ _ (s1 _ _ hb)), rfl, ?_⟩
            walk_at "rd"
            refine ⟨_, _, _, v, r, rfl, hv2.mono s3, hr2.mono ((s1.trans s2).trans s3), fun p4 H4 s4 t4 => ?_⟩
            walk_at "rd"
            refine ⟨_, _, _, _, _, rfl, t3.mono s4, t4, fun p5 H5 s5 t5 => ?_⟩
            walk_at "rd"
            exact q p5 H5 ((((s1.trans s2).trans s3).trans s4).trans s5) t5
    · have e0 : ep l r = .two l r := ep_e (by omega) (by omega)
      rw [e0] at q
      walk_at "rd"
      refine ⟨b, dx, [], rfl, hb, rfl, ?_⟩
      walk_at "rd"
      refine ⟨_, _, _, l, r, rfl, hl, hr2, fun p1 H1 s1 t1 => ?_⟩
      exact q p1 H1 s1 t1
theorem c_even_pair (T : Txt K mg) : Cal P w K mg base 4 "even_pair" (spEvenPair K) := T.d_even_pair.cal sc_even_pair (fun vs H Q E h => by obtain ⟨_, _, _, _, _, _, rfl, _⟩ := h; rfl) (b_even_pair T (m_pair T) (m_sides T))
/-! ### row_joined -/
def spRowJoined (K : PySem.W.Frag) (n : Nat) : Sp := fun vs H Q _ => ∃ b dx x y l r, vs = [.ref b, x, y] ∧ H b = some (.ins (CB K) dx []) ∧ OStm (CS K) H x l ∧ OStm (CS K) H y r ∧ ohei l + ohei r ≤ n ∧ ∀ v H', Same H H' → OStm (CS K) H' v (jo l r) → Q v H'
abbrev s_row_joined : Stmt := (top 28)
theorem sc_row_joined : FnScope ["builder", "left", "right", "first", "last"] ["builder", "left", "right"] (defScope s_row_joined) := ⟨rfl, rfl, rfl, by decide +kernel, rfl, by decide +kernel, by decide +kernel⟩
theorem b_row_joined (T : Txt K mg) (D_Builder_pair : Met P w K mg base 3 (CB K) "pair" (spPair K)) (D_Builder_sides : Met P w K mg base 1 (CB K) "sides" (spSides K)) (C_even_pair : Cal P w K mg base 4 "even_pair" (spEvenPair K)) (n : Nat)
    (C_row_joined : Cal P w K mg base (n + 4) "row_joined" (spPre (spRowJoined K) n)) : Body P w K mg base (n + 4) ["builder", "left", "right", "first", "last"] "row_joined" (defScope s_row_joined) (defBody s_row_joined) (spRowJoined K n) := by
  intro f cdv A outer s H vs Q E hr h
  obtain ⟨b, dx, x, y, l, r, rfl, hb, hl, hr2, hn, q⟩ := h
  have hu := hu_of hr
  have tk : Takes (cxOf (L2.CX P w) P w K mg base ["builder", "left", "right", "first", "last"] "row_joined" (defScope s_row_joined) f cdv A outer s H E) (fun cls d _ H => E cls d H) := takes_of rfl rfl rfl rfl
  refine ⟨_, (pss_cons (ps_if (pt_cmpR op_isN1 (pv 1) pe_non (nomark _)) (pss_one (ps_ret (pv 2))) pss_nil)
    (pss_cons (ps_if (pt_cmpR op_isN1 (pv 2) pe_non (nomark _)) (pss_one (ps_ret (pv 1))) pss_nil)
    (pss_cons (ps_if (pt_cmpR op_gt (pe_fld (pv 1) rfl) (pe_op op_add (pe_fld (pv 2) rfl) pe_int) (nomark _)) (pss_cons (ps_asg (pe_met D_Builder_sides hr (by omega) (pv 0) (pa_cons (pv 1) pa_nil)) (pg_tup (n := 2) (by rfl) (pgs_cons (pg_name (i := 3) sc_row_joined.nd rfl (Or.inl rfl)) (pgs_cons (pg_name (i := 4) sc_row_joined.nd rfl (Or.inl rfl)) pgs_nil))))
    (pss_one (ps_ret (pe_cal C_even_pair hr (by omega) tk (pa_cons (pv 0) (pa_cons (pv 3) (pa_cons (pe_cal C_row_joined hr (by omega) tk (pa_cons (pv 0) (pa_cons (pv 4) (pa_cons (pv 2) pa_nil)))) pa_nil))))))) pss_nil)
    (pss_cons (ps_if (pt_cmpR op_gt (pe_fld (pv 2) rfl) (pe_op op_add (pe_fld (pv 1) rfl) pe_int) (nomark _)) (pss_cons (ps_asg (pe_met D_Builder_sides hr (by omega) (pv 0) (pa_cons (pv 2) pa_nil)) (pg_tup (n := 2) (by rfl) (pgs_cons (pg_name (i := 3) sc_row_joined.nd rfl (Or.inl rfl)) (pgs_cons (pg_name (i := 4) sc_row_joined.nd rfl (Or.inl rfl)) pgs_nil))))
    (pss_one (ps_ret (pe_cal C_even_pair hr (by omega) tk (pa_cons (pv 0) (pa_cons (pe_cal C_row_joined hr (by omega) tk (pa_cons (pv 0) (pa_cons (pv 1) (pa_cons (pv 3) pa_nil)))) (pa_cons (pv 4) pa_nil))))))) pss_nil)
    (pss_one (ps_ret (pe_met D_Builder_pair hr (by omega) (pv 0) (pa_cons (pv 1) (pa_cons (pv 2) pa_nil))))))))), ?_⟩
  refine i_start [some _, some _, some _, none, none] (by rfl) ?_
  try dsimp only [cxOf]
  walk_at "rd"
  cases l with
  | none =>
    obtain rfl : x = .non := hl
    walk_at "rd"
    exact q y H (Same.refl H) hr2
  | some l =>
    obtain ⟨ax, dxx, xl, xr, rfl, hax, hcx⟩ := Stm.at_ hl
    walk_at "rd"
    cases r with
    | none =>
      obtain rfl : y = .non := hr2
      walk_at "rd"
      exact q (.ref ax) H (Same.refl H) hl
    | some r =>
      obtain ⟨ay, dxy, yl, yr, rfl, hay, hcy⟩ := Stm.at_ hr2
      simp only [ohei] at hn
      walk_at "rd"
      refine i_fldR hax T.c_Stem T.n_Stem_height st_height ?_
      walk_at "rd"
      refine i_fldR hay T.c_Stem T.n_Stem_height st_height ?_
      walk_at "rd"
      refine i_dec (fun c1 => ?_) (fun c1 => ?_)
      · have c1' : hei r + 1 < hei l := by omega
        rcases hcx with ⟨rfl, _⟩ | ⟨u, v, rfl, hu1, hv1⟩
        · simp only [hei] at c1'; omega
        · have e1 : jo (some (.two u v)) (some r) = some (ep u (jn v r)) := by simp only [jo]; rw [jn_l c1']
          rw [e1] at q
          simp only [hei] at hn c1'
          obtain ⟨n', rfl⟩ : ∃ n', n = n' + 1 := ⟨n - 1, by omega⟩
          walk_at "rd"
          refine ⟨b, dx, [], rfl, hb, rfl, ?_⟩
          walk_at "rd"
          refine ⟨_, _, u, v, rfl, hl, fun p1 H1 x1 y1 s1 ht1 hu2 hv2 => ?_⟩
          walk_at "rd"
          refine ⟨p1, _, rfl, SqT.of ht1, rfl, ?_⟩
          walk_at "rd"
          refine ⟨b, dx, y1, .ref ay, some v, some r, rfl, s1 _ _ hb, hv2, Stm.mono hr2 s1, by simp only [ohei]; omega, fun w1 H2 s2 t2 => ?_⟩
          walk_at "rd"
          refine ⟨b, dx, _, _, u, jn v r, rfl, s2 _ _ (s1 _ _ hb), hu2.mono s2, t2, fun p3 H3 s3 t3 => ?_⟩
          exact q _ H3 ((s1.trans s2).trans s3) t3
      · walk_at "rd"
        refine i_fldR hay T.c_Stem T.n_Stem_height st_height ?_
        walk_at "rd"
        refine i_fldR hax T.c_Stem T.n_Stem_height st_height ?_
        walk_at "rd"
        have c1' : ¬ hei r + 1 < hei l := by omega
        refine i_dec (fun c2 => ?_) (fun c2 => ?_)
        · have c2' : hei l + 1 < hei r := by omega
          rcases hcy with ⟨rfl, _⟩ | ⟨u, v, rfl, hu1, hv1⟩
          · simp only [hei] at c2'; omega
          · have e1 : jo (some l) (some (.two u v)) = some (ep (jn l u) v) := by simp only [jo]; rw [jn_r c1' c2']
            rw [e1] at q
            simp only [hei] at hn c1' c2'
            obtain ⟨n', rfl⟩ : ∃ n', n = n' + 1 := ⟨n - 1, by omega⟩
            walk_at "rd"
            refine ⟨b, dx, [], rfl, hb, rfl, ?_⟩
            walk_at "rd"
            refine ⟨_, _, u, v, rfl, hr2, fun p1 H1 x1 y1 s1 ht1 hu2 hv2 => ?_⟩
            walk_at "rd"
            refine ⟨p1, _, rfl, SqT.of ht1, rfl, ?_⟩
            walk_at "rd"
            refine ⟨b, dx, .ref ax, x1, some l, some u, rfl, s1 _ _ hb, Stm.mono hl s1, hu2, by simp only [ohei]; omega, fun w1 H2 s2 t2 => ?_⟩
            walk_at "rd"
            refine ⟨b, dx, _, _, jn l u, v, rfl, s2 _ _ (s1 _ _ hb), t2, hv2.mono s2, fun p3 H3 s3 t3 => ?_⟩
            exact q _ H3 ((s1.trans s2).trans s3) t3
        · have e1 : jo (some l) (some r) = some (.two l r) := by simp only [jo]; rw [jn_e (by omega) (by omega)]
          rw [e1] at q
          walk_at "rd"
          refine ⟨b, dx, [], rfl, hb, rfl, ?_⟩
          walk_at "rd"
          refine ⟨_, _, _, l, r, rfl, hl, hr2, fun p1 H1 s1 t1 => ?_⟩
          exact q _ H1 s1 t1
theorem c_row_joined (T : Txt K mg) (n : Nat) : Cal P w K mg base (n + 4 + 1) "row_joined" (spRowJoined K n) := T.d_row_joined.rec_ sc_row_joined 4 (fun n vs H Q E h => by obtain ⟨_, _, _, _, _, _, rfl, _⟩ := h; rfl) (b_row_joined T (m_pair T) (m_sides T) (c_even_pair T)) n
/-! ### row_cut -/
def spRowCut (K : PySem.W.Frag) (n : Nat) : Sp := fun vs H Q _ => ∃ b dx x t k, vs = [.ref b, x, .int (k : Nat)] ∧ H b = some (.ins (CB K) dx []) ∧ Stm (CS K) H x t ∧ bal t ∧ k ≤ wid t ∧ hei t ≤ n ∧ hei t ≤ 45 ∧
  ∀ p H' u v, Same H H' → H' p = some (.tup [u, v]) → OStm (CS K) H' u (ct t k).1 → OStm (CS K) H' v (ct t k).2 → Q (.ref p) H'
theorem ct_0 (t : Sh) : ct t 0 = (none, some t) := by cases t <;> rfl
theorem ct_all {t : Sh} {k : Nat} (h : k = wid t) : ct t k = (some t, none) := by
  have := wid_pos t
  cases k with
  | zero => omega
  | succ k => cases t with
    | one => rfl
    | two l r => simp only [ct]; rw [if_pos h]
theorem ct_l {l r : Sh} {k : Nat} (h0 : k ≠ 0) (h : k ≠ wid (.two l r)) (h2 : k ≤ wid l) : ct (.two l r) k = ((ct l k).1, jo (ct l k).2 (some r)) := by
  cases k with
  | zero => exact absurd rfl h0
  | succ k => simp only [ct]; rw [if_neg h, if_pos h2]
theorem ct_r {l r : Sh} {k : Nat} (h0 : k ≠ 0) (h : k ≠ wid (.two l r)) (h2 : ¬ k ≤ wid l) : ct (.two l r) k = (jo (some l) (ct r (k - wid l)).1, (ct r (k - wid l)).2) := by
  cases k with
  | zero => exact absurd rfl h0
  | succ k => simp only [ct]; rw [if_neg h, if_neg h2]
abbrev s_row_cut : Stmt := (top 29)
theorem sc_row_cut : FnScope ["builder", "tree", "many", "left", "right", "first", "last"] ["builder", "tree", "many"] (defScope s_row_cut) := ⟨rfl, rfl, rfl, by decide +kernel, rfl, by decide +kernel, by decide +kernel⟩
theorem b_row_cut (T : Txt K mg) (D_Builder_sides : Met P w K mg base 1 (CB K) "sides" (spSides K)) (C_row_joined : Cal P w K mg base 105 "row_joined" (spRowJoined K 100)) (n : Nat)
    (C_row_cut : Cal P w K mg base (n + 105) "row_cut" (spPre (spRowCut K) n)) : Body P w K mg base (n + 105) ["builder", "tree", "many", "left", "right", "first", "last"] "row_cut" (defScope s_row_cut) (defBody s_row_cut) (spRowCut K n) := by
  intro f cdv A outer s H vs Q E hr h
  obtain ⟨b, dx, x, t, k, rfl, hb, ht, bt, hk, hn, h45, q⟩ := h
  obtain ⟨ax, dxx, xl, xr, rfl, hax, hcx⟩ := Stm.at_ ht
  have hu := hu_of hr
  have tk : Takes (cxOf (L2.CX P w) P w K mg base ["builder", "tree", "many", "left", "right", "first", "last"] "row_cut" (defScope s_row_cut) f cdv A outer s H E) (fun cls d _ H => E cls d H) := takes_of rfl rfl rfl rfl
  refine ⟨_, (pss_cons (ps_if (pt_cmpR op_eq (pv 2) pe_int (nomark _)) (pss_one (ps_ret (pe_tup (pa_cons pe_non (pa_cons (pv 1) pa_nil))))) pss_nil)
    (pss_cons (ps_if (pt_cmpR op_eq (pv 2) (pe_fld (pv 1) rfl) (nomark _)) (pss_one (ps_ret (pe_tup (pa_cons (pv 1) (pa_cons pe_non pa_nil))))) pss_nil)
    (pss_cons (ps_asg (pe_met D_Builder_sides hr (by omega) (pv 0) (pa_cons (pv 1) pa_nil)) (pg_tup (n := 2) (by rfl) (pgs_cons (pg_name (i := 3) sc_row_cut.nd rfl (Or.inl rfl)) (pgs_cons (pg_name (i := 4) sc_row_cut.nd rfl (Or.inl rfl)) pgs_nil))))
    (pss_cons (ps_if (pt_cmpR op_le (pv 2) (pe_fld (pv 3) rfl) (nomark _)) (pss_cons (ps_asg (pe_cal C_row_cut hr (by omega) tk (pa_cons (pv 0) (pa_cons (pv 3) (pa_cons (pv 2) pa_nil)))) (pg_tup (n := 2) (by rfl) (pgs_cons (pg_name (i := 5) sc_row_cut.nd rfl (Or.inl rfl)) (pgs_cons (pg_name (i := 6) sc_row_cut.nd rfl (Or.inl rfl)) pgs_nil))))
    (pss_one (ps_ret (pe_tup (pa_cons (pv 5) (pa_cons (pe_cal C_row_joined hr (by omega) tk (pa_cons (pv 0) (pa_cons (pv 6) (pa_cons (pv 4) pa_nil)))) pa_nil)))))) pss_nil)
    (pss_cons (ps_asg (pe_cal C_row_cut hr (by omega) tk (pa_cons (pv 0) (pa_cons (pv 4) (pa_cons (pe_op op_sub (pv 2) (pe_fld (pv 3) rfl)) pa_nil)))) (pg_tup (n := 2) (by rfl) (pgs_cons (pg_name (i := 5) sc_row_cut.nd rfl (Or.inl rfl)) (pgs_cons (pg_name (i := 6) sc_row_cut.nd rfl (Or.inl rfl)) pgs_nil))))
    (pss_one (ps_ret (pe_tup (pa_cons (pe_cal C_row_joined hr (by omega) tk (pa_cons (pv 0) (pa_cons (pv 3) (pa_cons (pv 5) pa_nil)))) (pa_cons (pv 6) pa_nil)))))))))), ?_⟩
  refine i_start [some _, some _, some _, none, none, none, none] (by rfl) ?_
  try dsimp only [cxOf]
  walk_at "rd"
  refine i_dec (fun c0 => ?_) (fun c0 => ?_)
  · have e : k = 0 := by omega
    subst e
    rw [ct_0] at q
    walk_at "rd"
    refine ⟨by show 2 ≤ sizeLine; decide, fun p hp => ?_⟩
    generalize eH1 : L2.upd H p _ = H1
    obtain ⟨s1, e1⟩ := laid eH1 hp
    walk_at "rd"
    exact q p H1 _ _ s1 e1 rfl (ht.mono s1)
  · walk_at "rd"
    refine i_fldR hax T.c_Stem T.n_Stem_width st_width ?_
    walk_at "rd"
    refine i_dec (fun c1 => ?_) (fun c1 => ?_)
    · rw [ct_all (by omega)] at q
      walk_at "rd"
      refine ⟨by show 2 ≤ sizeLine; decide, fun p hp => ?_⟩
      generalize eH1 : L2.upd H p _ = H1
      obtain ⟨s1, e1⟩ := laid eH1 hp
      walk_at "rd"
      exact q p H1 _ _ s1 e1 (ht.mono s1) rfl
    · rcases hcx with ⟨rfl, _⟩ | ⟨l, r, rfl, hl, hr2⟩
      · simp only [wid] at hk c1; omega
      · obtain ⟨b1, b2, b3, b4⟩ := bt
        have c1' : k ≠ wid (.two l r) := fun z => c1 (by rw [z])
        simp only [hei] at hn h45
        simp only [wid] at hk
        obtain ⟨n', rfl⟩ : ∃ n', n = n' + 1 := ⟨n - 1, by omega⟩
        walk_at "rd"
        refine ⟨b, dx, [], rfl, hb, rfl, ?_⟩
        walk_at "rd"
        refine ⟨_, _, l, r, rfl, ht, fun p1 H1 x1 y1 s1 ht1 hl1 hr1 => ?_⟩
        walk_at "rd"
        refine ⟨p1, _, rfl, SqT.of ht1, rfl, ?_⟩
        walk_at "rd"
        obtain ⟨a1, dx1, x1l, x1r, rfl, h1, hc1⟩ := hl1.at_
        refine i_fldR h1 T.c_Stem T.n_Stem_width st_width ?_
        walk_at "rd"
        refine i_dec (fun c2 => ?_) (fun c2 => ?_)
        · have c2' : k ≤ wid l := by omega
          obtain ⟨_, _, _, _, o1, o2⟩ := ct_ok l k b1 c2'
          rw [ct_l (by omega) c1' c2'] at q
          walk_at "rd"
          refine ⟨b, dx, _, l, k, rfl, s1 _ _ hb, hl1, b1, c2', by omega, by omega, fun p2 H2 u2 v2 s2 ht2 hu2 hv2 => ?_⟩
          walk_at "rd"
          refine ⟨p2, _, rfl, SqT.of ht2, rfl, ?_⟩
          walk_at "rd"
          refine ⟨b, dx, v2, y1, _, some r, rfl, s2 _ _ (s1 _ _ hb), hv2, hr1.mono s2, by simp only [ohei] at *; omega, fun w3 H3 s3 t3 => ?_⟩
          walk_at "rd"
          refine ⟨by show 2 ≤ sizeLine; decide, fun p hp => ?_⟩
          generalize eH4 : L2.upd H3 p _ = H4
          obtain ⟨s4, e4⟩ := laid eH4 hp
          walk_at "rd"
          exact q p H4 _ _ (((s1.trans s2).trans s3).trans s4) e4 (hu2.mono (s3.trans s4)) (t3.mono s4)
        · have c2' : ¬ k ≤ wid l := by omega
          have c2'' : k - wid l ≤ wid r := by omega
          obtain ⟨_, _, _, _, o1, o2⟩ := ct_ok r (k - wid l) b2 c2''
          rw [ct_r (by omega) c1' c2'] at q
          walk_at "rd"
          refine i_fldR h1 T.c_Stem T.n_Stem_width st_width ?_
          walk_at "rd"
          rw [show ((k : Nat) : Int) - ((wid l : Nat) : Int) = ((k - wid l : Nat) : Int) by omega]
          refine ⟨b, dx, _, r, k - wid l, rfl, s1 _ _ hb, hr1, b2, c2'', by omega, by omega, fun p2 H2 u2 v2 s2 ht2 hu2 hv2 => ?_⟩
          walk_at "rd"
          refine ⟨p2, _, rfl, SqT.of ht2, rfl, ?_⟩
          walk_at "rd"
          refine ⟨b, dx, .ref a1, u2, some l, _, rfl, s2 _ _ (s1 _ _ hb), hl1.mono s2, hu2, by simp only [ohei] at *; omega, fun w3 H3 s3 t3 => ?_⟩
          walk_at "rd"
          refine ⟨by show 2 ≤ sizeLine; decide, fun p hp => ?_⟩
          generalize eH4 : L2.upd H3 p _ = H4
          obtain ⟨s4, e4⟩ := laid eH4 hp
          walk_at "rd"
          exact q p H4 _ _ (((s1.trans s2).trans s3).trans s4) e4 (t3.mono s4) (hv2.mono (s3.trans s4))
theorem c_row_cut (T : Txt K mg) (n : Nat) : Cal P w K mg base (n + 105 + 1) "row_cut" (spRowCut K n) := T.d_row_cut.rec_ sc_row_cut 105 (fun n vs H Q E h => by obtain ⟨_, _, _, _, _, rfl, _⟩ := h; rfl) (b_row_cut T (m_sides T) (c_row_joined T 100)) n
end

end K63

set_option maxHeartbeats 4000000
namespace K63
open PySem PySem.Spec PyProof.Rows L2 KB KM
/-- the tuples stay, and what is of a type stays of it -/
def Keeps (H H' : Hp) : Prop := Tups H H' ∧ ∀ v n, tyN H v = some n → tyN H' v = some n
theorem Keeps.of {H H' : Hp} (s : Same H H') : Keeps H H' := ⟨Same.tups s, fun v n h => by
  cases v with
  | ref p =>
    have k3 : (match H p with
      | some (.lst _) => some "list"
      | some (.tup _) => some "tuple"
      | some (.dK _) => some "dict"
      | some (.dT _) => some "dict"
      | some (.frz _ (.lst _)) => some "list"
      | _ => none) = some n := h
    cases eo : H p with
    | none => rw [eo] at k3; cases k3
    | some o =>
      have e8 := s _ _ eo
      simp only [tyN, e8]
      rw [eo] at k3
      exact k3
  | _ => exact h⟩
theorem Keeps.trans {H H1 H2 : Hp} (a : Keeps H H1) (b : Keeps H1 H2) : Keeps H H2 := ⟨fun c xs h => b.1 c xs (a.1 c xs h), fun v n h => b.2 v n (a.2 v n h)⟩
theorem Keeps.updL {H : Hp} {p : Addr} {xs ys : List V} (h : H p = some (.lst xs)) : Keeps H (L2.upd H p (.lst ys)) := by
  refine ⟨SameX.tups (f := p) SameX.upd h, fun v n k => ?_⟩
  cases v with
  | ref a =>
    by_cases c : a = p
    · subst c
      simp only [tyN, h] at k
      simp only [tyN, upd_same]
      exact k
    · simp only [tyN, upd_ne c] at k ⊢
      exact k
  | _ => exact k
theorem Keeps.ofX {H H' : Hp} {p : Addr} {xs ys : List V} (s : SameX p H H') (h : H p = some (.lst xs)) (h' : H' p = some (.lst ys)) : Keeps H H' := by
  refine ⟨SameX.tups s h, fun v n k => ?_⟩
  cases v with
  | ref a =>
    by_cases c : a = p
    · subst c
      simp only [tyN, h] at k
      simp only [tyN, h']
      exact k
    · cases eo : H a with
      | none => simp only [tyN, eo] at k; cases k
      | some o =>
        have e8 := s _ _ c eo
        simp only [tyN, e8]
        simp only [tyN, eo] at k
        exact k
  | _ => exact k
theorem GShp.keep {H H' : Hp} {v : V} {g : GS} (h : GShp H v g) (s : Keeps H H') : GShp H' v g := by
  induction h with
  | one => exact .one
  | two a _ _ ih1 ih2 => exact .two (s.1 _ _ a) ih1 ih2
  | bad a k t =>
    refine .bad a ⟨s.2 _ _ k.1, k.2⟩ fun e => ?_
    obtain ⟨a, xs, e1, e2, e3⟩ := t e
    exact ⟨a, xs, e1, s.1 _ _ e2, e3⟩
/-- what is no shape: a ref to a tuple of another length, a list, a dict, a scalar -/
theorem bad_tup {H : Hp} {a : Addr} {xs : List V} (h : H a = some (.tup xs)) (hl : xs.length ≠ 2) : GShp H (.ref a) .bad :=
  .bad (by intro z; cases z) (n := "tuple") ⟨tyN_tup h, by decide⟩ fun _ => ⟨a, xs, rfl, h, hl⟩
theorem bad_ty {H : Hp} {v : V} {n : String} (h0 : v ≠ .non) (h : tyN H v = some n) (hm : n ∈ TYS) (hn : n ≠ "tuple") : GShp H v .bad := .bad h0 ⟨h, hm⟩ fun e => absurd e hn
/-! things in a row -/
inductive Pl (H : Hp) : List V → Nat → Prop where
  | nil : Pl H [] 0
  | cons {v : V} {g : GS} {vs : List V} {n : Nat} : GShp H v g → Pl H vs n → Pl H (v :: vs) (gl g + n)
theorem Pl.keep {H H' : Hp} {vs : List V} {n : Nat} (h : Pl H vs n) (s : Keeps H H') : Pl H' vs n := by
  induction h with
  | nil => exact .nil
  | cons a _ ih => exact .cons (a.keep s) ih
theorem Pl.rep {H : Hp} : ∀ n, Pl H (List.replicate n .non) n
  | 0 => .nil
  | n + 1 => by
    have := Pl.cons (H := H) (g := .one) .one (Pl.rep n)
    rw [show gl .one + n = n + 1 by simp only [gl]; omega] at this
    exact this
theorem Pl.set {H : Hp} {v : V} (h : GShp H v .bad) : ∀ (n i : Nat), Pl H ((List.replicate n .non).set i v) n
  | 0, i => .nil
  | n + 1, 0 => by
    have := Pl.cons h (Pl.rep n)
    rw [show gl .bad + n = n + 1 by simp only [gl]; omega] at this
    exact this
  | n + 1, i + 1 => by
    have := Pl.cons (H := H) (g := .one) .one (Pl.set h n i)
    rw [show gl .one + n = n + 1 by simp only [gl]; omega] at this
    exact this
theorem Pl.splice {H : Hp} : ∀ (a : Nat) (vs : List V) (n : Nat), Pl H vs n → a + 1 < vs.length → ∃ v1 v2 g1 g2, vs[a]? = some v1 ∧ vs[a + 1]? = some v2 ∧ GShp H v1 g1 ∧ GShp H v2 g2 ∧
    ∀ H' t, Keeps H H' → GShp H' t (.two g1 g2) → Pl H' (vs.take a ++ [t] ++ vs.drop (a + 2)) n
  | _, _, _, .nil, h => by simp at h
  | 0, _, _, .cons h1 .nil, h => by simp at h
  | 0, _, _, .cons h1 (.cons h2 h3), h => by
    refine ⟨_, _, _, _, rfl, rfl, h1, h2, fun H' t k z => ?_⟩
    have := Pl.cons z (h3.keep k)
    simp only [gl] at this
    rw [Nat.add_assoc] at this
    exact this
  | a + 1, _, _, .cons h1 h2, h => by
    obtain ⟨v1, v2, g1, g2, e1, e2, k1, k2, k3⟩ := Pl.splice a _ _ h2 (by simpa using h)
    refine ⟨v1, v2, g1, g2, e1, e2, k1, k2, fun H' t k z => ?_⟩
    exact Pl.cons (h1.keep k) (k3 H' t k z)
theorem Pl.one {H : Hp} {vs : List V} {n : Nat} (h : Pl H vs n) (hl : vs.length = 1) : ∃ v g, vs = [v] ∧ GShp H v g ∧ gl g = n := by
  cases h with
  | nil => simp at hl
  | cons a b =>
    cases b with
    | nil => exact ⟨_, _, rfl, a, rfl⟩
    | cons _ _ => simp at hl
theorem rep_flat {v : V} : ∀ n, (List.replicate n [v]).flatten = List.replicate n v
  | 0 => rfl
  | n + 1 => by rw [List.replicate_succ, List.flatten_cons, rep_flat n, List.replicate_succ]; rfl

end K63

set_option maxHeartbeats 4000000
namespace K63
open PySem PySem.Spec PyProof.Rows L2 KB KM
section
variable {P : Program} {w : World} {K : PySem.W.Frag} {mg : Str → Option Value} {base : Heap}
theorem GShp.mono {H H' : Hp} {v : V} {g : GS} (h : GShp H v g) (s : Same H H') : GShp H' v g := by
  induction h with
  | one => exact .one
  | two a _ _ ih1 ih2 => exact .two (s _ _ a) ih1 ih2
  | bad a k t =>
    refine .bad a (kn_stay k s) fun e => ?_
    obtain ⟨a, xs, e1, e2, e3⟩ := t e
    exact ⟨a, xs, e1, s _ _ e2, e3⟩
/-! ### _law_is_shape -/
def spIsShape (n : Nat) : Sp := fun vs H Q _ => ∃ v g, vs = [v] ∧ GShp H v g ∧ gh g ≤ n ∧ Q (.bl (isSh g)) H
abbrev s__law_is_shape : Stmt := (top 49)
theorem sc__law_is_shape : FnScope ["thing"] ["thing"] (defScope s__law_is_shape) := ⟨rfl, rfl, rfl, by decide +kernel, rfl, by decide +kernel, by decide +kernel⟩
theorem b_law_is_shape (T : Txt K mg) (n : Nat) (C__law_is_shape : Cal P w K mg base (n + 0) "_law_is_shape" (spPre spIsShape n)) : Body P w K mg base (n + 0) ["thing"] "_law_is_shape" (defScope s__law_is_shape) (defBody s__law_is_shape) (spIsShape n) := by
  intro f cdv A outer s H vs Q E hr h
  obtain ⟨v, g, rfl, hg, hm, q⟩ := h
  have hu := hu_of hr
  have tk : Takes (cxOf (L2.CX P w) P w K mg base ["thing"] "_law_is_shape" (defScope s__law_is_shape) f cdv A outer s H E) (fun cls d _ H => E cls d H) := takes_of rfl rfl rfl rfl
  refine ⟨_, (pss_cons (ps_if (pt_cmpR op_isN1 (pv 0) pe_non (nomark _)) (pss_one (ps_ret pe_bl)) pss_nil)
    (pss_cons (ps_if (PW.pt (pw_or (pt_not (pt_val (pe_callB call_isN1 (by rfl) T.g_isinstance (by decide +kernel) (pa_cons (pv 0) (pa_cons (pe_ty "tuple" T.g_tuple) pa_nil))))) (pw_or1 (pt_cmpR op_ne (pe_callB call_lenK (by rfl) T.g_len (by decide +kernel) (pa_cons (pv 0) pa_nil)) pe_int (nomark _))))) (pss_one (ps_ret pe_bl)) pss_nil)
    (pss_one (ps_ret (pe_and (pe_cal C__law_is_shape hr (by omega) tk (pa_cons (pe_ix ix_seq (pv 0) pe_int (fun _ _ => rfl)) pa_nil)) (pe_one (pe_cal C__law_is_shape hr (by omega) tk (pa_cons (pe_ix ix_seq (pv 0) pe_int (fun _ _ => rfl)) pa_nil)))))))), ?_⟩
  refine i_start [some _] (by rfl) ?_
  try dsimp only [cxOf]
  walk_at "rd"
  cases hg with
  | one =>
    walk_at "rd"
    exact q
  | @bad _ nn hv hk ht =>
    refine i_isNx hv ?_
    walk_at "rd"
    refine i_inst hk.1 (ty_tuple nn hk.2) ?_
    walk_at "rd"
    cases et : (nn == "tuple") with
    | false =>
      walk_at "rd"
      refine i_T ?_
      walk_at "rd"
      exact q
    | true =>
      obtain ⟨a, xs, rfl, ha, hl⟩ := ht (beq_iff_eq.mp et)
      refine i_F ?_
      walk_at "rd"
      refine i_lenT (SqT.of ha) ?_
      walk_at "rd"
      refine i_ndec (fun _ => ?_) (fun z => absurd (by omega) hl)
      walk_at "rd"
      exact q
  | @two a x y l r ha hx hy =>
    simp only [gh] at hm
    obtain ⟨n', rfl⟩ : ∃ n', n = n' + 1 := ⟨n - 1, by omega⟩
    walk_at "rd"
    refine i_inst (tyN_tup ha) (ty_tuple "tuple" (by decide)) ?_
    walk_at "rd"
    refine i_F ?_
    walk_at "rd"
    refine i_lenT (SqT.of ha) ?_
    walk_at "rd"
    refine i_ndec (fun z => absurd rfl z) (fun _ => ?_)
    walk_at "rd"
    refine i_ixST (SqT.of ha) rfl ?_
    walk_at "rd"
    refine ⟨x, l, rfl, hx, by omega, ?_⟩
    walk_at "rd"
    simp only [isSh] at q
    refine i_bool (fun e => ?_) (fun e => ?_)
    · rw [e, Bool.true_and] at q
      walk_at "rd"
      refine i_ixST (SqT.of ha) rfl ?_
      walk_at "rd"
      exact ⟨y, r, rfl, hy, by omega, q⟩
    · rw [e, Bool.false_and] at q
      walk_at "rd"
      exact q
theorem c_law_is_shape (T : Txt K mg) (n : Nat) : Cal P w K mg base (n + 0 + 1) "_law_is_shape" (spIsShape n) := T.d__law_is_shape.rec_ sc__law_is_shape 0 (fun n vs H Q E h => by obtain ⟨_, _, rfl, _⟩ := h; rfl) (b_law_is_shape T) n
/-! ### _law_sizes -/
def Szs (H : Hp) (v : V) : Option (Nat × Nat) → Prop
  | none => v = .non
  | some (a, b) => ∃ p, v = .ref p ∧ H p = some (.tup [.int (a : Nat), .int (b : Nat)])
theorem Szs.mono {H H' : Hp} {v : V} {o : Option (Nat × Nat)} (h : Szs H v o) (s : Same H H') : Szs H' v o := by
  match o, h with
  | none, h => exact h
  | some (a, b), ⟨p, e, hp⟩ => exact ⟨p, e, s _ _ hp⟩
def spSizes (n : Nat) : Sp := fun vs H Q _ => ∃ v g, vs = [v] ∧ GShp H v g ∧ gh g ≤ n ∧ ∀ v' H', Same H H' → Szs H' v' (gsz g) → Q v' H'
abbrev s__law_sizes : Stmt := (top 48)
theorem sc__law_sizes : FnScope ["shape", "one", "other"] ["shape"] (defScope s__law_sizes) := ⟨rfl, rfl, rfl, by decide +kernel, rfl, by decide +kernel, by decide +kernel⟩
theorem b_law_sizes (T : Txt K mg) (n : Nat) (C__law_sizes : Cal P w K mg base (n + 0) "_law_sizes" (spPre spSizes n)) : Body P w K mg base (n + 0) ["shape", "one", "other"] "_law_sizes" (defScope s__law_sizes) (defBody s__law_sizes) (spSizes n) := by
  intro f cdv A outer s H vs Q E hr h
  obtain ⟨v, g, rfl, hg, hm, q⟩ := h
  have hu := hu_of hr
  have tk : Takes (cxOf (L2.CX P w) P w K mg base ["shape", "one", "other"] "_law_sizes" (defScope s__law_sizes) f cdv A outer s H E) (fun cls d _ H => E cls d H) := takes_of rfl rfl rfl rfl
  refine ⟨_, (pss_cons (ps_if (pt_cmpR op_isN1 (pv 0) pe_non (nomark _)) (pss_one (ps_ret (pe_tup (pa_cons pe_int (pa_cons pe_int pa_nil))))) pss_nil)
    (pss_cons (ps_if (PW.pt (pw_or (pt_not (pt_val (pe_callB call_isN1 (by rfl) T.g_isinstance (by decide +kernel) (pa_cons (pv 0) (pa_cons (pe_ty "tuple" T.g_tuple) pa_nil))))) (pw_or1 (pt_cmpR op_ne (pe_callB call_lenK (by rfl) T.g_len (by decide +kernel) (pa_cons (pv 0) pa_nil)) pe_int (nomark _))))) (pss_one (ps_ret pe_non)) pss_nil)
    (pss_cons (ps_par (i := 1) (j := 2) (by rfl) sc__law_sizes.nd rfl rfl (by decide) rfl rfl (pa_cons (pe_cal C__law_sizes hr (by omega) tk (pa_cons (pe_ix ix_seq (pv 0) pe_int (fun _ _ => rfl)) pa_nil)) (pa_cons (pe_cal C__law_sizes hr (by omega) tk (pa_cons (pe_ix ix_seq (pv 0) pe_int (fun _ _ => rfl)) pa_nil)) pa_nil)) (by rfl))
    (pss_cons (ps_if (PW.pt (pw_or (pt_cmpR op_isN1 (pv 1) pe_non (nomark _)) (pw_or (pt_cmpR op_isN1 (pv 2) pe_non (nomark _)) (pw_or1 (pt_cmpR op_gt (pe_callB call_absK (by rfl) T.g_abs (by decide +kernel) (pa_cons (pe_op op_sub (pe_ix ix_seq (pv 1) pe_int (fun _ _ => rfl)) (pe_ix ix_seq (pv 2) pe_int (fun _ _ => rfl))) pa_nil)) pe_int (nomark _)))))) (pss_one (ps_ret pe_non)) pss_nil)
    (pss_one (ps_ret (pe_tup (pa_cons (pe_op op_add (pe_ix ix_seq (pv 1) pe_int (fun _ _ => rfl)) (pe_ix ix_seq (pv 2) pe_int (fun _ _ => rfl))) (pa_cons (pe_op op_add pe_int (pe_callB (call_max2K rfl) (by rfl) T.g_max (by decide +kernel) (pa_cons (pe_ix ix_seq (pv 1) pe_int (fun _ _ => rfl)) (pa_cons (pe_ix ix_seq (pv 2) pe_int (fun _ _ => rfl)) pa_nil)))) pa_nil))))))))), ?_⟩
  refine i_start [some _, none, none] (by rfl) ?_
  try dsimp only [cxOf]
  walk_at "rd"
  cases hg with
  | one =>
    walk_at "rd"
    refine ⟨by show 2 ≤ sizeLine; decide, fun p hp => ?_⟩
    walk_at "rd"
    exact q _ _ (Same.new hp) ⟨p, rfl, upd_same⟩
  | @bad _ nn hv hk ht =>
    refine i_isNx hv ?_
    walk_at "rd"
    refine i_inst hk.1 (ty_tuple nn hk.2) ?_
    walk_at "rd"
    cases et : (nn == "tuple") with
    | false =>
      walk_at "rd"
      refine i_T ?_
      walk_at "rd"
      exact q _ H (Same.refl H) rfl
    | true =>
      obtain ⟨a, xs, rfl, ha, hl⟩ := ht (beq_iff_eq.mp et)
      refine i_F ?_
      walk_at "rd"
      refine i_lenT (SqT.of ha) ?_
      walk_at "rd"
      refine i_ndec (fun _ => ?_) (fun z => absurd (by omega) hl)
      walk_at "rd"
      exact q _ H (Same.refl H) rfl
  | @two a x y l r ha hx hy =>
    simp only [gh] at hm
    obtain ⟨n', rfl⟩ : ∃ n', n = n' + 1 := ⟨n - 1, by omega⟩
    walk_at "rd"
    refine i_inst (tyN_tup ha) (ty_tuple "tuple" (by decide)) ?_
    walk_at "rd"
    refine i_F ?_
    walk_at "rd"
    refine i_lenT (SqT.of ha) ?_
    walk_at "rd"
    refine i_ndec (fun z => absurd rfl z) (fun _ => ?_)
    walk_at "rd"
    refine i_ixST (SqT.of ha) rfl ?_
    walk_at "rd"
    refine ⟨x, l, rfl, hx, by omega, fun v1 H1 s1 z1 => ?_⟩
    walk_at "rd"
    refine i_ixST (SqT.of (s1 _ _ ha)) rfl ?_
    walk_at "rd"
    refine ⟨y, r, rfl, hy.mono s1, by omega, fun v2 H2 s2 z2 => ?_⟩
    walk_at "rd"
    have S2 : Same H H2 := s1.trans s2
    simp only [gsz] at q
    cases el : gsz l with
    | none =>
      rw [el] at z1 q
      obtain rfl : v1 = .non := z1
      walk_at "rd"
      exact q _ H2 S2 rfl
    | some lz =>
      obtain ⟨a1, b1⟩ := lz
      rw [el] at z1 q
      obtain ⟨p1, rfl, hp1⟩ := z1
      walk_at "rd"
      cases er : gsz r with
      | none =>
        rw [er] at z2 q
        obtain rfl : v2 = .non := z2
        walk_at "rd"
        exact q _ H2 S2 rfl
      | some rz =>
        obtain ⟨a2, b2⟩ := rz
        rw [er] at z2 q
        obtain ⟨p2, rfl, hp2⟩ := z2
        have hp1' : H2 p1 = _ := s2 _ _ hp1
        walk_at "rd"
        refine i_ixST (SqT.of hp1') rfl ?_
        walk_at "rd"
        refine i_ixST (SqT.of hp2) rfl ?_
        walk_at "rd"
        refine i_dec (fun h1 => ?_) (fun h1 => ?_)
        · have e1 : ¬ (b1 ≤ b2 + 1 ∧ b2 ≤ b1 + 1) := by intro z; split at h1 <;> omega
          simp only [if_neg e1] at q
          walk_at "rd"
          exact q _ H2 S2 rfl
        · have e1 : b1 ≤ b2 + 1 ∧ b2 ≤ b1 + 1 := by constructor <;> (split at h1 <;> omega)
          simp only [if_pos e1] at q
          walk_at "rd"
          refine i_ixST (SqT.of hp1') rfl ?_
          walk_at "rd"
          refine i_ixST (SqT.of hp2) rfl ?_
          walk_at "rd"
          refine i_ixST (SqT.of hp1') rfl ?_
          walk_at "rd"
          refine i_ixST (SqT.of hp2) rfl ?_
          walk_at "rd"
          refine ⟨by show 2 ≤ sizeLine; decide, fun p hp => ?_⟩
          walk_at "rd"
          refine q _ _ (S2.trans (Same.new hp)) ⟨p, rfl, ?_⟩
          have e2 : ((a1 : Nat) : Int) + (a2 : Nat) = ((a1 + a2 : Nat) : Int) := by omega
          have e3 : (1 : Int) + max ((b1 : Nat) : Int) ((b2 : Nat) : Int) = ((1 + max b1 b2 : Nat) : Int) := by omega
          rw [upd_same, e2, e3]
theorem c_law_sizes (T : Txt K mg) (n : Nat) : Cal P w K mg base (n + 0 + 1) "_law_sizes" (spSizes n) := T.d__law_sizes.rec_ sc__law_sizes 0 (fun n vs H Q E h => by obtain ⟨_, _, rfl, _⟩ := h; rfl) (b_law_sizes T) n
/-! ### _law_trouble -/
def trb (g : GS) : Str := if isSh g = true then (if gsz g = none then "BadBalance" else "") else "BadShape"
def spTrouble : Sp := fun vs H Q _ => ∃ v g, vs = [v] ∧ GShp H v g ∧ gh g ≤ 40 ∧ ∀ H', Same H H' → Q (.str (trb g)) H'
abbrev s__law_trouble : Stmt := (top 47)
theorem sc__law_trouble : FnScope ["thing"] ["thing"] (defScope s__law_trouble) := ⟨rfl, rfl, rfl, by decide +kernel, rfl, by decide +kernel, by decide +kernel⟩
theorem b_law_trouble (T : Txt K mg) (C__law_is_shape : Cal P w K mg base 41 "_law_is_shape" (spIsShape 40)) (C__law_sizes : Cal P w K mg base 41 "_law_sizes" (spSizes 40)) : Body P w K mg base (41) ["thing"] "_law_trouble" (defScope s__law_trouble) (defBody s__law_trouble) spTrouble := by
  intro f cdv A outer s H vs Q E hr h
  obtain ⟨v, g, rfl, hg, hm, q⟩ := h
  unfold trb at q
  have hu := hu_of hr
  have tk : Takes (cxOf (L2.CX P w) P w K mg base ["thing"] "_law_trouble" (defScope s__law_trouble) f cdv A outer s H E) (fun cls d _ H => E cls d H) := takes_of rfl rfl rfl rfl
  refine ⟨_, (pss_cons (ps_if (pt_not (pt_val (pe_cal C__law_is_shape hr (by omega) tk (pa_cons (pv 0) pa_nil)))) (pss_one (ps_ret pe_str)) pss_nil)
    (pss_one (ps_ret (pe_ifExp (pt_cmpR op_isN1 (pe_cal C__law_sizes hr (by omega) tk (pa_cons (pv 0) pa_nil)) pe_non (nomark _)) pe_str pe_str)))), ?_⟩
  refine i_start [some _] (by rfl) ?_
  try dsimp only [cxOf]
  walk_at "rd"
  refine ⟨v, g, rfl, hg, hm, ?_⟩
  walk_at "rd"
  cases e : isSh g with
  | false =>
    rw [e] at q
    walk_at "rd"
    refine i_T ?_
    walk_at "rd"
    exact q H (Same.refl H)
  | true =>
    rw [e] at q
    refine i_F ?_
    walk_at "rd"
    refine ⟨v, g, rfl, hg, hm, fun v1 H1 s1 z1 => ?_⟩
    walk_at "rd"
    cases el : gsz g with
    | none =>
      rw [el] at z1 q
      obtain rfl : v1 = .non := z1
      walk_at "rd"
      exact q H1 s1
    | some lz =>
      obtain ⟨a1, b1⟩ := lz
      rw [el] at z1 q
      obtain ⟨p1, rfl, hp1⟩ := z1
      walk_at "rd"
      exact q H1 s1
theorem c_law_trouble (T : Txt K mg) : Cal P w K mg base 42 "_law_trouble" spTrouble := T.d__law_trouble.cal sc__law_trouble (fun vs H Q E h => by obtain ⟨_, _, rfl, _⟩ := h; rfl) (b_law_trouble T (c_law_is_shape T 40) (c_law_sizes T 40))
/-! ### _law_any_balanced -/
def spAnyBal : Sp := fun vs H Q _ => ∃ (fd : Addr) (m most : Nat) (xs : List V), vs = [.ref fd, .int (most : Nat)] ∧ H fd = some (.lst xs) ∧ FdL m xs ∧ 1 ≤ most ∧ most ≤ 1500 ∧ m ≤ 900000 ∧
  ∀ v s zs H', SameX fd H H' → H' fd = some (.lst zs) → FdL (m + 2 * most) zs → Shp H' v s → bal s → wid s ≤ most → hei s ≤ 40 → Q v H'
theorem fit_between {wd T h : Nat} (tl : Tl wd T) (h1 : 1 ≤ wd) (a : bits (wd - 1) ≤ h) (b : h ≤ T) : Fit wd h := by
  refine ⟨?_, ?_⟩
  · have := (tl.fit h1).1
    have := L_mono b
    omega
  · have k : wd - 1 < 2 ^ bits (wd - 1) := by
      by_cases c : wd - 1 = 0
      · rw [c]; exact Nat.two_pow_pos _
      · rw [bits_log _ c]; exact Nat.lt_log2_self
    have := Nat.pow_le_pow_right (show 0 < 2 by decide) a
    omega
theorem bits_le_tl {wd T : Nat} (tl : Tl wd T) (h1 : 1 ≤ wd) : bits (wd - 1) ≤ T := by
  have k := (tl.fit h1).2
  by_cases c : wd - 1 = 0
  · rw [c, bits_0]; omega
  · rw [bits_log _ c]
    have := (Nat.log2_lt c).mpr (show wd - 1 < 2 ^ T by omega)
    omega
abbrev s__law_any_balanced : Stmt := (top 44)
theorem sc__law_any_balanced : FnScope ["feed", "most", "width", "low"] ["feed", "most"] (defScope s__law_any_balanced) := ⟨rfl, rfl, rfl, by decide +kernel, rfl, by decide +kernel, by decide +kernel⟩
theorem b_law_any_balanced (T : Txt K mg) (C__law_draw : Cal P w K mg base 1 "_law_draw" spDraw) (C__law_tallest : Cal P w K mg base 2 "_law_tallest" spLTallest)
    (C__law_balanced : Cal P w K mg base 23 "_law_balanced" (spBalanced 20)) : Body P w K mg base (23) ["feed", "most", "width", "low"] "_law_any_balanced" (defScope s__law_any_balanced) (defBody s__law_any_balanced) spAnyBal := by
  intro f cdv A outer s H vs Q E hr h
  obtain ⟨fd, m, most, xs, rfl, hf, hF, h1, h2, hm, q⟩ := h
  have hu := hu_of hr
  have tk : Takes (cxOf (L2.CX P w) P w K mg base ["feed", "most", "width", "low"] "_law_any_balanced" (defScope s__law_any_balanced) f cdv A outer s H E) (fun cls d _ H => E cls d H) := takes_of rfl rfl rfl rfl
  refine ⟨_, (pss_cons (ps_set (i := 2) sc__law_any_balanced.nd rfl (Or.inl rfl) (pe_op op_add pe_int (pe_cal C__law_draw hr (by omega) tk (pa_cons (pv 0) (pa_cons (pv 1) pa_nil)))))
    (pss_cons (ps_set (i := 3) sc__law_any_balanced.nd rfl (Or.inl rfl) (pe_bits (pe_op op_sub (pv 2) pe_int)))
    (pss_one (ps_ret (pe_cal C__law_balanced hr (by omega) tk (pa_cons (pv 0) (pa_cons (pv 2) (pa_cons (pe_op op_add (pv 3) (pe_cal C__law_draw hr (by omega) tk (pa_cons (pv 0) (pa_cons (pe_op op_add (pe_op op_sub (pe_cal C__law_tallest hr (by omega) tk (pa_cons (pv 2) pa_nil)) (pv 3)) pe_int) pa_nil)))) pa_nil)))))))), ?_⟩
  refine i_start [some _, some _, none, none] (by rfl) ?_
  try dsimp only [cxOf]
  walk_at "rd"
  refine ⟨fd, most, m, xs, rfl, hf, hF, by omega, by omega, by omega, fun g ys g0 g1 hy => ?_⟩
  obtain ⟨wd, ewd⟩ : ∃ wd : Nat, 1 + g = (wd : Int) := ⟨(1 + g).toNat, by omega⟩
  walk_at "rd"
  rw [ewd, bits_is wd (by omega)]
  walk_at "rd"
  refine ⟨wd, rfl, by omega, fun T2 H1 s1 tl => ?_⟩
  have hT := tl.le (by omega)
  have lo := bits_le_tl tl (by omega)
  walk_at "rd"
  refine ⟨fd, _, m + 1, ys, rfl, s1 _ _ upd_same, hy, by omega, by omega, by omega, fun g' zs g0' g1' hz => ?_⟩
  walk_at "rd"
  obtain ⟨h, eh⟩ : ∃ h : Nat, ((bits (wd - 1) : Nat) : Int) + g' = (h : Int) := ⟨(((bits (wd - 1) : Nat) : Int) + g').toNat, by omega⟩
  rw [eh]
  refine ⟨fd, wd, h, m + 2, zs, rfl, upd_same, hz, fit_between tl (by omega) (by omega) (by omega), by omega, by omega, by omega, by omega, fun v sh us H' sx e1 e2 e3 e4 e5 e6 => ?_⟩
  refine q v sh us H' ?_ e1 (e2.mono (by omega)) e3 e4 (by omega) (by omega)
  exact SameX.trans (SameX.trans (SameX.trans SameX.upd (SameX.of s1)) SameX.upd) sx
theorem c_law_any_balanced (T : Txt K mg) : Cal P w K mg base 24 "_law_any_balanced" spAnyBal :=
  T.d__law_any_balanced.cal sc__law_any_balanced (fun vs H Q E h => by obtain ⟨_, _, _, _, rfl, _⟩ := h; rfl) (b_law_any_balanced T (c_draw T) (c_ltallest T) (c_balanced T 20))
end

end K63

set_option maxHeartbeats 4000000
namespace K63
open PySem PySem.Spec PyProof.Rows L2 KB KM
section
variable {P : Program} {w : World} {K : PySem.W.Frag} {mg : Str → Option Value} {base : Heap}
/-! ### _law_grown -/
def spGrown : Sp := fun vs H Q _ => ∃ (fd : Addr) (m many : Nat) (sp : Int) (xs : List V), vs = [.ref fd, .int (many : Nat), .int sp] ∧ H fd = some (.lst xs) ∧ FdL m xs ∧ 1 ≤ many ∧ many ≤ 12 ∧ sp < many ∧ m ≤ 900000 ∧
  ∀ v g zs H', SameX fd H H' → H' fd = some (.lst zs) → FdL (m + 20) zs → GShp H' v g → gl g = many → Q v H'
abbrev s__law_grown : Stmt := (top 45)
theorem sc__law_grown : FnScope ["feed", "many", "spoil", "pool", "turn", "at"] ["feed", "many", "spoil"] (defScope s__law_grown) := ⟨rfl, rfl, rfl, by decide +kernel, rfl, by decide +kernel, by decide +kernel⟩
theorem b_law_grown (T : Txt K mg) (C__law_one : Cal P w K mg base 2 "_law_one" spOne) (C__law_draw : Cal P w K mg base 1 "_law_draw" spDraw) : Body P w K mg base (2) ["feed", "many", "spoil", "pool", "turn", "at"] "_law_grown" (defScope s__law_grown) (defBody s__law_grown) spGrown := by
  intro f cdv A outer s H vs Q E hr h
  obtain ⟨fd, m, many, sp, xs, rfl, hf, hF, h1, h12, hsp, hm, q⟩ := h
  have line : (200 : Nat) ≤ sizeLine := by decide
  have hu := hu_of hr
  have tk : Takes (cxOf (L2.CX P w) P w K mg base ["feed", "many", "spoil", "pool", "turn", "at"] "_law_grown" (defScope s__law_grown) f cdv A outer s H E) (fun cls d _ H => E cls d H) := takes_of rfl rfl rfl rfl
  refine ⟨_, (pss_cons (ps_set (i := 3) sc__law_grown.nd rfl (Or.inl rfl) (pe_op op_rep (pe_lst (pa_cons pe_non pa_nil)) (pv 1)))
    (Evl.pss_cut (ps_if (pt_cmpR op_ge (pv 2) pe_int (nomark _)) (pss_one (ps_asg (pe_cal C__law_one hr (by omega) tk (pa_cons (pv 0) (pa_cons (pe_lst (pa_cons pe_bl (pa_cons pe_bl (pa_cons pe_int (pa_cons pe_int (pa_cons pe_str (pa_cons pe_str (pa_cons (pe_tup pa_nil) (pa_cons (pe_lst pa_nil) (pa_cons pe_dnewK (pa_cons (pe_tup (pa_cons pe_non pa_nil)) (pa_cons (pe_lst (pa_cons pe_non (pa_cons pe_non pa_nil))) (pa_cons (pe_tup (pa_cons pe_non (pa_cons pe_non (pa_cons pe_non pa_nil)))) pa_nil))))))))))))) pa_nil))) (pg_sub (pv 3) (pv 2) set_list))) pss_nil)
    (pss_cons (ps_for (passes_of rfl) rfl (pi_range1 rfl T.g_range (pa_cons (pe_op op_sub (pv 1) pe_int) pa_nil)) (pg_name (i := 4) sc__law_grown.nd rfl (Or.inl rfl)) (pss_cons (ps_set (i := 5) sc__law_grown.nd rfl (Or.inl rfl) (pe_cal C__law_draw hr (by omega) tk (pa_cons (pv 0) (pa_cons (pe_op op_sub (pe_callB call_lenK (by rfl) T.g_len (by decide +kernel) (pa_cons (pv 3) pa_nil)) pe_int) pa_nil))))
    (pss_one (ps_asg (pe_lst (pa_cons (pe_tup (pa_cons (pe_ix ix_list (pv 3) (pv 5) (fun _ _ => rfl)) (pa_cons (pe_ix ix_list (pv 3) (pe_op op_add (pv 5) pe_int) (fun _ _ => rfl)) pa_nil))) pa_nil)) (pg_slc (pv 3) (pv 5) (pe_op op_add (pv 5) pe_int))))))
    (pss_one (ps_ret (pe_ix ix_list (pv 3) pe_int (fun _ _ => rfl))))))), ?_⟩
  refine i_start [some _, some _, some _, none, none, none] (by rfl) ?_
  try dsimp only [cxOf]
  walk_at "rd"
  refine ⟨by show 1 ≤ sizeLine; decide, fun l0 hl0 => ?_⟩
  generalize eH1 : L2.upd H l0 _ = H1
  obtain ⟨s1, e1⟩ := laid eH1 hl0
  walk_at "rd"
  refine ⟨l0, _, _, rfl, rfl, e1, by omega, by omega, by rw [List.length_singleton, Int.toNat_natCast]; omega, fun pl hpl => ?_⟩
  rw [Int.toNat_natCast, rep_flat]
  generalize eH2 : L2.upd H1 pl _ = H2
  obtain ⟨s2, e2⟩ := laid eH2 hpl
  have S2 := s1.trans s2
  have npf : pl ≠ fd := fun z => by rw [z, s1 _ _ hf] at hpl; cases hpl
  have npH : H pl = none := s1.free hpl
  walk_at "rd"
  refine i_cut (fun s3 h3 => ∃ b3 b4 vs zs, s3 = [some (.ref fd), some (.int many), some (.int sp), some (.ref pl), b3, b4] ∧ SameX fd H h3 ∧ h3 fd = some (.lst zs) ∧ FdL (m + 1) zs ∧ h3 pl = some (.lst vs) ∧ vs.length = many ∧ Pl h3 vs many) ?_ ?_
  · walk_at "rd"
    refine i_dec (fun c => ?_) (fun c => ?_)
    · obtain ⟨sn, rfl⟩ : ∃ sn : Nat, sp = (sn : Int) := ⟨sp.toNat, by omega⟩
      walk_at "rd"
      refine ⟨Nat.zero_le _, fun t1 ht1 => ?_⟩
      generalize eH3 : L2.upd H2 t1 _ = H3
      obtain ⟨s3, e3⟩ := laid eH3 ht1
      walk_at "rd"
      refine ⟨Nat.zero_le _, fun t2 ht2 => ?_⟩
      generalize eH4 : L2.upd H3 t2 _ = H4
      obtain ⟨s4, e4⟩ := laid eH4 ht2
      walk_at "rd"
      refine fun t3 ht3 => ?_
      generalize eH5 : L2.upd H4 t3 _ = H5
      obtain ⟨s5, e5⟩ := laid eH5 ht3
      walk_at "rd"
      refine ⟨by show 1 ≤ sizeLine; decide, fun t4 ht4 => ?_⟩
      generalize eH6 : L2.upd H5 t4 _ = H6
      obtain ⟨s6, e6⟩ := laid eH6 ht4
      walk_at "rd"
      refine ⟨by show 2 ≤ sizeLine; decide, fun t5 ht5 => ?_⟩
      generalize eH7 : L2.upd H6 t5 _ = H7
      obtain ⟨s7, e7⟩ := laid eH7 ht5
      walk_at "rd"
      refine ⟨by show 3 ≤ sizeLine; decide, fun t6 ht6 => ?_⟩
      generalize eH8 : L2.upd H7 t6 _ = H8
      obtain ⟨s8, e8⟩ := laid eH8 ht6
      walk_at "rd"
      refine ⟨by show 12 ≤ sizeLine; decide, fun l9 hl9 => ?_⟩
      generalize eH9 : L2.upd H8 l9 _ = H9
      obtain ⟨s9, e9⟩ := laid eH9 hl9
      have S9 : Same H2 H9 := (((((s3.trans s4).trans s5).trans s6).trans s7).trans s8).trans s9
      have hf9 : H9 fd = some (.lst xs) := S9 _ _ (S2 _ _ hf)
      have n9 : l9 ≠ fd := fun z => by
        have : H8 fd = some (.lst xs) := (((((s3.trans s4).trans s5).trans s6).trans s7).trans s8) _ _ (S2 _ _ hf)
        rw [z, this] at hl9; cases hl9
      walk_at "rd"
      refine ⟨fd, l9, m, xs, _, rfl, hf9, hF, by omega, e9, n9, by simp, by show 12 ≤ 100000; decide, fun v zs hv hz => ?_⟩
      generalize eH10 : L2.upd H9 fd _ = H10
      have x10 : SameX fd H9 H10 := by rw [← eH10]; exact SameX.upd
      have f10 : H10 fd = some (.lst zs) := by rw [← eH10]; exact upd_same
      have k10 : Keeps H9 H10 := Keeps.ofX x10 hf9 f10
      have bad : GShp H10 v .bad := by
        refine GShp.keep ?_ k10
        simp only [List.mem_cons, List.not_mem_nil, or_false] at hv
        rcases hv with rfl | rfl | rfl | rfl | rfl | rfl | rfl | rfl | rfl | rfl | rfl | rfl
        · exact bad_ty (n := "bool") (by intro z; cases z) rfl (by decide) (by decide)
        · exact bad_ty (n := "bool") (by intro z; cases z) rfl (by decide) (by decide)
        · exact bad_ty (n := "int") (by intro z; cases z) rfl (by decide) (by decide)
        · exact bad_ty (n := "int") (by intro z; cases z) rfl (by decide) (by decide)
        · exact bad_ty (n := "str") (by intro z; cases z) rfl (by decide) (by decide)
        · exact bad_ty (n := "str") (by intro z; cases z) rfl (by decide) (by decide)
        · exact bad_tup ((((((s4.trans s5).trans s6).trans s7).trans s8).trans s9) _ _ e3) (by decide)
        · exact bad_ty (n := "list") (by intro z; cases z) (tyN_lst (((((s5.trans s6).trans s7).trans s8).trans s9) _ _ e4)) (by decide) (by decide)
        · exact bad_ty (n := "dict") (by intro z; cases z) (by simp only [tyN, ((((s6.trans s7).trans s8).trans s9) _ _ e5)]) (by decide) (by decide)
        · exact bad_tup (((s7.trans s8).trans s9) _ _ e6) (by decide)
        · exact bad_ty (n := "list") (by intro z; cases z) (tyN_lst ((s8.trans s9) _ _ e7)) (by decide) (by decide)
        · exact bad_tup (s9 _ _ e8) (by decide)
      have p10 : H10 pl = some (.lst (List.replicate many .non)) := x10 _ _ npf (S9 _ _ e2)
      walk_at "rd"
      refine i_setL p10 (j := sn) ?_ ?_
      · rw [List.length_replicate]
        exact Evl.ixN_nat (by omega)
      · walk_at "rd"
        have kk : Keeps H10 (L2.upd H10 pl (.lst ((List.replicate many V.non).set sn v))) := Keeps.updL p10
        refine ⟨_, _, _, zs, rfl, fun b o nb e => ?_, (upd_ne npf.symm).trans f10, hz, upd_same, by rw [List.length_set, List.length_replicate], (Pl.set bad many sn).keep kk⟩
        have nb2 : b ≠ pl := fun z => by rw [z, npH] at e; cases e
        rw [upd_ne nb2]
        exact x10 _ _ nb (S9 _ _ (S2 _ _ e))
    · walk_at "rd"
      exact ⟨_, _, _, xs, rfl, SameX.of S2, S2 _ _ hf, hF.mono (by omega), e2, List.length_replicate, Pl.rep many⟩
  · rintro s3 h3 ⟨b3, b4, vs, zs, rfl, sx, hf3, hF3, hp3, hlen, hpl3⟩
    clear S2
    walk_at "rd"
    refine ⟨_, rfl, by omega, by omega, ?_⟩
    refine for_range (lo := 0) (n := ((many : Int) - 1).toNat) (fun i s h => ∃ b4 b5 vs zs, s = [some (.ref fd), some (.int many), some (.int sp), some (.ref pl), b4, b5] ∧ SameX fd H h ∧ h fd = some (.lst zs) ∧ FdL (m + 1 + i) zs ∧ h pl = some (.lst vs) ∧ vs.length + i = many ∧ Pl h vs many)
      ⟨_, _, vs, zs, rfl, sx, hf3, hF3, hp3, by omega, hpl3⟩ ?_ ?_
    · rintro i s h hi ⟨b4, b5, vs, zs, rfl, sx, hf4, hF4, hp4, hlen, hpl4⟩
      have hi2 : i + 1 < many := by omega
      walk_at "rd"
      refine i_lenL (SqL.of hp4) ?_
      walk_at "rd"
      refine ⟨fd, _, m + 1 + i, zs, rfl, hf4, hF4, by omega, by omega, by omega, fun g ys g0 g1 hy => ?_⟩
      obtain ⟨a, rfl⟩ : ∃ a : Nat, g = (a : Int) := ⟨g.toNat, by omega⟩
      generalize eH5 : L2.upd h fd _ = H5
      have x5 : SameX fd h H5 := by rw [← eH5]; exact SameX.upd
      have f5 : H5 fd = some (.lst ys) := by rw [← eH5]; exact upd_same
      have k5 : Keeps h H5 := Keeps.ofX x5 hf4 f5
      have p5 : H5 pl = some (.lst vs) := x5 _ _ npf hp4
      obtain ⟨v1, v2, g1', g2', ev1, ev2, k1, k2, k3⟩ := Pl.splice a vs many (hpl4.keep k5) (by omega)
      walk_at "rd"
      refine i_ixL (SqL.of p5) (atI_nat ev1) ?_
      walk_at "rd"
      rw [show ((a : Nat) : Int) + 1 = ((a + 1 : Nat) : Int) by omega]
      refine i_ixL (SqL.of p5) (atI_nat ev2) ?_
      walk_at "rd"
      refine ⟨by show 2 ≤ sizeLine; decide, fun t6 ht6 => ?_⟩
      generalize eH6 : L2.upd H5 t6 _ = H6
      obtain ⟨s6, e6⟩ := laid eH6 ht6
      walk_at "rd"
      refine ⟨by show 1 ≤ sizeLine; decide, fun l7 hl7 => ?_⟩
      generalize eH7 : L2.upd H6 l7 _ = H7
      obtain ⟨s7, e7⟩ := laid eH7 hl7
      have S7 : Same H5 H7 := s6.trans s7
      have p7 : H7 pl = some (.lst vs) := S7 _ _ p5
      have n7 : pl ≠ l7 := fun z => by rw [← z, s6 _ _ p5] at hl7; cases hl7
      walk_at "rd"
      refine ⟨pl, l7, vs, _, a, a + 2, rfl, rfl, rfl, by rw [Int.natCast_add]; rfl, p7, e7, n7, by omega, by omega, by rw [List.length_singleton]; omega, ?_⟩
      walk_at "rd"
      have kp : Keeps H7 (L2.upd H7 pl (.lst (vs.take a ++ [.ref t6] ++ vs.drop (a + 2)))) := Keeps.updL p7
      refine ⟨_, _, _, ys, rfl, fun b o nb e => ?_, (upd_ne npf.symm).trans (S7 _ _ f5), hy, upd_same, ?_, k3 _ _ ((Keeps.of S7).trans kp) (.two (kp.1 _ _ (s7 _ _ e6)) (k1.keep ((Keeps.of S7).trans kp)) (k2.keep ((Keeps.of S7).trans kp)))⟩
      · have nb2 : b ≠ pl := fun z => by rw [z, npH] at e; cases e
        rw [upd_ne nb2]
        exact S7 _ _ (x5 _ _ nb (sx _ _ nb e))
      · rw [List.length_append, List.length_append, List.length_take, List.length_drop, List.length_singleton]
        omega
    · rintro s h ⟨b4, b5, vs, zs, rfl, sx, hf4, hF4, hp4, hlen, hpl4⟩
      obtain ⟨v, g, rfl, hg, hgl⟩ := hpl4.one (by omega)
      walk_at "rd"
      refine i_ixL (SqL.of hp4) rfl ?_
      walk_at "rd"
      exact q v g zs h sx hf4 (hF4.mono (by omega)) hg hgl
theorem c_law_grown (T : Txt K mg) : Cal P w K mg base 3 "_law_grown" spGrown := T.d__law_grown.cal sc__law_grown (fun vs H Q E h => by obtain ⟨_, _, _, _, _, rfl, _⟩ := h; rfl) (b_law_grown T (c_one T) (c_draw T))
/-! ### _law_shape -/
def spLShape : Sp := fun vs H Q _ => ∃ (fd : Addr) (m most : Nat) (xs : List V), vs = [.ref fd, .int (most : Nat)] ∧ H fd = some (.lst xs) ∧ FdL m xs ∧ 40 ≤ most ∧ most ≤ 1500 ∧ m ≤ 800000 ∧
  ∀ v g zs H', SameX fd H H' → H' fd = some (.lst zs) → FdL (m + 3100) zs → GShp H' v g → gh g ≤ 40 → gl g ≤ most → Q v H'
abbrev s__law_shape : Stmt := (top 46)
theorem sc__law_shape : FnScope ["feed", "most", "way", "many"] ["feed", "most"] (defScope s__law_shape) := ⟨rfl, rfl, rfl, by decide +kernel, rfl, by decide +kernel, by decide +kernel⟩
theorem b_law_shape (T : Txt K mg) (C__law_draw : Cal P w K mg base 1 "_law_draw" spDraw) (C__law_any_balanced : Cal P w K mg base 24 "_law_any_balanced" spAnyBal) (C__law_grown : Cal P w K mg base 3 "_law_grown" spGrown) : Body P w K mg base (24) ["feed", "most", "way", "many"] "_law_shape" (defScope s__law_shape) (defBody s__law_shape) spLShape := by
  intro f cdv A outer s H vs Q E hr h
  obtain ⟨fd, m, most, xs, rfl, hf, hF, h1, h2, hm, q⟩ := h
  have hu := hu_of hr
  have tk : Takes (cxOf (L2.CX P w) P w K mg base ["feed", "most", "way", "many"] "_law_shape" (defScope s__law_shape) f cdv A outer s H E) (fun cls d _ H => E cls d H) := takes_of rfl rfl rfl rfl
  refine ⟨_, (pss_cons (ps_set (i := 2) sc__law_shape.nd rfl (Or.inl rfl) (pe_cal C__law_draw hr (by omega) tk (pa_cons (pv 0) (pa_cons pe_int pa_nil))))
    (pss_cons (ps_if (pt_cmpR op_lt (pv 2) pe_int (nomark _)) (pss_one (ps_ret (pe_cal C__law_any_balanced hr (by omega) tk (pa_cons (pv 0) (pa_cons (pv 1) pa_nil))))) pss_nil)
    (pss_cons (ps_set (i := 3) sc__law_shape.nd rfl (Or.inl rfl) (pe_op op_add pe_int (pe_cal C__law_draw hr (by omega) tk (pa_cons (pv 0) (pa_cons pe_int pa_nil)))))
    (pss_one (ps_ret (pe_cal C__law_grown hr (by omega) tk (pa_cons (pv 0) (pa_cons (pv 3) (pa_cons (pe_ifExp (pt_cmpR op_eq (pv 2) pe_int (nomark _)) (pe_cal C__law_draw hr (by omega) tk (pa_cons (pv 0) (pa_cons (pv 3) pa_nil))) (pe_un un_neg pe_int)) pa_nil))))))))), ?_⟩
  refine i_start [some _, some _, none, none] (by rfl) ?_
  try dsimp only [cxOf]
  walk_at "rd"
  refine ⟨fd, 9, m, xs, rfl, hf, hF, by decide, by decide, by omega, fun g ys g0 g1 hy => ?_⟩
  walk_at "rd"
  refine i_dec (fun c => ?_) (fun c => ?_)
  · walk_at "rd"
    refine ⟨fd, m + 1, most, ys, rfl, upd_same, hy, by omega, h2, by omega, fun v sh zs H' sx e1 hz sp bl hw hh => ?_⟩
    exact q v sh.g zs H' (SameX.trans SameX.upd sx) e1 (hz.mono (by omega)) sp.g (by rw [hei_g]; exact hh) (by rw [wid_g]; exact hw)
  · walk_at "rd"
    refine ⟨fd, 12, m + 1, ys, rfl, upd_same, hy, by decide, by decide, by omega, fun g2 zs h0 h3 hz => ?_⟩
    rw [upd_upd]
    obtain ⟨many, em⟩ : ∃ many : Nat, 1 + g2 = (many : Int) := ⟨(1 + g2).toNat, by omega⟩
    walk_at "rd"
    rw [em]
    have fin : ∀ (sp : Int) (us : List V), sp < many → FdL (m + 3) us → spGrown [.ref fd, .int (many : Nat), .int sp] (L2.upd H fd (.lst us)) Q E0 := by
      intro sp us hsp hu3
      refine ⟨fd, m + 3, many, sp, us, rfl, upd_same, hu3, by omega, by omega, hsp, by omega, fun v g zs H' sx e1 hz hg hgl => ?_⟩
      have := gh_lt g
      exact q v g zs H' (SameX.trans SameX.upd sx) e1 (hz.mono (by omega)) hg (by omega) (by omega)
    refine i_dec (fun c6 => ?_) (fun c6 => ?_)
    · walk_at "rd"
      refine ⟨fd, _, m + 2, zs, rfl, upd_same, hz, by omega, by omega, by omega, fun g3 us h4 h5 hu3 => ?_⟩
      rw [upd_upd]
      walk_at "rd"
      exact fin g3 us h5 hu3
    · walk_at "rd"
      exact fin _ zs (by omega) (hz.mono (by omega))
theorem c_law_shape (T : Txt K mg) : Cal P w K mg base 25 "_law_shape" spLShape := T.d__law_shape.cal sc__law_shape (fun vs H Q E h => by obtain ⟨_, _, _, _, rfl, _⟩ := h; rfl) (b_law_shape T (c_draw T) (c_law_any_balanced T) (c_law_grown T))
end

end K63

set_option maxHeartbeats 4000000
namespace K63
open PySem PySem.Spec PyProof.Rows L2 KB KM
section
variable {P : Program} {w : World} {K : PySem.W.Frag} {mg : Str → Option Value} {base : Heap}
/-! ### need_balanced -/
/-- what is asked of a thing where a balanced shape is wanted -/
def Wants (K : PySem.W.Frag) (H : Hp) (g : GS) (E : XK) : Prop := (wIn 40 g = 0 → E (.ref (He.ga K "BadShape")) none H) ∧ (∀ s, g = s.g → hei s ≤ 40 → wid s ≤ 20000 → ¬ bal s → E (.ref (He.ga K "BadBalance")) none H)
def spNeedBal (K : PySem.W.Frag) : Sp := fun vs H Q E => ∃ v g, vs = [v] ∧ GShp H v g ∧ Wants K H g E ∧ ∀ s, g = s.g → Shp H v s → hei s ≤ 40 → wid s ≤ 20000 → bal s → Q (.int (wid s : Nat)) H
abbrev s_need_balanced : Stmt := (top 34)
theorem sc_need_balanced : FnScope ["shape", "width"] ["shape"] (defScope s_need_balanced) := ⟨rfl, rfl, rfl, by decide +kernel, rfl, by decide +kernel, by decide +kernel⟩
theorem b_need_balanced (T : Txt K mg) (C_need_shape : Cal P w K mg base 42 "need_shape" (spJudge K fun s => .int (wid s : Nat))) (C_balanced_height : Cal P w K mg base 41 "balanced_height" (spBalH 40)) :
    Body P w K mg base (42) ["shape", "width"] "need_balanced" (defScope s_need_balanced) (defBody s_need_balanced) (spNeedBal K) := by
  intro f cdv A outer s H vs Q E hr h
  obtain ⟨v, g, rfl, hg, ⟨q1, q2⟩, q3⟩ := h
  have hu := hu_of hr
  have tk : Takes (cxOf (L2.CX P w) P w K mg base ["shape", "width"] "need_balanced" (defScope s_need_balanced) f cdv A outer s H E) (fun cls d _ H => E cls d H) := takes_of rfl rfl rfl rfl
  refine ⟨_, (pss_cons (ps_set (i := 1) sc_need_balanced.nd rfl (Or.inl rfl) (pe_cal C_need_shape hr (by omega) tk (pa_cons (pv 0) pa_nil)))
    (pss_cons (ps_if (pt_cmpR op_lt (pe_cal C_balanced_height hr (by omega) tk (pa_cons (pv 0) pa_nil)) pe_int (nomark _)) (pss_one (ps_raiseX T.x_BadBalance tk)) pss_nil)
    (pss_one (ps_ret (pv 1))))), ?_⟩
  refine i_start [some _, none] (by rfl) ?_
  try dsimp only [cxOf]
  walk_at "rd"
  refine ⟨v, g, rfl, hg, q1, fun sh e hs h1 h2 => ?_⟩
  walk_at "rd"
  refine ⟨v, sh, rfl, hs, h1, ?_⟩
  walk_at "rd"
  refine i_dec (fun c => ?_) (fun c => ?_)
  · walk_at "rd"
    exact q2 sh e h1 h2 fun z => by have := bh_nonneg.mpr z; omega
  · walk_at "rd"
    exact q3 sh e hs h1 h2 (bh_nonneg.mp (by omega))
theorem c_need_balanced (T : Txt K mg) : Cal P w K mg base 43 "need_balanced" (spNeedBal K) :=
  T.d_need_balanced.cal sc_need_balanced (fun vs H Q E h => by obtain ⟨_, _, rfl, _⟩ := h; rfl) (b_need_balanced T (c_need_shape T) (c_balanced_height T 40))
/-! ### cut_shape -/
def spCutShape (K : PySem.W.Frag) : Sp := fun vs H Q E => ∃ v g x n, vs = [v, x] ∧ GShp H v g ∧ Kn H x n ∧ Wants K H g E ∧
  (∀ s, g = s.g → hei s ≤ 40 → wid s ≤ 20000 → bal s → (∀ i, x = .int i → ¬ (0 ≤ i ∧ i ≤ (wid s : Nat))) → E (.ref (He.ga K "BadCount")) none H) ∧
  ∀ (s : Sh) (k : Nat), g = s.g → hei s ≤ 40 → wid s ≤ 20000 → bal s → x = .int k → k ≤ wid s → ∀ p u t H', Same H H' → H' p = some (.tup [u, t]) → OShp H' u (ct s k).1 → OShp H' t (ct s k).2 → Q (.ref p) H'
abbrev s_cut_shape : Stmt := (top 35)
theorem sc_cut_shape : FnScope ["shape", "many", "first", "last"] ["shape", "many"] (defScope s_cut_shape) := ⟨rfl, rfl, rfl, by decide +kernel, rfl, by decide +kernel, by decide +kernel⟩
theorem b_cut_shape (T : Txt K mg) (C_need_balanced : Cal P w K mg base 43 "need_balanced" (spNeedBal K)) (C_need_count : Cal P w K mg base 2 "need_count" (spNeedCount K)) (C_stem_of : Cal P w K mg base 43 "stem_of" (spStemOf K 40))
    (C_row_cut : Cal P w K mg base 146 "row_cut" (spRowCut K 40)) (C_shape_of : Cal P w K mg base 42 "shape_of" (spShapeOf K 41)) : Body P w K mg base (146) ["shape", "many", "first", "last"] "cut_shape" (defScope s_cut_shape) (defBody s_cut_shape) (spCutShape K) := by
  intro f cdv A outer s H vs Q E hr h
  obtain ⟨v, g, x, n, rfl, hg, hk, hw, q1, q2⟩ := h
  have hu := hu_of hr
  have tk : Takes (cxOf (L2.CX P w) P w K mg base ["shape", "many", "first", "last"] "cut_shape" (defScope s_cut_shape) f cdv A outer s H E) (fun cls d _ H => E cls d H) := takes_of rfl rfl rfl rfl
  refine ⟨_, (pss_cons (ps_expr (pe_cal C_need_count hr (by omega) tk (pa_cons (pv 1) (pa_cons (pe_cal C_need_balanced hr (by omega) tk (pa_cons (pv 0) pa_nil)) pa_nil))))
    (pss_cons (ps_asg (pe_cal C_row_cut hr (by omega) tk (pa_cons (pe_bare T.b_Builder) (pa_cons (pe_cal C_stem_of hr (by omega) tk (pa_cons (pv 0) pa_nil)) (pa_cons (pv 1) pa_nil)))) (pg_tup (n := 2) (by rfl) (pgs_cons (pg_name (i := 2) sc_cut_shape.nd rfl (Or.inl rfl)) (pgs_cons (pg_name (i := 3) sc_cut_shape.nd rfl (Or.inl rfl)) pgs_nil))))
    (pss_one (ps_ret (pe_tup (pa_cons (pe_cal C_shape_of hr (by omega) tk (pa_cons (pv 2) pa_nil)) (pa_cons (pe_cal C_shape_of hr (by omega) tk (pa_cons (pv 3) pa_nil)) pa_nil))))))), ?_⟩
  refine i_start [some _, some _, none, none] (by rfl) ?_
  try dsimp only [cxOf]
  walk_at "rd"
  refine ⟨v, g, rfl, hg, hw, fun sh e hs h1 h2 bl => ?_⟩
  walk_at "rd"
  refine ⟨x, n, _, rfl, hk, fun i ei h3 h4 => ?_, fun z => q1 sh e h1 h2 bl z⟩
  subst ei
  obtain ⟨k, rfl⟩ : ∃ k : Nat, i = (k : Int) := ⟨i.toNat, by omega⟩
  walk_at "rd"
  intro b dx hb hdx hne
  generalize eH1 : L2.upd (L2.upd H dx _) b _ = H1
  have s1 : Same H H1 := by rw [← eH1]; exact Same.upd (Same.new hdx) hb
  have e1 : H1 b = some (.ins (CB K) dx []) := by rw [← eH1]; exact upd_same
  walk_at "rd"
  refine ⟨v, sh, rfl, hs.mono (Same.tups s1), h1, fun p1 H2 s2 t2 => ?_⟩
  walk_at "rd"
  obtain ⟨o1, o2, o3, o4, o5, o6⟩ := ct_ok sh k bl (by omega)
  refine ⟨b, dx, _, sh, k, rfl, s2 _ _ e1, t2, bl, by omega, h1, by omega, fun p H3 u t s3 e3 hu2 ht2 => ?_⟩
  walk_at "rd"
  refine ⟨p, _, rfl, SqT.of e3, rfl, ?_⟩
  walk_at "rd"
  refine ⟨u, _, rfl, hu2, by omega, fun v4 H4 s4 t4 => ?_⟩
  walk_at "rd"
  refine ⟨t, _, rfl, ht2.mono s4, by omega, fun v5 H5 s5 t5 => ?_⟩
  walk_at "rd"
  refine ⟨by show 2 ≤ sizeLine; decide, fun p6 hp6 => ?_⟩
  generalize eH6 : L2.upd H5 p6 _ = H6
  obtain ⟨s6, e6⟩ := laid eH6 hp6
  walk_at "rd"
  exact q2 sh k e h1 h2 bl rfl (by omega) p6 v4 v5 H6 (((((s1.trans s2).trans s3).trans s4).trans s5).trans s6) e6 (t4.mono (Same.tups (s5.trans s6))) (t5.mono (Same.tups s6))
theorem c_cut_shape (T : Txt K mg) : Cal P w K mg base 147 "cut_shape" (spCutShape K) :=
  T.d_cut_shape.cal sc_cut_shape (fun vs H Q E h => by obtain ⟨_, _, _, _, rfl, _⟩ := h; rfl) (b_cut_shape T (c_need_balanced T) (c_need_count T) (c_stem_of T 40) (c_row_cut T 40) (c_shape_of T 41))
end

end K63

set_option maxHeartbeats 4000000
namespace K63
open PySem PySem.Spec PyProof.Rows L2 KB KM
/-- a shape, or none, as data -/
def opd : Option Sh → PyData
  | none => .tuple []
  | some t => pd t
theorem opd_dp {K : PySem.W.Frag} {H : Hp} {v : V} {o : Option Sh} (h : OShp H v o) : Dp K H v (opd o) := by
  cases o with
  | none =>
    obtain ⟨p, rfl, hp⟩ := h
    exact .tup (SqT.of hp) .nil
  | some t => exact pd_dp h
theorem opd_lay : ∀ o : Option Sh, PyData.canLay0 (opd o) = true
  | none => rfl
  | some t => pd_lay t
theorem opd_depth : ∀ o : Option Sh, PyData.depth (opd o) ≤ ohei o + 1
  | none => by decide
  | some t => by rw [opd, pd_depth, ohei]; omega

end K63

set_option maxHeartbeats 4000000
namespace K63
open PySem PySem.Spec PyProof.Rows L2 KB KM
/-- the word 'pair' and two parts -/
def pr (a b : Option Sh) : PyData := .tuple [.str "pair", .tuple [opd a, opd b]]
theorem pr_lay (a b : Option Sh) : PyData.canLay0 (pr a b) = true := by
  simp only [pr, PyData.canLay0, PyData.canLayAll0, opd_lay, Bool.and_self, Bool.and_true]
  decide +kernel
theorem pr_shaped {a b : Option Sh} (ha : ohei a ≤ 60) (hb : ohei b ≤ 60) : SeqAt.shaped (pr a b) = true := by
  unfold SeqAt.shaped
  have d : PyData.depth (pr a b) ≤ 64 := by
    have := opd_depth a
    have := opd_depth b
    simp only [pr, PyData.depth, PyData.depthAll]
    omega
  rw [pr_lay, decide_eq_true d]
  rfl
theorem pr_refl (a b : Option Sh) : PyData.eqv (pr a b) (pr a b) = true := PySem.SeqAt.eqv_refl _ (pr_lay a b)
section
variable {P : Program} {w : World} {K : PySem.W.Frag} {mg : Str → Option Value} {base : Heap}
/-! ### _law_cut -/
def spLCut : Sp := fun vs H Q _ => ∃ v g x n, vs = [v, x] ∧ GShp H v g ∧ gh g ≤ 40 ∧ gl g ≤ 20000 ∧ Kn H x n ∧
  (trb g ≠ "" → ∀ p H', Same H H' → H' p = some (.tup [.str (trb g), .non]) → Q (.ref p) H') ∧
  (∀ s, g = s.g → bal s → (∀ i, x = .int i → ¬ (0 ≤ i ∧ i ≤ (wid s : Nat))) → ∀ p H', Same H H' → H' p = some (.tup [.str "BadCount", .non]) → Q (.ref p) H') ∧
  ∀ (s : Sh) (k : Nat), g = s.g → bal s → x = .int k → k ≤ wid s → ∀ p r u t H', Same H H' → H' p = some (.tup [.str "pair", .ref r]) → H' r = some (.tup [u, t]) → OShp H' u (ct s k).1 → OShp H' t (ct s k).2 → Q (.ref p) H'
theorem trb_bad {g : GS} (h : gh g ≤ 40) (h2 : gl g ≤ 20000) (z : wIn 40 g = 0) : trb g = "BadShape" := by
  unfold trb
  cases e : isSh g with
  | false => rfl
  | true =>
    obtain ⟨s, rfl⟩ := sh_of g e
    rw [hei_g] at h
    rw [wid_g] at h2
    rw [wIn_sh s 40 h h2] at z
    have := wid_pos s
    omega
theorem trb_nb {s : Sh} (h : ¬ bal s) : trb s.g = "BadBalance" := by
  unfold trb
  rw [isSh_g, if_pos rfl, (gsz_is s).2 h, if_pos rfl]
theorem trb_ok {g : GS} (h : trb g = "") : ∃ s, g = s.g ∧ bal s ∧ gsz g = some (wid s, hei s) := by
  unfold trb at h
  cases e : isSh g with
  | false =>
    rw [e, if_neg (by decide)] at h
    exact absurd h (by decide)
  | true =>
    rw [e, if_pos rfl] at h
    cases e2 : gsz g with
    | none =>
      rw [e2, if_pos rfl] at h
      exact absurd h (by decide)
    | some ab =>
      obtain ⟨a, b⟩ := ab
      obtain ⟨s, rfl, b1, rfl, rfl⟩ := gsz_some e2
      exact ⟨s, rfl, b1, rfl⟩
abbrev s__law_cut : Stmt := (top 50)
theorem sc__law_cut : FnScope ["shape", "many", "got"] ["shape", "many"] (defScope s__law_cut) := ⟨rfl, rfl, rfl, by decide +kernel, rfl, by decide +kernel, by decide +kernel⟩
theorem b_law_cut (T : Txt K mg) (C_cut_shape : Cal P w K mg base 147 "cut_shape" (spCutShape K)) : Body P w K mg base (147) ["shape", "many", "got"] "_law_cut" (defScope s__law_cut) (defBody s__law_cut) spLCut := by
  intro f cdv A outer s H vs Q E hr h
  obtain ⟨v, g, x, n, rfl, hg, hh, hl, hk, q1, q2, q3⟩ := h
  have hu := hu_of hr
  have tk : Takes (cxOf (L2.CX P w) P w K mg base ["shape", "many", "got"] "_law_cut" (defScope s__law_cut) f cdv A outer s H E) (fun cls d _ H => E cls d H) := takes_of rfl rfl rfl rfl
  refine ⟨_, (pss_cons (ps_try_many rfl rfl tk (fun W pn xe tk _ => (pss_one (ps_set (i := 2) sc__law_cut.nd rfl (Or.inl rfl) (pe_tup (pa_cons pe_str (pa_cons (pe_cal C_cut_shape hr (by omega) tk (pa_cons (pv 0) (pa_cons (pv 1) pa_nil))) pa_nil)))))) (.cons ⟨rfl, by decide, .inl T.x_BadShape.at_⟩ (fun a oe cls d pn _ _ => (pss_one (ps_set (i := 2) sc__law_cut.nd rfl (Or.inl rfl) (pe_tup (pa_cons pe_str (pa_cons pe_non pa_nil)))))) (.cons ⟨rfl, by decide, .inl T.x_BadBalance.at_⟩ (fun a oe cls d pn _ _ => (pss_one (ps_set (i := 2) sc__law_cut.nd rfl (Or.inl rfl) (pe_tup (pa_cons pe_str (pa_cons pe_non pa_nil)))))) (.cons ⟨rfl, by decide, .inl T.x_BadCount.at_⟩ (fun a oe cls d pn _ _ => (pss_one (ps_set (i := 2) sc__law_cut.nd rfl (Or.inl rfl) (pe_tup (pa_cons pe_str (pa_cons pe_non pa_nil)))))) .nil))))
    (pss_one (ps_ret (pv 2)))), ?_⟩
  refine i_start [some _, some _, none] (by rfl) ?_
  try dsimp only [cxOf]
  walk_at "rd"
  refine ⟨v, g, x, n, rfl, hg, hk, ⟨fun z => ?_, fun sh e h1 h2 nb => ?_⟩, fun sh e h1 h2 bl hi => ?_, fun sh k e h1 h2 bl ex hk2 p u t H1 s1 e1 hu1 ht1 => ?_⟩
  · have et := trb_bad hh hl z
    rw [et] at q1
    refine ⟨true, T.e_BadShape_BadShape, fun _ a ha => ?_, (fun z => nomatch z)⟩
    walk_at "rd"
    refine ⟨by show 2 ≤ sizeLine; decide, fun p hp => ?_⟩
    walk_at "rd"
    exact q1 (by decide) p _ (Same.new hp) upd_same
  · subst e
    have et := trb_nb nb
    rw [et] at q1
    refine ⟨false, T.e_BadBalance_BadShape, (fun z => nomatch z), fun _ => ⟨true, T.e_BadBalance_BadBalance, fun _ a ha => ?_, (fun z => nomatch z)⟩⟩
    walk_at "rd"
    refine ⟨by show 2 ≤ sizeLine; decide, fun p hp => ?_⟩
    walk_at "rd"
    exact q1 (by decide) p _ (Same.new hp) upd_same
  · refine ⟨false, T.e_BadCount_BadShape, (fun z => nomatch z), fun _ => ⟨false, T.e_BadCount_BadBalance, (fun z => nomatch z), fun _ => ⟨true, T.e_BadCount_BadCount, fun _ a ha => ?_, (fun z => nomatch z)⟩⟩⟩
    walk_at "rd"
    refine ⟨by show 2 ≤ sizeLine; decide, fun p hp => ?_⟩
    walk_at "rd"
    exact q2 sh e bl hi p _ (Same.new hp) upd_same
  · walk_at "rd"
    refine ⟨by show 2 ≤ sizeLine; decide, fun p2 hp2 => ?_⟩
    generalize eH2 : L2.upd H1 p2 _ = H2
    obtain ⟨s2, e2⟩ := laid eH2 hp2
    walk_at "rd"
    exact q3 sh k e bl ex hk2 p2 p u t H2 (s1.trans s2) e2 (s2 _ _ e1) (hu1.mono (Same.tups s2)) (ht1.mono (Same.tups s2))
theorem c_law_cut (T : Txt K mg) : Cal P w K mg base 148 "_law_cut" spLCut := T.d__law_cut.cal sc__law_cut (fun vs H Q E h => by obtain ⟨_, _, _, _, rfl, _⟩ := h; rfl) (b_law_cut T (c_cut_shape T))
/-! ### _law_part -/
def spPart : Sp := fun vs H Q _ => ∃ v o k, vs = [v, .int (k : Nat)] ∧ OShp H v o ∧ obal o ∧ owid o = k ∧ ohei o ≤ 40 ∧ ∀ H', Same H H' → Q (.bl true) H'
abbrev s__law_part : Stmt := (top 51)
theorem sc__law_part : FnScope ["part", "width", "sizes"] ["part", "width"] (defScope s__law_part) := ⟨rfl, rfl, rfl, by decide +kernel, rfl, by decide +kernel, by decide +kernel⟩
theorem b_law_part (T : Txt K mg) (C__law_sizes : Cal P w K mg base 41 "_law_sizes" (spSizes 40)) : Body P w K mg base (41) ["part", "width", "sizes"] "_law_part" (defScope s__law_part) (defBody s__law_part) spPart := by
  intro f cdv A outer s H vs Q E hr h
  obtain ⟨v, o, k, rfl, ho, hb, hw, hh, q⟩ := h
  have hu := hu_of hr
  have tk : Takes (cxOf (L2.CX P w) P w K mg base ["part", "width", "sizes"] "_law_part" (defScope s__law_part) f cdv A outer s H E) (fun cls d _ H => E cls d H) := takes_of rfl rfl rfl rfl
  refine ⟨_, (pss_cons (ps_if (pt_cmpR op_eq (pv 1) pe_int (nomark _)) (pss_one (ps_ret (pe_cmpR (op_eqD hr.units) (pv 0) (pe_tup pa_nil) (nomark _)))) pss_nil)
    (pss_cons (ps_set (i := 2) sc__law_part.nd rfl (Or.inl rfl) (pe_cal C__law_sizes hr (by omega) tk (pa_cons (pv 0) pa_nil)))
    (pss_one (ps_ret (pe_and (pe_cmpR op_notN1 (pv 2) pe_non (nomark _)) (pe_one (pe_cmpR op_eq (pe_ix ix_seq (pv 2) pe_int (fun _ _ => rfl)) (pv 1) (nomark _)))))))), ?_⟩
  refine i_start [some _, some _, none] (by rfl) ?_
  try dsimp only [cxOf]
  walk_at "rd"
  cases o with
  | none =>
    simp only [owid] at hw
    subst hw
    obtain ⟨p, rfl, hp⟩ := ho
    refine i_decT rfl ?_
    walk_at "rd"
    refine ⟨Nat.zero_le _, fun p2 hp2 => ?_⟩
    generalize eH2 : L2.upd H p2 _ = H2
    obtain ⟨s2, e2⟩ := laid eH2 hp2
    walk_at "rd"
    exact ⟨.tuple [], .tuple [], .tup (SqT.of (s2 _ _ hp)) .nil, .tup (SqT.of e2) .nil, by decide, by decide, q H2 s2⟩
  | some t =>
    have := wid_pos t
    simp only [owid] at hw
    simp only [ohei] at hh
    refine i_decF (by omega) ?_
    walk_at "rd"
    refine ⟨v, t.g, rfl, Shp.g ho, by rw [hei_g]; exact hh, fun v1 H1 s1 z1 => ?_⟩
    rw [(gsz_is t).1 hb] at z1
    obtain ⟨p1, rfl, hp1⟩ := z1
    walk_at "rd"
    refine i_ixST (SqT.of hp1) rfl ?_
    walk_at "rd"
    rw [hw, decide_eq_true rfl]
    exact q H1 s1
theorem c_law_part (T : Txt K mg) : Cal P w K mg base 42 "_law_part" spPart := T.d__law_part.cal sc__law_part (fun vs H Q E h => by obtain ⟨_, _, _, rfl, _⟩ := h; rfl) (b_law_part T (c_law_sizes T 40))
/-! ### _law_right -/
def spRight : Sp := fun vs H Q _ => ∃ v g x n, vs = [v, x, .bl (n == "int")] ∧ GShp H v g ∧ gh g ≤ 40 ∧ gl g ≤ 20000 ∧ Kn H x n ∧ ∀ H', Same H H' → Q (.bl true) H'
abbrev s__law_right : Stmt := (top 52)
theorem sc__law_right : FnScope ["shape", "many", "counts", "word", "pair", "width"] ["shape", "many", "counts"] (defScope s__law_right) := ⟨rfl, rfl, rfl, by decide +kernel, rfl, by decide +kernel, by decide +kernel⟩
theorem b_law_right (T : Txt K mg) (C__law_cut : Cal P w K mg base 148 "_law_cut" spLCut) (C__law_trouble : Cal P w K mg base 42 "_law_trouble" spTrouble) (C__law_sizes : Cal P w K mg base 41 "_law_sizes" (spSizes 40))
    (C__law_part : Cal P w K mg base 42 "_law_part" spPart) : Body P w K mg base (148) ["shape", "many", "counts", "word", "pair", "width"] "_law_right" (defScope s__law_right) (defBody s__law_right) spRight := by
  intro f cdv A outer s H vs Q E hr h
  obtain ⟨v, g, x, n, rfl, hg, hh, hl, hk, q⟩ := h
  have hu := hu_of hr
  have tk : Takes (cxOf (L2.CX P w) P w K mg base ["shape", "many", "counts", "word", "pair", "width"] "_law_right" (defScope s__law_right) f cdv A outer s H E) (fun cls d _ H => E cls d H) := takes_of rfl rfl rfl rfl
  refine ⟨_, (pss_cons (ps_asg (pe_cal C__law_cut hr (by omega) tk (pa_cons (pv 0) (pa_cons (pv 1) pa_nil))) (pg_tup (n := 2) (by rfl) (pgs_cons (pg_name (i := 3) sc__law_right.nd rfl (Or.inl rfl)) (pgs_cons (pg_name (i := 4) sc__law_right.nd rfl (Or.inl rfl)) pgs_nil))))
    (pss_cons (ps_if (pt_cmpR op_ne (pe_cal C__law_trouble hr (by omega) tk (pa_cons (pv 0) pa_nil)) pe_str (nomark _)) (pss_one (ps_ret (pe_cmpR op_eq (pv 3) (pe_cal C__law_trouble hr (by omega) tk (pa_cons (pv 0) pa_nil)) (nomark _)))) pss_nil)
    (pss_cons (ps_set (i := 5) sc__law_right.nd rfl (Or.inl rfl) (pe_ix ix_seq (pe_cal C__law_sizes hr (by omega) tk (pa_cons (pv 0) pa_nil)) pe_int (fun _ _ => rfl)))
    (pss_cons (ps_if (PW.pt (pw_or (pt_not (pt_val (pv 2))) (pw_or (pt_cmpR op_lt (pv 1) pe_int (nomark _)) (pw_or1 (pt_cmpR op_gt (pv 1) (pv 5) (nomark _)))))) (pss_one (ps_ret (pe_cmpR op_eq (pv 3) pe_str (nomark _)))) pss_nil)
    (pss_cons (ps_if (PW.pt (pw_or (pt_cmpR op_ne (pv 3) pe_str (nomark _)) (pw_or (pt_not (pt_val (pe_callB call_isN1 (by rfl) T.g_isinstance (by decide +kernel) (pa_cons (pv 4) (pa_cons (pe_ty "tuple" T.g_tuple) pa_nil))))) (pw_or1 (pt_cmpR op_ne (pe_callB call_lenK (by rfl) T.g_len (by decide +kernel) (pa_cons (pv 4) pa_nil)) pe_int (nomark _)))))) (pss_one (ps_ret pe_bl)) pss_nil)
    (pss_cons (ps_if (PW.pt (pw_or (pt_not (pt_val (pe_cal C__law_part hr (by omega) tk (pa_cons (pe_ix ix_seq (pv 4) pe_int (fun _ _ => rfl)) (pa_cons (pv 1) pa_nil))))) (pw_or1 (pt_not (pt_val (pe_cal C__law_part hr (by omega) tk (pa_cons (pe_ix ix_seq (pv 4) pe_int (fun _ _ => rfl)) (pa_cons (pe_op op_sub (pv 5) (pv 1)) pa_nil)))))))) (pss_one (ps_ret pe_bl)) pss_nil)
    (pss_one (ps_ret (pe_cmpR (op_eqD hr.units) (pe_cal C__law_cut hr (by omega) tk (pa_cons (pv 0) (pa_cons (pv 1) pa_nil))) (pe_tup (pa_cons pe_str (pa_cons (pv 4) pa_nil))) (nomark _)))))))))), ?_⟩
  refine i_start [some _, some _, some _, none, none, none] (by rfl) ?_
  try dsimp only [cxOf]
  walk_at "rd"
  refine ⟨v, g, x, n, rfl, hg, hh, hl, hk, fun ht p H1 s1 e1 => ?_, fun sh e bl hi p H1 s1 e1 => ?_, fun sh k e bl ex hkw p r u t H1 s1 e1 er hu1 ht1 => ?_⟩
  · walk_at "rd"
    refine ⟨p, _, rfl, SqT.of e1, rfl, ?_⟩
    walk_at "rd"
    refine ⟨v, g, rfl, hg.mono s1, hh, fun H2 s2 => ?_⟩
    walk_at "rd"
    refine i_ndec (fun _ => ?_) (fun z => absurd z ht)
    walk_at "rd"
    refine ⟨v, g, rfl, hg.mono (s1.trans s2), hh, fun H3 s3 => ?_⟩
    walk_at "rd"
    rw [decide_eq_true rfl]
    exact q H3 ((s1.trans s2).trans s3)
  · subst e
    have et : trb sh.g = "" := by
      unfold trb
      rw [isSh_g, if_pos rfl, (gsz_is sh).1 bl, if_neg (by intro z; cases z)]
    walk_at "rd"
    refine ⟨p, _, rfl, SqT.of e1, rfl, ?_⟩
    walk_at "rd"
    refine ⟨v, _, rfl, hg.mono s1, hh, fun H2 s2 => ?_⟩
    walk_at "rd"
    refine i_ndec (fun z => absurd et z) (fun _ => ?_)
    walk_at "rd"
    refine ⟨v, _, rfl, hg.mono (s1.trans s2), hh, fun v3 H3 s3 z3 => ?_⟩
    rw [(gsz_is sh).1 bl] at z3
    obtain ⟨p3, rfl, hp3⟩ := z3
    walk_at "rd"
    refine i_ixST (SqT.of hp3) rfl ?_
    walk_at "rd"
    have S3 := (s1.trans s2).trans s3
    cases en : (n == "int") with
    | false =>
      refine i_T ?_
      walk_at "rd"
      exact q H3 S3
    | true =>
      obtain ⟨i, rfl⟩ := kn_int hk en
      have hi' := hi i rfl
      refine i_F ?_
      walk_at "rd"
      refine i_dec (fun c => ?_) (fun c => ?_)
      · walk_at "rd"
        exact q H3 S3
      · walk_at "rd"
        refine i_decT (by omega) ?_
        walk_at "rd"
        exact q H3 S3
  · subst e
    subst ex
    have et : trb sh.g = "" := by
      unfold trb
      rw [isSh_g, if_pos rfl, (gsz_is sh).1 bl, if_neg (by intro z; cases z)]
    have en : (n == "int") = true := by
      have := hk.1
      simp only [tyN, Option.some.injEq] at this
      rw [← this]
      rfl
    rw [en]
    rw [hei_g] at hh
    obtain ⟨o1, o2, o3, o4, o5, o6⟩ := ct_ok sh k bl hkw
    walk_at "rd"
    refine ⟨p, _, rfl, SqT.of e1, rfl, ?_⟩
    walk_at "rd"
    refine ⟨v, _, rfl, hg.mono s1, by rw [hei_g]; exact hh, fun H2 s2 => ?_⟩
    walk_at "rd"
    refine i_ndec (fun z => absurd et z) (fun _ => ?_)
    walk_at "rd"
    refine ⟨v, _, rfl, hg.mono (s1.trans s2), by rw [hei_g]; exact hh, fun v3 H3 s3 z3 => ?_⟩
    rw [(gsz_is sh).1 bl] at z3
    obtain ⟨p3, rfl, hp3⟩ := z3
    walk_at "rd"
    refine i_ixST (SqT.of hp3) rfl ?_
    walk_at "rd"
    have S3 := s2.trans s3
    refine i_F ?_
    walk_at "rd"
    refine i_decF (by omega) ?_
    walk_at "rd"
    refine i_decF (by omega) ?_
    walk_at "rd"
    refine i_ndec (fun z => absurd rfl z) (fun _ => ?_)
    walk_at "rd"
    refine i_inst (tyN_tup (S3 _ _ er)) (ty_tuple "tuple" (by decide)) ?_
    walk_at "rd"
    refine i_F ?_
    walk_at "rd"
    refine i_lenT (SqT.of (S3 _ _ er)) ?_
    walk_at "rd"
    refine i_ndec (fun z => absurd rfl z) (fun _ => ?_)
    walk_at "rd"
    refine i_ixST (SqT.of (S3 _ _ er)) rfl ?_
    walk_at "rd"
    refine ⟨u, _, k, rfl, hu1.mono (Same.tups S3), o1, o3, by omega, fun H4 s4 => ?_⟩
    walk_at "rd"
    refine i_F ?_
    walk_at "rd"
    have S4 := S3.trans s4
    refine i_ixST (SqT.of (S4 _ _ er)) rfl ?_
    walk_at "rd"
    rw [show ((wid sh : Nat) : Int) - ((k : Nat) : Int) = ((wid sh - k : Nat) : Int) by omega]
    refine ⟨t, _, wid sh - k, rfl, ht1.mono (Same.tups S4), o2, o4, by omega, fun H5 s5 => ?_⟩
    walk_at "rd"
    refine i_F ?_
    walk_at "rd"
    have S5 := S4.trans s5
    have SS : Same H H5 := s1.trans S5
    refine ⟨v, _, .int k, n, rfl, hg.mono SS, by rw [hei_g]; exact hh, hl, kn_stay hk SS, fun z => absurd et z, fun sh' e' _ hi => ?_, fun sh' k' e' bl' ex' hk' p6 r6 u6 t6 H6 s6 e6 er6 hu6 ht6 => ?_⟩
    · have es := g_inj e'
      subst es
      exact absurd ⟨by omega, by omega⟩ (hi k rfl)
    · have es := g_inj e'
      subst es
      have ek : k' = k := by have := V.int.inj ex'; omega
      subst ek
      walk_at "rd"
      refine ⟨by show 2 ≤ sizeLine; decide, fun p7 hp7 => ?_⟩
      generalize eH7 : L2.upd H6 p7 _ = H7
      obtain ⟨s7, e7⟩ := laid eH7 hp7
      walk_at "rd"
      have T7 : Same H1 H7 := (S5.trans s6).trans s7
      refine ⟨pr (ct sh k').1 (ct sh k').2, pr (ct sh k').1 (ct sh k').2, .tup (SqT.of (s7 _ _ e6)) (.cons (.str _) (.cons (.tup (SqT.of (s7 _ _ er6)) (.cons (opd_dp (hu6.mono (Same.tups s7))) (.cons (opd_dp (ht6.mono (Same.tups s7))) .nil))) .nil)),
        .tup (SqT.of e7) (.cons (.str _) (.cons (.tup (SqT.of (T7 _ _ er)) (.cons (opd_dp (hu1.mono (Same.tups T7))) (.cons (opd_dp (ht1.mono (Same.tups T7))) .nil))) .nil)), pr_shaped (by omega) (by omega), pr_shaped (by omega) (by omega), ?_⟩
      rw [pr_refl]
      exact q H7 (s1.trans T7)
theorem c_law_right (T : Txt K mg) : Cal P w K mg base 149 "_law_right" spRight :=
  T.d__law_right.cal sc__law_right (fun vs H Q E h => by obtain ⟨_, _, _, _, rfl, _⟩ := h; rfl) (b_law_right T (c_law_cut T) (c_law_trouble T) (c_law_sizes T 40) (c_law_part T))
end

end K63

set_option maxHeartbeats 4000000
namespace K63
open PySem PySem.Spec PyProof.Rows L2 KB KM
section
variable {P : Program} {w : World} {K : PySem.W.Frag} {mg : Str → Option Value} {base : Heap}
/-! ### _law_asked_one -/
abbrev s__law_asked_one : Stmt := (top 53)
theorem sc__law_asked_one : FnScope ["script", "k", "feed", "shape", "sizes", "width", "many", "far"] ["script"] (defScope s__law_asked_one) := ⟨rfl, rfl, rfl, by decide +kernel, rfl, by decide +kernel, by decide +kernel⟩
theorem b_asked_one (T : Txt K mg) (C__law_feed : Cal P w K mg base 1 "_law_feed" (spFeed K)) (C__law_draw : Cal P w K mg base 1 "_law_draw" spDraw) (C__law_one : Cal P w K mg base 2 "_law_one" spOne)
    (C__law_shape : Cal P w K mg base 25 "_law_shape" spLShape) (C__law_sizes : Cal P w K mg base 41 "_law_sizes" (spSizes 40)) (C__law_right : Cal P w K mg base 149 "_law_right" spRight) : Body P w K mg base (149) ["script", "k", "feed", "shape", "sizes", "width", "many", "far"] "_law_asked_one" (defScope s__law_asked_one) (defBody s__law_asked_one) (spAsked K) := by
  intro f cdv A outer s H vs Q E hr h
  obtain ⟨a, ns, rfl, hS, hb, hl, q⟩ := h
  have hu := hu_of hr
  have tk : Takes (cxOf (L2.CX P w) P w K mg base ["script", "k", "feed", "shape", "sizes", "width", "many", "far"] "_law_asked_one" (defScope s__law_asked_one) f cdv A outer s H E) (fun cls d _ H => E cls d H) := takes_of rfl rfl rfl rfl
  refine ⟨_, (pss_cons (ps_for (passes_of rfl) rfl (pi_range1 rfl T.g_range (pa_cons (pe_callB (call_max2K rfl) (by rfl) T.g_max (by decide +kernel) (pa_cons pe_int (pa_cons (pe_callB (call_min2K rfl) (by rfl) T.g_min (by decide +kernel) (pa_cons pe_int (pa_cons (pe_callB call_lenK (by rfl) T.g_len (by decide +kernel) (pa_cons (pv 0) pa_nil)) pa_nil))) pa_nil))) pa_nil)) (pg_name (i := 1) sc__law_asked_one.nd rfl (Or.inl rfl)) (pss_cons (ps_set (i := 2) sc__law_asked_one.nd rfl (Or.inl rfl) (pe_cal C__law_feed hr (by omega) tk (pa_cons (pv 0) (pa_cons (pv 1) pa_nil))))
    (pss_cons (ps_set (i := 3) sc__law_asked_one.nd rfl (Or.inl rfl) (pe_cal C__law_shape hr (by omega) tk (pa_cons (pv 2) (pa_cons (pe_hold (pe_ifExp (PW.pt (pw_and (pt_cmpR op_eq (pv 1) pe_int (nomark _)) (pw_and1 (pt_cmpR op_eq (pe_cal C__law_draw hr (by omega) tk (pa_cons (pv 2) (pa_cons pe_int pa_nil))) pe_int (nomark _))))) pe_int pe_int)) pa_nil))))
    (pss_cons (ps_set (i := 4) sc__law_asked_one.nd rfl (Or.inl rfl) (pe_cal C__law_sizes hr (by omega) tk (pa_cons (pv 3) pa_nil)))
    (pss_cons (ps_set (i := 5) sc__law_asked_one.nd rfl (Or.inl rfl) (pe_hold (pe_ifExp (pt_cmpR op_isN1 (pv 4) pe_non (nomark _)) pe_int (pe_ix ix_seq (pv 4) pe_int (fun _ _ => rfl)))))
    (pss_cons (ps_set (i := 6) sc__law_asked_one.nd rfl (Or.inl rfl) (pe_op op_sub (pe_cal C__law_draw hr (by omega) tk (pa_cons (pv 2) (pa_cons (pe_op op_add (pv 5) pe_int) pa_nil))) pe_int))
    (Evl.pss_cut (ps_if (pt_cmpR op_eq (pe_cal C__law_draw hr (by omega) tk (pa_cons (pv 2) (pa_cons pe_int pa_nil))) pe_int (nomark _)) (pss_one (ps_set (i := 6) sc__law_asked_one.nd rfl (Or.inl rfl) (pe_cal C__law_one hr (by omega) tk (pa_cons (pv 2) (pa_cons (pe_lst (pa_cons (pe_un un_neg pe_int) (pa_cons pe_int (pa_cons pe_int (pa_cons (pe_op op_sub (pv 5) pe_int) (pa_cons (pv 5) (pa_cons (pe_op op_add (pv 5) pe_int) (pa_cons (pe_cal C__law_draw hr (by omega) tk (pa_cons (pv 2) (pa_cons pe_int pa_nil))) pa_nil)))))))) pa_nil))))) pss_nil)
    (pss_cons (ps_if (pt_not (pt_val (pe_cal C__law_right hr (by omega) tk (pa_cons (pv 3) (pa_cons (pv 6) (pa_cons pe_bl pa_nil)))))) (pss_one (ps_ret pe_bl)) pss_nil)
    (pss_cons (ps_set (i := 7) sc__law_asked_one.nd rfl (Or.inl rfl) (pe_cal C__law_draw hr (by omega) tk (pa_cons (pv 2) (pa_cons (pe_op op_pow pe_int pe_int) pa_nil))))
    (pss_cons (ps_if (pt_not (pt_val (pe_cal C__law_right hr (by omega) tk (pa_cons (pv 3) (pa_cons (pe_cal C__law_one hr (by omega) tk (pa_cons (pv 2) (pa_cons (pe_lst (pa_cons (pe_op op_sub (pe_un un_neg pe_int) (pv 7)) (pa_cons (pe_op op_add pe_int (pv 7)) pa_nil))) pa_nil))) (pa_cons pe_bl pa_nil)))))) (pss_one (ps_ret pe_bl)) pss_nil)
    (pss_one (ps_if (pt_not (pt_val (pe_cal C__law_right hr (by omega) tk (pa_cons (pv 3) (pa_cons (pe_cal C__law_one hr (by omega) tk (pa_cons (pv 2) (pa_cons (pe_lst (pa_cons pe_bl (pa_cons pe_bl (pa_cons pe_non (pa_cons pe_str (pa_cons (pe_tup pa_nil) (pa_cons (pe_lst (pa_cons pe_int pa_nil)) pa_nil))))))) pa_nil))) (pa_cons pe_bl pa_nil)))))) (pss_one (ps_ret pe_bl)) pss_nil))))))))))))
    (pss_one (ps_ret pe_bl))), ?_⟩
  refine i_start [some _, none, none, none, none, none, none, none] (by rfl) ?_
  try dsimp only [cxOf]
  walk_at "rd"
  refine i_lenL hS ?_
  walk_at "rd"
  rw [List.length_map]
  refine ⟨_, rfl, by omega, by omega, ?_⟩
  refine for_range (lo := 0) (n := (max (3 : Int) (min (63 : Int) (ns.length : Nat))).toNat) (fun i s h => ∃ b1 b2 b3 b4 b5 b6 b7, s = [some (.ref a), b1, b2, b3, b4, b5, b6, b7] ∧ Same H h)
    ⟨none, none, none, none, none, none, none, rfl, Same.refl H⟩ ?_ ?_
  · rintro i s h hi ⟨b1, b2, b3, b4, b5, b6, b7, rfl, sH⟩
    have hi63 : i < 63 := by omega
    rw [Int.zero_add]
    walk_at "rd"
    refine ⟨a, ns, i, rfl, sH.seq hS, hb, by omega, fun fd xs H1 nf s1 e1 hF => ?_⟩
    have nfh : h fd = none := nf
    walk_at "rd"
    refine i_hold (fun x H2 => ∃ (most : Nat) (ys : List V), x = .int most ∧ 40 ≤ most ∧ most ≤ 1500 ∧ SameX fd H1 H2 ∧ H2 fd = some (.lst ys) ∧ FdL 1 ys) (fun Q' kk => ?_) ?_
    · walk_at "rd"
      refine i_dec (fun c => ?_) (fun c => ?_)
      · walk_at "rd"
        refine ⟨fd, 4, 0, xs, rfl, e1, hF, by decide, by decide, by decide, fun g ys g0 g1 hy => ?_⟩
        walk_at "rd"
        refine i_dec (fun c2 => ?_) (fun c2 => ?_)
        · walk_at "rd"
          exact kk _ _ ⟨1500, ys, rfl, by decide, by decide, SameX.upd, upd_same, hy⟩
        · walk_at "rd"
          exact kk _ _ ⟨60, ys, rfl, by decide, by decide, SameX.upd, upd_same, hy⟩
      · walk_at "rd"
        exact kk _ _ ⟨60, xs, rfl, by decide, by decide, SameX.refl _ _, e1, hF.mono (by decide)⟩
    · rintro x H2 ⟨most, ys, rfl, m1, m2, sx2, e2, hy⟩
      walk_at "rd"
      refine ⟨fd, 1, most, ys, rfl, e2, hy, m1, m2, by decide, fun v g zs H3 sx3 e3 hz hg hgh hgl => ?_⟩
      walk_at "rd"
      refine ⟨v, g, rfl, hg, hgh, fun v4 H4 s4 z4 => ?_⟩
      walk_at "rd"
      refine i_hold (fun x H' => ∃ wd : Nat, x = .int wd ∧ H' = H4 ∧ wd ≤ 1500) (fun Q' kk => ?_) ?_
      · cases eg : gsz g with
        | none =>
          rw [eg] at z4
          obtain rfl : v4 = .non := z4
          walk_at "rd"
          exact kk _ _ ⟨12, rfl, rfl, by decide⟩
        | some ab =>
          obtain ⟨wd, hh⟩ := ab
          obtain ⟨sh, rfl, _, rfl, rfl⟩ := gsz_some eg
          rw [eg] at z4
          obtain ⟨p, rfl, hp⟩ := z4
          walk_at "rd"
          refine i_ixST (SqT.of hp) rfl ?_
          walk_at "rd"
          rw [wid_g] at hgl
          exact kk _ _ ⟨wid sh, rfl, rfl, by omega⟩
      · rintro x H' ⟨wd, rfl, rfl, hwd⟩
        have S4 : Same h H' := (SameX.fresh sx3 (SameX.fresh sx2 s1 nfh) nfh).trans s4
        have e4 : H' fd = some (.lst zs) := s4 _ _ e3
        have g4 : GShp H' v g := hg.mono s4
        walk_at "rd"
        refine ⟨fd, _, 3101, zs, rfl, e4, hz, by omega, by omega, by decide, fun g5 us g0 g1 hu5 => ?_⟩
        generalize eH5 : L2.upd H' fd _ = H5
        have x5 : SameX fd H' H5 := by rw [← eH5]; exact SameX.upd
        have e5 : H5 fd = some (.lst us) := by rw [← eH5]; exact upd_same
        have k5 := Keeps.ofX x5 e4 e5
        walk_at "rd"
        refine i_cut (fun s6 h6 => ∃ (i6 : Int) (ys6 : List V), s6 = [some (.ref a), some (.int (i : Nat)), some (.ref fd), some v, some v4, some (.int wd), some (.int i6), b7] ∧ Same h h6 ∧ GShp h6 v g ∧ h6 fd = some (.lst ys6) ∧ FdL 3120 ys6) ?_ ?_
        · walk_at "rd"
          refine ⟨fd, 4, 3102, us, rfl, e5, hu5, by decide, by decide, by decide, fun g6 vs h0 h1 hv => ?_⟩
          generalize eH6 : L2.upd H5 fd _ = H6
          have x6 : SameX fd H5 H6 := by rw [← eH6]; exact SameX.upd
          have e6 : H6 fd = some (.lst vs) := by rw [← eH6]; exact upd_same
          have k6 := Keeps.ofX x6 e5 e6
          have S6 : Same h H6 := SameX.fresh x6 (SameX.fresh x5 S4 nfh) nfh
          walk_at "rd"
          refine i_dec (fun c => ?_) (fun c => ?_)
          · walk_at "rd"
            refine ⟨fd, 62, 3103, vs, rfl, e6, hv, by decide, by decide, by decide, fun g7 ws h2 h3 hw => ?_⟩
            generalize eH7 : L2.upd H6 fd _ = H7
            have x7 : SameX fd H6 H7 := by rw [← eH7]; exact SameX.upd
            have e7 : H7 fd = some (.lst ws) := by rw [← eH7]; exact upd_same
            have k7 := Keeps.ofX x7 e6 e7
            walk_at "rd"
            refine ⟨by show 7 ≤ sizeLine; decide, fun l8 hl8 => ?_⟩
            generalize eH8 : L2.upd H7 l8 _ = H8
            obtain ⟨s8, e8⟩ := laid eH8 hl8
            have n8 : l8 ≠ fd := fun z => by rw [z, e7] at hl8; cases hl8
            walk_at "rd"
            refine ⟨fd, l8, 3104, ws, _, rfl, s8 _ _ e7, hw, by decide, e8, n8, by simp, by show 7 ≤ 100000; decide, fun v9 vs9 hv9 hF9 => ?_⟩
            generalize eH9 : L2.upd H8 fd _ = H9
            have x9 : SameX fd H8 H9 := by rw [← eH9]; exact SameX.upd
            have e9 : H9 fd = some (.lst vs9) := by rw [← eH9]; exact upd_same
            have k9 := Keeps.ofX x9 (s8 _ _ e7) e9
            obtain ⟨i9, rfl⟩ : ∃ i9 : Int, v9 = .int i9 := by
              simp only [List.mem_cons, List.not_mem_nil, or_false] at hv9
              rcases hv9 with rfl | rfl | rfl | rfl | rfl | rfl | rfl <;> exact ⟨_, rfl⟩
            walk_at "rd"
            exact ⟨i9, vs9, rfl, SameX.fresh x9 ((SameX.fresh x7 S6 nfh).trans s8) nfh, (((g4.keep k5).keep k6).keep ((k7.trans (Keeps.of s8)).trans k9)), e9, hF9.mono (by decide)⟩
          · walk_at "rd"
            exact ⟨_, vs, rfl, S6, (g4.keep k5).keep k6, e6, hv.mono (by decide)⟩
        · rintro s6 h6 ⟨i6, ys6, rfl, S6, g6, e6, hF6⟩
          walk_at "rd"
          refine ⟨v, g, .int i6, "int", rfl, g6, hgh, by omega, ⟨rfl, by decide⟩, fun H7 s7 => ?_⟩
          walk_at "rd"
          refine i_F ?_
          walk_at "rd"
          refine i_rI ⟨by decide, by decide, by decide⟩ ?_
          walk_at "rd"
          have far0 : (10 : Int) ^ (60 : Int).toNat = 10 ^ 60 := by decide +kernel
          refine ⟨fd, _, 3120, ys6, rfl, s7 _ _ e6, hF6, by rw [far0]; decide, by rw [far0]; decide, by decide, fun far us8 f0 f1 hu8 => ?_⟩
          generalize eH8 : L2.upd H7 fd _ = H8
          have x8 : SameX fd H7 H8 := by rw [← eH8]; exact SameX.upd
          have e8 : H8 fd = some (.lst us8) := by rw [← eH8]; exact upd_same
          have k8 := Keeps.ofX x8 (s7 _ _ e6) e8
          have S8 : Same h H8 := SameX.fresh x8 (S6.trans s7) nfh
          have g8 : GShp H8 v g := (g6.mono s7).keep k8
          walk_at "rd"
          refine ⟨by show 2 ≤ sizeLine; decide, fun l9 hl9 => ?_⟩
          generalize eH9 : L2.upd H8 l9 _ = H9
          obtain ⟨s9, e9⟩ := laid eH9 hl9
          have n9 : l9 ≠ fd := fun z => by rw [z, e8] at hl9; cases hl9
          walk_at "rd"
          refine ⟨fd, l9, 3121, us8, _, rfl, s9 _ _ e8, hu8, by decide, e9, n9, by simp, by show 2 ≤ 100000; decide, fun v10 vs10 hv10 hF10 => ?_⟩
          generalize eH10 : L2.upd H9 fd _ = H10
          have x10 : SameX fd H9 H10 := by rw [← eH10]; exact SameX.upd
          have e10 : H10 fd = some (.lst vs10) := by rw [← eH10]; exact upd_same
          have k10 := Keeps.ofX x10 (s9 _ _ e8) e10
          have S10 : Same h H10 := SameX.fresh x10 (S8.trans s9) nfh
          have g10 : GShp H10 v g := (g8.mono s9).keep k10
          obtain ⟨i10, rfl⟩ : ∃ i10 : Int, v10 = .int i10 := by
            simp only [List.mem_cons, List.not_mem_nil, or_false] at hv10
            rcases hv10 with rfl | rfl <;> exact ⟨_, rfl⟩
          walk_at "rd"
          refine ⟨v, g, .int i10, "int", rfl, g10, hgh, by omega, ⟨rfl, by decide⟩, fun H11 s11 => ?_⟩
          walk_at "rd"
          refine i_F ?_
          walk_at "rd"
          refine ⟨Nat.zero_le _, fun t12 ht12 => ?_⟩
          generalize eH12 : L2.upd H11 t12 _ = H12
          obtain ⟨s12, e12⟩ := laid eH12 ht12
          walk_at "rd"
          refine ⟨by show 1 ≤ sizeLine; decide, fun t13 ht13 => ?_⟩
          generalize eH13 : L2.upd H12 t13 _ = H13
          obtain ⟨s13, e13⟩ := laid eH13 ht13
          walk_at "rd"
          refine ⟨by show 6 ≤ sizeLine; decide, fun l14 hl14 => ?_⟩
          generalize eH14 : L2.upd H13 l14 _ = H14
          obtain ⟨s14, e14⟩ := laid eH14 hl14
          have S14 : Same H10 H14 := ((s11.trans s12).trans s13).trans s14
          have f14 : H14 fd = some (.lst vs10) := S14 _ _ e10
          have n14 : l14 ≠ fd := fun z => by rw [z, ((s11.trans s12).trans s13) _ _ e10] at hl14; cases hl14
          walk_at "rd"
          refine ⟨fd, l14, 3122, vs10, _, rfl, f14, hF10, by decide, e14, n14, by simp, by show 6 ≤ 100000; decide, fun v15 vs15 hv15 hF15 => ?_⟩
          generalize eH15 : L2.upd H14 fd _ = H15
          have x15 : SameX fd H14 H15 := by rw [← eH15]; exact SameX.upd
          have e15 : H15 fd = some (.lst vs15) := by rw [← eH15]; exact upd_same
          have k15 := Keeps.ofX x15 f14 e15
          have S15 : Same h H15 := SameX.fresh x15 (S10.trans S14) nfh
          have g15 : GShp H15 v g := (g10.mono S14).keep k15
          obtain ⟨nn, kn, kf⟩ : ∃ nn, Kn H15 v15 nn ∧ (nn == "int") = false := by
            simp only [List.mem_cons, List.not_mem_nil, or_false] at hv15
            rcases hv15 with rfl | rfl | rfl | rfl | rfl | rfl
            · exact ⟨"bool", ⟨rfl, by decide⟩, by decide⟩
            · exact ⟨"bool", ⟨rfl, by decide⟩, by decide⟩
            · exact ⟨"NoneType", ⟨rfl, by decide⟩, by decide⟩
            · exact ⟨"str", ⟨rfl, by decide⟩, by decide⟩
            · exact ⟨"tuple", ⟨k15.2 _ _ (tyN_tup ((s13.trans s14) _ _ e12)), by decide⟩, by decide⟩
            · exact ⟨"list", ⟨k15.2 _ _ (tyN_lst (s14 _ _ e13)), by decide⟩, by decide⟩
          walk_at "rd"
          refine ⟨v, g, v15, nn, by rw [kf], g15, hgh, by omega, kn, fun H16 s16 => ?_⟩
          walk_at "rd"
          refine i_F ?_
          walk_at "rd"
          exact ⟨_, _, _, _, _, _, _, rfl, sH.trans (S15.trans s16)⟩
  · rintro s h ⟨b1, b2, b3, b4, b5, b6, b7, rfl, sH⟩
    walk_at "rd"
    exact q h sH
theorem c_asked_one (T : Txt K mg) : Cal P w K mg base 150 "_law_asked_one" (spAsked K) := T.d__law_asked_one.cal sc__law_asked_one (fun vs H Q E h => by obtain ⟨_, _, rfl, _⟩ := h; rfl)
  (b_asked_one T (c_feed T) (c_draw T) (c_one T) (c_law_shape T) (c_law_sizes T 40) (c_law_right T))
end

end K63

set_option maxHeartbeats 4000000
section
open KM
open KD hiding Dp
local macro_rules | `(tactic| walk_at "dw1") => `(tactic| first
  | with_reducible refine d_seq ?_
  | ((with_reducible refine d_var (d := ?dd) ?h1 ?_); (case h1 => exact rfl))
  | ((with_reducible refine d_varO (o := ?oo) ?h1 ?_); (case h1 => exact rfl))
  | ((with_reducible refine d_varR (a := ?aa) ?h1 ?_); (case h1 => exact rfl))
  | ((with_reducible refine d_c (d := ?dd) ?h1 ?_); (case h1 => exact rfl))
  | with_reducible refine d_op ?_
  | with_reducible refine d_un ?_
  | with_reducible refine d_asg ?_
  | with_reducible refine d_gnameF ?_
  | with_reducible refine d_gnameN ?_
  | with_reducible refine d_gown ?_
  | with_reducible refine d_gnameR ?_
  | with_reducible refine d_next ?_
  | with_reducible refine d_brk ?_
  | with_reducible refine d_cnt ?_
  | with_reducible refine d_ret ?_
  | with_reducible refine d_retN ?_
  | with_reducible refine d_drop ?_
  | with_reducible refine d_ifS ?_
  | with_reducible refine d_test ?_
  | with_reducible refine d_B ?_
  | with_reducible refine d_bl ?_
  | with_reducible refine d_blI ?_
  | with_reducible refine d_and ?_
  | with_reducible refine d_or ?_
  | with_reducible refine d_not ?_
  | with_reducible refine d_yes ?_
  | with_reducible refine d_andV ?_
  | with_reducible refine d_orV ?_
  | with_reducible refine d_notV ?_
  | with_reducible refine d_if ?_
  | with_reducible refine d_parX ?_
  | with_reducible refine d_par3X ?_
  | ((with_reducible refine d_asg2X ?h1 ?_); (case h1 => exact rfl))
  | ((with_reducible refine d_asg3X ?h1 ?_); (case h1 => exact rfl))
  | with_reducible refine d_nilX ?_
  | ((with_reducible refine d_nget2 ?h1 ?h2 ?_); (case h1 => exact rfl); (case h2 => exact rfl))
  | ((with_reducible refine d_nput ?h1 ?h2 ?_); (case h1 => exact rfl); (case h2 => exact rfl))
  | ((with_reducible refine d_nget ?h1 ?h2 ?_); (case h1 => exact rfl); (case h2 => exact rfl))
  | ((with_reducible refine d_nin ?h1 ?h2 ?_); (case h1 => exact rfl); (case h2 => exact rfl))
  | with_reducible refine d_kget ?_
  | with_reducible refine d_kget2 ?_
  | with_reducible refine d_kput ?_
  | with_reducible refine d_kin ?_
  | with_reducible refine d_knotin ?_
  | with_reducible refine d_x2F ?_
  | with_reducible refine d_x3F ?_
  | with_reducible refine d_consX ?_
  | with_reducible refine d_cxF ?_
  | with_reducible refine d_sl ?_
  | with_reducible refine d_nopart ?_
  | with_reducible refine d_part ?_
  | with_reducible refine d_nil ?_
  | with_reducible refine d_cons ?_
  | with_reducible refine d_CB ?_
  | with_reducible refine d_tup ?_
  | with_reducible refine d_lst ?_
  | with_reducible refine d_chain ?_
  | with_reducible refine d_par ?_
  | with_reducible refine d_par3 ?_
  | with_reducible refine d_gnil ?_
  | with_reducible refine d_gcons ?_
  | with_reducible refine i_T ?_
  | with_reducible refine i_F ?_
  | with_reducible refine i_nT ?_
  | with_reducible refine i_nF ?_
  | ((with_reducible refine d_mk (ds := ?dsds) ?h1 ?h2 ?_); (case h1 => exact rfl); (case h2 => exact rfl))
  | ((with_reducible refine d_par2 (d := ?dd) (e := ?ee) ?h1 ?h2 ?_); (case h1 => exact rfl); (case h2 => exact rfl))
  | ((with_reducible refine d_par3x (d := ?dd) (e := ?ee) (d3 := ?d3d3) ?h1 ?h2 ?h3 ?_); (case h1 => exact rfl); (case h2 => exact rfl); (case h3 => exact rfl))
  | ((with_reducible refine d_rI0 (i := ?ii) (j := ?jj) (d := ?dd) ?h1 ?h2 ?h3 ?_); (case h1 => exact rfl); (case h2 => exact rfl); (case h3 => exact rfl))
  | ((with_reducible refine d_rU (i := ?ii) (d := ?dd) ?h1 ?h2 ?_); (case h1 => exact rfl); (case h2 => exact rfl))
  | ((with_reducible refine d_eqI (n := ?nn) (m := ?mm) ?h1 ?h2 ?_); (case h1 => exact rfl); (case h2 => exact rfl))
  | ((with_reducible refine d_neI (n := ?nn) (m := ?mm) ?h1 ?h2 ?_); (case h1 => exact rfl); (case h2 => exact rfl))
  | ((with_reducible refine d_eqS (n := ?nn) (m := ?mm) ?h1 ?h2 ?_); (case h1 => exact rfl); (case h2 => exact rfl))
  | ((with_reducible refine d_neS (n := ?nn) (m := ?mm) ?h1 ?h2 ?_); (case h1 => exact rfl); (case h2 => exact rfl))
  | ((with_reducible refine d_isNT (d := ?dd) ?h1 ?h2 ?h3 ?_); (case h1 => exact rfl); (case h2 => exact rfl); (case h3 => exact rfl))
  | ((with_reducible refine d_isNF (d := ?dd) ?h1 ?h2 ?h3 ?_); (case h1 => exact rfl); (case h2 => exact rfl); (case h3 => exact rfl))
  | ((with_reducible refine d_notNT (d := ?dd) ?h1 ?h2 ?h3 ?_); (case h1 => exact rfl); (case h2 => exact rfl); (case h3 => exact rfl))
  | ((with_reducible refine d_notNF (d := ?dd) ?h1 ?h2 ?h3 ?_); (case h1 => exact rfl); (case h2 => exact rfl); (case h3 => exact rfl))
  | ((with_reducible refine d_isB (a := ?aa) (b := ?bb) ?h1 ?h2 ?_); (case h1 => exact rfl); (case h2 => exact rfl))
  | ((with_reducible refine d_notB (a := ?aa) (b := ?bb) ?h1 ?h2 ?_); (case h1 => exact rfl); (case h2 => exact rfl))
  | ((with_reducible refine d_inStr (a := ?aa) (b := ?bb) ?h1 ?h2 ?_); (case h1 => exact rfl); (case h2 => exact rfl))
  | ((with_reducible refine d_notInStr (a := ?aa) (b := ?bb) ?h1 ?h2 ?_); (case h1 => exact rfl); (case h2 => exact rfl))
  | ((with_reducible refine d_len (ds := ?dsds) ?h1 ?_); (case h1 => exact rfl))
  | ((with_reducible refine d_max2 (i := ?ii) (j := ?jj) ?h1 ?h2 ?_); (case h1 => exact rfl); (case h2 => exact rfl))
  | ((with_reducible refine d_min2 (i := ?ii) (j := ?jj) ?h1 ?h2 ?_); (case h1 => exact rfl); (case h2 => exact rfl))
  | ((with_reducible refine d_abs (i := ?ii) ?h1 ?_); (case h1 => exact rfl))
  | ((with_reducible refine d_int1 (i := ?ii) ?h1 ?_); (case h1 => exact rfl))
  | ((with_reducible refine d_listD (ds := ?dsds) ?h1 ?_); (case h1 => exact rfl))
  | ((with_reducible refine d_tupD (ds := ?dsds) ?h1 ?_); (case h1 => exact rfl))
  | ((with_reducible refine d_isKiT (d := ?dd) ?h1 ?h2 ?h3 ?h4 ?_); (case h4 => exact rfl); (case h1 => exact rfl); (case h2 => exact rfl); (case h3 => exact rfl))
  | ((with_reducible refine d_isKiF (d := ?dd) ?h1 ?h2 ?h3 ?h4 ?_); (case h4 => exact rfl); (case h1 => exact rfl); (case h2 => exact rfl); (case h3 => exact rfl))
  | ((with_reducible refine d_isKbT (d := ?dd) ?h1 ?h2 ?h3 ?h4 ?_); (case h4 => exact rfl); (case h1 => exact rfl); (case h2 => exact rfl); (case h3 => exact rfl))
  | ((with_reducible refine d_isKbF (d := ?dd) ?h1 ?h2 ?h3 ?h4 ?_); (case h4 => exact rfl); (case h1 => exact rfl); (case h2 => exact rfl); (case h3 => exact rfl))
  | ((with_reducible refine d_isKtT (d := ?dd) ?h1 ?h2 ?h3 ?h4 ?_); (case h4 => exact rfl); (case h1 => exact rfl); (case h2 => exact rfl); (case h3 => exact rfl))
  | ((with_reducible refine d_isKtF (d := ?dd) ?h1 ?h2 ?h3 ?h4 ?_); (case h4 => exact rfl); (case h1 => exact rfl); (case h2 => exact rfl); (case h3 => exact rfl))
  | ((with_reducible refine d_isKsT (d := ?dd) ?h1 ?h2 ?h3 ?h4 ?_); (case h4 => exact rfl); (case h1 => exact rfl); (case h2 => exact rfl); (case h3 => exact rfl))
  | ((with_reducible refine d_isKsF (d := ?dd) ?h1 ?h2 ?h3 ?h4 ?_); (case h4 => exact rfl); (case h1 => exact rfl); (case h2 => exact rfl); (case h3 => exact rfl))
  | ((with_reducible refine d_isKlT (d := ?dd) ?h1 ?h2 ?h3 ?h4 ?_); (case h4 => exact rfl); (case h1 => exact rfl); (case h2 => exact rfl); (case h3 => exact rfl))
  | ((with_reducible refine d_isKlF (d := ?dd) ?h1 ?h2 ?h3 ?h4 ?_); (case h4 => exact rfl); (case h1 => exact rfl); (case h2 => exact rfl); (case h3 => exact rfl))
  | ((with_reducible refine d_isKdT (d := ?dd) ?h1 ?h2 ?h3 ?h4 ?_); (case h4 => exact rfl); (case h1 => exact rfl); (case h2 => exact rfl); (case h3 => exact rfl))
  | ((with_reducible refine d_isKdF (d := ?dd) ?h1 ?h2 ?h3 ?h4 ?_); (case h4 => exact rfl); (case h1 => exact rfl); (case h2 => exact rfl); (case h3 => exact rfl))
  | ((with_reducible refine d_gtupF  ?h1 ?h2 ?_); (case h1 => exact rfl); (case h2 => exact rfl))
  | ((with_reducible refine d_iT  ?h1 ?_); (case h1 => exact rfl))
  | ((with_reducible refine d_iL  ?h1 ?_); (case h1 => exact rfl))
  | with_reducible refine d_exT ?_
  | ((with_reducible refine d_exL (ds := ?dsds) ?h1 ?_); (case h1 => exact rfl))
  | ((with_reducible refine d_exE (ds := ?dsds) ?h1 ?_); (case h1 => exact rfl))
  | with_reducible refine d_iR1 ?_
  | with_reducible refine d_iR2 ?_
  | ((with_reducible refine d_BMx ?h1 ?_); (case h1 => exact rfl))
  | ((with_reducible refine d_BM0x ?h1 ?_); (case h1 => exact rfl))
  | ((with_reducible refine d_bm (ds := ?dsds) ?h1 ?_); (case h1 => exact rfl))
  | ((with_reducible refine d_truthL  ?h1 ?_); (case h1 => exact rfl)))
local macro_rules | `(tactic| walk_at "dw") => `(tactic| repeat walk_at "dw1")
namespace K63
open PySem PySem.Spec PyProof.Rows L2 KB KM
open KD hiding Dp
section
variable {P : Program} {w : World} {K : PySem.W.Frag} {mg : Str → Option Value} {base : Heap}
abbrev gb (P : Program) (w : World) (K : PySem.W.Frag) : Gb := ⟨P, w, K⟩
/-! ### plain kinds, by data -/
mutual
/-- data that may be asked of: no instances, texts of a length -/
def ok : D → Bool
  | .non => true
  | .bl _ => true
  | .int _ => true
  | .str s => Nat.ble s.length sizeLine
  | .tup l => okL l
  | .lst l => okL l
  | .ro l => okL l
  | .dk _ => true
  | _ => false
def okL : List D → Bool
  | [] => true
  | d :: r => ok d && okL r
end
theorem ok_pl {d : D} (h : ok d = true) : d.pl = true := by cases d <;> first | rfl | (simp [ok] at h)
theorem okL_get : ∀ {l : List D} {i : Nat}, okL l = true → ok (l.getD i .non) = true
  | [], _, _ => rfl
  | d :: r, 0, h => by simp only [okL, Bool.and_eq_true] at h; exact h.1
  | d :: r, i + 1, h => by
    simp only [okL, Bool.and_eq_true] at h
    exact okL_get (l := r) (i := i) h.2
def isInt : D → Bool
  | .int _ => true
  | _ => false
def soIsInt (ds : List D) (out : Out) : Prop := ∃ d, ds = [d] ∧ d.pl = true ∧ out = .ret (.bl (isInt d))
theorem bd_is_integer (T : Txt K mg) : Body P w K mg base (0) ["thing"] "is_integer" (defScope s_is_integer) (defBody s_is_integer) (toSp (gb P w K) (spO K soIsInt)) := by
  intro f cdv A outer s H vs Q E hr h
  have hu := hu_of hr
  have tk : Takes (cxOf (L2.CX P w) P w K mg base ["thing"] "is_integer" (defScope s_is_integer) f cdv A outer s H E) (WF E) := takes_of rfl rfl rfl rfl
  refine ⟨_, (pss_one (ps_ret (pe_and (pe_callB call_isD (by rfl) T.g_isinstance (by decide +kernel) (pa_cons (pv 0) (pa_cons (pe_ty "int" T.g_int) pa_nil))) (pe_one (pe_not (pe_callB call_isD (by rfl) T.g_isinstance (by decide +kernel) (pa_cons (pv 0) (pa_cons (pe_ty "bool" T.g_bool) pa_nil)))))))), ?_⟩
  try dsimp only [cxOf]
  refine d_startO h fun ds out hS c hx hM => ?_
  obtain ⟨d, rfl, hp, rfl⟩ := hS
  refine d_st (δ' := [.fz d]) (by rfl) ?_
  walk_at "dw"
  cases d <;> first | (walk_at "dw"; rfl) | (simp [D.pl] at hp; done)
theorem cd_is_integer (T : Txt K mg) : Cal P w K mg base 1 "is_integer" (toSp (gb P w K) (spO K soIsInt)) := T.d_is_integer.cal sc_is_integer (len_spO fun ds out ⟨_, h, _⟩ => by rw [h]; rfl) (bd_is_integer T)
def isBelow (d : D) (b : Int) : Bool := match d with
  | .int i => decide (0 ≤ i) && decide (i < b)
  | _ => false
def soBelow (ds : List D) (out : Out) : Prop := ∃ d b, ds = [d, .int b] ∧ d.pl = true ∧ out = .ret (.bl (isBelow d b))
abbrev s_is_below : Stmt := (top 10)
theorem sc_is_below : FnScope ["thing", "bound"] ["thing", "bound"] (defScope s_is_below) := ⟨rfl, rfl, rfl, by decide +kernel, rfl, by decide +kernel, by decide +kernel⟩
theorem bd_is_below (T : Txt K mg) (C_is_integer : Cal P w K mg base 1 "is_integer" (toSp (gb P w K) (spO K soIsInt))) : Body P w K mg base (1) ["thing", "bound"] "is_below" (defScope s_is_below) (defBody s_is_below) (toSp (gb P w K) (spO K soBelow)) := by
  intro f cdv A outer s H vs Q E hr h
  have hu := hu_of hr
  have tk : Takes (cxOf (L2.CX P w) P w K mg base ["thing", "bound"] "is_below" (defScope s_is_below) f cdv A outer s H E) (WF E) := takes_of rfl rfl rfl rfl
  refine ⟨_, (pss_one (ps_ret (pe_and (pe_cal C_is_integer hr (by omega) tk (pa_cons (pv 0) pa_nil)) (pe_one (pe_chain op_le op_lt pe_int (pv 0) (pv 1)))))), ?_⟩
  try dsimp only [cxOf]
  refine d_startO h fun ds out hS c hx hM => ?_
  obtain ⟨d, b, rfl, hp, rfl⟩ := hS
  refine d_st (δ' := [.fz d, .fz (.int b)]) (by rfl) ?_
  walk_at "dw"
  refine d_callR hx ?_
  walk_at "dw"
  refine ⟨_, _, rfl, ⟨d, rfl, hp, rfl⟩, ?_⟩
  walk_at "dw"
  cases d <;> first | (walk_at "dw"; rfl) | skip
  rename_i i
  walk_at "dw"
  refine i_T ?_
  walk_at "dw"
  refine i_dec (fun z => ?_) (fun z => ?_)
  · walk_at "dw"
    simp only [isBelow, decide_eq_true z, Bool.true_and]
    rfl
  · simp only [isBelow, decide_eq_false z, Bool.false_and]
    rfl
theorem cd_is_below (T : Txt K mg) : Cal P w K mg base 2 "is_below" (toSp (gb P w K) (spO K soBelow)) := T.d_is_below.cal sc_is_below (len_spO fun ds out ⟨_, _, h, _⟩ => by rw [h]; rfl) (bd_is_below T (cd_is_integer T))
def isMark (d : D) : Bool := match d with
  | .str s => decide (((s.length : Nat) : Int) = 1) && inStr s "abcdefgh"
  | _ => false
def soMark (ds : List D) (out : Out) : Prop := ∃ d, ds = [d] ∧ ok d = true ∧ out = .ret (.bl (isMark d))
abbrev s_is_mark : Stmt := (top 12)
theorem sc_is_mark : FnScope ["thing"] ["thing"] (defScope s_is_mark) := ⟨rfl, rfl, rfl, by decide +kernel, rfl, by decide +kernel, by decide +kernel⟩
theorem bd_is_mark (T : Txt K mg) : Body P w K mg base (0) ["thing"] "is_mark" (defScope s_is_mark) (defBody s_is_mark) (toSp (gb P w K) (spO K soMark)) := by
  intro f cdv A outer s H vs Q E hr h
  have hu := hu_of hr
  have tk : Takes (cxOf (L2.CX P w) P w K mg base ["thing"] "is_mark" (defScope s_is_mark) f cdv A outer s H E) (WF E) := takes_of rfl rfl rfl rfl
  refine ⟨_, (pss_one (ps_ret (pe_and (pe_callB call_isD (by rfl) T.g_isinstance (by decide +kernel) (pa_cons (pv 0) (pa_cons (pe_ty "str" T.g_str) pa_nil))) (pe_and (pe_cmpR op_eq (pe_callB call_lenK (by rfl) T.g_len (by decide +kernel) (pa_cons (pv 0) pa_nil)) pe_int (nomark _)) (pe_one (pe_cmpR op_inStrD (pv 0) (pe_gstr T.g_MARKS) (by rfl))))))), ?_⟩
  try dsimp only [cxOf]
  refine d_startO h fun ds out hS c hx hM => ?_
  obtain ⟨d, rfl, hp, rfl⟩ := hS
  have hp2 := ok_pl hp
  refine d_st (δ' := [.fz d]) (by rfl) ?_
  walk_at "dw"
  cases d <;> first | (walk_at "dw"; rfl) | (simp [ok] at hp; done) | skip
  rename_i s
  simp only [ok] at hp
  walk_at "dw"
  refine d_lenS rfl (d_small hp) ?_
  walk_at "dw"
  refine i_dec (fun z => ?_) (fun z => ?_)
  · walk_at "dw"
    simp only [isMark, decide_eq_true z, Bool.true_and]
    rfl
  · simp only [isMark, decide_eq_false z, Bool.false_and]
    rfl
theorem cd_is_mark (T : Txt K mg) : Cal P w K mg base 1 "is_mark" (toSp (gb P w K) (spO K soMark)) := T.d_is_mark.cal sc_is_mark (len_spO fun ds out ⟨_, h, _⟩ => by rw [h]; rfl) (bd_is_mark T)
/-! ### documents -/
def forL : Int → List D → Bool
  | _, [] => true
  | m, .tup [x, .int d] :: r => isMark x && isBelow (.int d) (m + 1) && forL (d + 1) r
  | _, _ :: _ => false
def forest (d : D) : Bool := match d with
  | .tup l => decide (((l.length : Nat) : Int) ≤ 20000) && forL 0 l
  | _ => false
def soForest (ds : List D) (out : Out) : Prop := ∃ d, ds = [d] ∧ ok d = true ∧ out = .ret (.bl (forest d))
abbrev s_is_forest : Stmt := (top 14)
theorem sc_is_forest : FnScope ["thing", "most", "entry"] ["thing"] (defScope s_is_forest) := ⟨rfl, rfl, rfl, by decide +kernel, rfl, by decide +kernel, by decide +kernel⟩
theorem drop_get {l : List D} {i : Nat} (h : i < l.length) : l.drop i = l.getD i .non :: l.drop (i + 1) := by
  rw [List.getD_eq_getElem?_getD, List.getElem?_eq_getElem h]
  exact (List.drop_eq_getElem_cons h)
theorem bd_is_forest (T : Txt K mg) (C_is_mark : Cal P w K mg base 1 "is_mark" (toSp (gb P w K) (spO K soMark))) (C_is_below : Cal P w K mg base 2 "is_below" (toSp (gb P w K) (spO K soBelow))) : Body P w K mg base (2) ["thing", "most", "entry"] "is_forest" (defScope s_is_forest) (defBody s_is_forest) (toSp (gb P w K) (spO K soForest)) := by
  intro f cdv A outer s H vs Q E hr h
  have hu := hu_of hr
  have tk : Takes (cxOf (L2.CX P w) P w K mg base ["thing", "most", "entry"] "is_forest" (defScope s_is_forest) f cdv A outer s H E) (WF E) := takes_of rfl rfl rfl rfl
  refine ⟨_, (pss_cons (ps_if (PW.pt (pw_or (pt_not (pt_val (pe_callB call_isD (by rfl) T.g_isinstance (by decide +kernel) (pa_cons (pv 0) (pa_cons (pe_ty "tuple" T.g_tuple) pa_nil))))) (pw_or1 (pt_cmpR op_gt (pe_callB call_lenK (by rfl) T.g_len (by decide +kernel) (pa_cons (pv 0) pa_nil)) (pe_gint T.g_MOST_NODES) (nomark _))))) (pss_one (ps_ret pe_bl)) pss_nil)
    (pss_cons (ps_set (i := 1) sc_is_forest.nd rfl (Or.inl rfl) pe_int)
    (pss_cons (ps_for (passes_of rfl) rfl (pi_tup (pv 0)) (pg_name (i := 2) sc_is_forest.nd rfl (Or.inl rfl)) (pss_cons (ps_if (PW.pt (pw_or (pt_not (pt_val (pe_callB call_isD (by rfl) T.g_isinstance (by decide +kernel) (pa_cons (pv 2) (pa_cons (pe_ty "tuple" T.g_tuple) pa_nil))))) (pw_or1 (pt_cmpR op_ne (pe_callB call_lenK (by rfl) T.g_len (by decide +kernel) (pa_cons (pv 2) pa_nil)) pe_int (nomark _))))) (pss_one (ps_ret pe_bl)) pss_nil)
    (pss_cons (ps_if (PW.pt (pw_or (pt_not (pt_val (pe_cal C_is_mark hr (by omega) tk (pa_cons (pe_ix ix_seq (pv 2) pe_int (fun _ _ => rfl)) pa_nil)))) (pw_or1 (pt_not (pt_val (pe_cal C_is_below hr (by omega) tk (pa_cons (pe_ix ix_seq (pv 2) pe_int (fun _ _ => rfl)) (pa_cons (pe_op op_add (pv 1) pe_int) pa_nil)))))))) (pss_one (ps_ret pe_bl)) pss_nil)
    (pss_one (ps_set (i := 1) sc_is_forest.nd rfl (Or.inl rfl) (pe_op op_add (pe_ix ix_seq (pv 2) pe_int (fun _ _ => rfl)) pe_int))))))
    (pss_one (ps_ret pe_bl))))), ?_⟩
  try dsimp only [cxOf]
  refine d_startO h fun ds out hS c hx hM => ?_
  obtain ⟨d, rfl, hp, rfl⟩ := hS
  have hp2 := ok_pl hp
  refine d_st (δ' := [.fz d, .no, .no]) (by rfl) ?_
  walk_at "dw"
  cases d <;> first | (walk_at "dw"; rfl) | (simp [ok] at hp; done) | skip
  rename_i l
  simp only [ok] at hp
  walk_at "dw"
  refine i_dec (fun z => ?_) (fun z => ?_)
  · walk_at "dw"
    simp only [forest, decide_eq_false (show ¬ ((l.length : Nat) : Int) ≤ 20000 by omega), Bool.false_and]
    rfl
  walk_at "dw"
  refine d_for ?_
  walk_at "dw"
  refine ⟨fun i δ => ∃ m e, δ = [.fz (.tup l), .fz (.int m), e] ∧ forL 0 l = forL m (l.drop i), ⟨0, _, rfl, rfl⟩, fun _ _ _ => trivial, ?_, ?_⟩
  · rintro i δ hi ⟨m, e, rfl, hm⟩
    have hd := drop_get hi
    have he := okL_get (i := i) hp
    dsimp only
    generalize l.getD i .non = x at hd he ⊢
    have hx2 := ok_pl he
    have bad : forL m (l.drop i) = false → OutR (.ret (.bl (forest (.tup l)))) (.fz (.bl false)) := fun q => by
      simp only [forest, hm, q, Bool.and_false]; rfl
    walk_at "dw"
    cases x <;> first | (walk_at "dw"; exact bad (by rw [hd]; rfl)) | (simp [ok] at he; done) | skip
    rename_i xs
    simp only [ok] at he
    walk_at "dw"
    refine i_ndec (fun z2 => ?_) (fun z2 => ?_)
    · walk_at "dw"
      refine bad ?_
      rw [hd]
      match xs, z2 with
      | [], _ => rfl
      | [_], _ => rfl
      | [_, _], z2 => exact absurd rfl z2
      | _ :: b :: _ :: _, _ => cases b <;> rfl
    · obtain ⟨a, b, rfl⟩ : ∃ a b, xs = [a, b] := by
        match xs, z2 with
        | [a, b], _ => exact ⟨a, b, rfl⟩
        | [], z2 => simp at z2
        | [_], z2 => simp at z2
        | _ :: _ :: _ :: _, z2 => simp at z2; omega
      simp only [okL, Bool.and_true, Bool.and_eq_true] at he
      walk_at "dw"
      refine d_callR hx ?_
      walk_at "dw"
      refine d_ix rfl rfl rfl ?_
      walk_at "dw"
      refine ⟨_, _, rfl, ⟨a, rfl, he.1, rfl⟩, ?_⟩
      walk_at "dw"
      cases hma : isMark a with
      | false =>
        walk_at "dw"
        refine bad ?_
        rw [hd]
        cases b <;> first | rfl | (simp only [forL, hma, Bool.false_and])
      | true =>
        walk_at "dw"
        refine d_callR hx ?_
        walk_at "dw"
        refine d_ix rfl rfl rfl ?_
        walk_at "dw"
        refine ⟨_, _, rfl, ⟨b, _, rfl, ok_pl he.2, rfl⟩, ?_⟩
        walk_at "dw"
        cases hb : isBelow b (m + 1) with
        | false =>
          walk_at "dw"
          refine bad ?_
          rw [hd]
          cases b <;> first | rfl | (simp only [forL, hma, hb, Bool.and_false, Bool.false_and])
        | true =>
          cases b <;> first | (simp [isBelow] at hb; done) | skip
          rename_i n
          walk_at "dw"
          refine d_ix rfl rfl rfl ?_
          walk_at "dw"
          refine ⟨_, _, rfl, ?_⟩
          rw [hm, hd]
          simp only [forL, hma, hb, Bool.true_and]
  · rintro δ ⟨m, e, rfl, hm⟩
    walk_at "dw"
    rw [List.drop_length] at hm
    simp only [forest, hm, decide_eq_true (show ((l.length : Nat) : Int) ≤ 20000 by omega)]
    rfl
theorem cd_is_forest (T : Txt K mg) : Cal P w K mg base 3 "is_forest" (toSp (gb P w K) (spO K soForest)) := T.d_is_forest.cal sc_is_forest (len_spO fun ds out ⟨_, h, _⟩ => by rw [h]; rfl) (bd_is_forest T (cd_is_mark T) (cd_is_below T))
def soNeedDoc (ds : List D) (out : Out) : Prop := ∃ d, ds = [d] ∧ ok d = true ∧ out = if forest d = true then .ret .non else .exc "BadDocument"
abbrev s_need_document : Stmt := (top 15)
theorem sc_need_document : FnScope ["document"] ["document"] (defScope s_need_document) := ⟨rfl, rfl, rfl, by decide +kernel, rfl, by decide +kernel, by decide +kernel⟩
theorem bd_need_document (T : Txt K mg) (C_is_forest : Cal P w K mg base 3 "is_forest" (toSp (gb P w K) (spO K soForest))) : Body P w K mg base (3) ["document"] "need_document" (defScope s_need_document) (defBody s_need_document) (toSp (gb P w K) (spO K soNeedDoc)) := by
  intro f cdv A outer s H vs Q E hr h
  have hu := hu_of hr
  have tk : Takes (cxOf (L2.CX P w) P w K mg base ["document"] "need_document" (defScope s_need_document) f cdv A outer s H E) (WF E) := takes_of rfl rfl rfl rfl
  refine ⟨_, (pss_one (ps_if (pt_not (pt_val (pe_cal C_is_forest hr (by omega) tk (pa_cons (pv 0) pa_nil)))) (pss_one (ps_raiseD T.x_BadDocument tk)) pss_nil)), ?_⟩
  try dsimp only [cxOf]
  refine d_startO h fun ds out hS c hx hM => ?_
  obtain ⟨d, rfl, hp, rfl⟩ := hS
  refine d_st (δ' := [.fz d]) (by rfl) ?_
  walk_at "dw"
  refine d_callR hx ?_
  walk_at "dw"
  refine ⟨_, _, rfl, ⟨d, rfl, hp, rfl⟩, ?_⟩
  walk_at "dw"
  cases e : forest d with
  | false =>
    walk_at "dw"
    refine d_raise hx ?_
    first | rfl | (rw [e]; rfl)
  | true =>
    walk_at "dw"
    first | rfl | (rw [e]; rfl)
theorem cd_need_document (T : Txt K mg) : Cal P w K mg base 4 "need_document" (toSp (gb P w K) (spO K soNeedDoc)) := T.d_need_document.cal sc_need_document (len_spO fun ds out ⟨_, h, _⟩ => by rw [h]; rfl) (bd_need_document T (cd_is_forest T))
end

end K63

set_option maxHeartbeats 4000000
namespace K63
open PySem PySem.Spec PyProof.Rows L2 KB KM
open KD hiding Dp
section
variable {P : Program} {w : World} {K : PySem.W.Frag} {mg : Str → Option Value} {base : Heap}
/-! ### lists about nodes -/
def ent (p : Str × Nat) : D := .tup [.str p.1, .int (p.2 : Nat)]
def docL (l : List (Str × Nat)) : List D := l.map ent
abbrev dps (l : List (Str × Nat)) : List Nat := l.map (·.2)
def oN : Option Nat → D
  | none => .non
  | some k => .int (k : Nat)
def intL (l : List Nat) : List D := l.map fun n => D.int (n : Nat)
def parL (ds : List Nat) (n : Nat) : List D := (List.range n).map fun i => oN (par ds i)
theorem docL_get {l : List (Str × Nat)} {i : Nat} (h : i < l.length) : ∃ m, (docL l).getD i .non = .tup [.str m, .int ((dps l).getD i 0 : Nat)] := by
  refine ⟨l[i].1, ?_⟩
  rw [List.getD_eq_getElem?_getD, docL, List.getElem?_map, List.getElem?_eq_getElem h, List.getD_eq_getElem?_getD, List.getElem?_map, List.getElem?_eq_getElem h]
  rfl
theorem docL_len (l : List (Str × Nat)) : (docL l).length = l.length := List.length_map ..
theorem parL_len (ds : List Nat) (n : Nat) : (parL ds n).length = n := by rw [parL, List.length_map, List.length_range]
theorem parL_get {ds : List Nat} {n i : Nat} (h : i < n) : (parL ds n).getD i .non = oN (par ds i) := by
  rw [List.getD_eq_getElem?_getD, parL, List.getElem?_map, List.getElem?_range h]
  rfl
theorem parL_succ (ds : List Nat) (n : Nat) : parL ds (n + 1) = parL ds n ++ [oN (par ds n)] := by
  unfold parL
  rw [List.range_succ, List.map_append]
  rfl
theorem fo_len (l : List (Str × Nat)) : (dps l).length = l.length := List.length_map ..
theorem pa_le {ds : List Nat} (h : Fo 0 ds) : ∀ i, i ≤ ds.length → (pa ds i).length ≤ i
  | 0, _ => Nat.le_refl 0
  | i + 1, hi => by
    have k := pa_le h i (by omega)
    simp only [pa, List.length_append, List.length_take, List.length_singleton]
    omega
theorem getD_at {α : Type} {l : List α} {k : Nat} {d : α} (h : k < l.length) : l[k]? = some (l.getD k d) := by
  rw [List.getD_eq_getElem?_getD, List.getElem?_eq_getElem h]; rfl
theorem intT {l : List Nat} {n k : Nat} (h1 : k < n) (h2 : k < l.length) : (intL (l.take n))[k]? = some (.int (l.getD k 0 : Nat)) := by
  rw [intL, List.getElem?_map, List.getElem?_take, if_pos h1, getD_at (d := 0) h2]
  rfl
theorem par_get {ds : List Nat} {i : Nat} (h1 : 0 < ds.getD i 0) (h2 : ds.getD i 0 - 1 < (pa ds i).length) : par ds i = some ((pa ds i).getD (ds.getD i 0 - 1) 0) := by
  rw [par, if_neg (by omega)]
  exact getD_at h2
def soParents (ds : List D) (out : Out) : Prop := ∃ l, ds = [.tup (docL l)] ∧ Fo 0 (dps l) ∧ l.length ≤ 100000 ∧ out = .lst (parL (dps l) l.length)
abbrev s_parents_of : Stmt := (top 16)
theorem sc_parents_of : FnScope ["document", "parents", "above", "node", "mark", "depth"] ["document"] (defScope s_parents_of) := ⟨rfl, rfl, rfl, by decide +kernel, rfl, by decide +kernel, by decide +kernel⟩
theorem bd_parents_of (T : Txt K mg) : Body P w K mg base (0) ["document", "parents", "above", "node", "mark", "depth"] "parents_of" (defScope s_parents_of) (defBody s_parents_of) (toSp (gb P w K) (spO K soParents)) := by
  intro f cdv A outer s H vs Q E hr h
  have hu := hu_of hr
  have tk : Takes (cxOf (L2.CX P w) P w K mg base ["document", "parents", "above", "node", "mark", "depth"] "parents_of" (defScope s_parents_of) f cdv A outer s H E) (WF E) := takes_of rfl rfl rfl rfl
  refine ⟨_, (pss_cons (ps_setO (i := 1) sc_parents_of.nd rfl (Or.inl rfl) (pe_lst pa_nil))
    (pss_cons (ps_setO (i := 2) sc_parents_of.nd rfl (Or.inl rfl) (pe_lst pa_nil))
    (pss_cons (ps_for (passes_of rfl) rfl (pi_enumT (by rfl) T.g_enumerate (pa_cons (pv 0) pa_nil)) (pg_tup (n := 2) (by rfl) (pgs_cons (pg_name (i := 3) sc_parents_of.nd rfl (Or.inl rfl)) (pgs_cons (pg_tup (n := 2) (by rfl) (pgs_cons (pg_name (i := 4) sc_parents_of.nd rfl (Or.inl rfl)) (pgs_cons (pg_name (i := 5) sc_parents_of.nd rfl (Or.inl rfl)) pgs_nil))) pgs_nil))) (pss_cons (ps_while (passes_of rfl) (pt_cmpR op_gt (pe_callB call_lenK (by rfl) T.g_len (by decide +kernel) (pa_cons (pv 2) pa_nil)) (pv 5) (nomark _)) (pss_one (ps_expr (pe_bm0 PySem.F.plainAttrs_list PySem.F.slot_list_pop PySem.F.type_list_pop mt_pop (pv 2)))))
    (pss_cons (ps_expr (pe_bm PySem.F.plainAttrs_list PySem.F.slot_list_append PySem.F.type_list_append mt_append (pv 1) (pa_cons (pe_ifExp (pt_cmpR op_gt (pv 5) pe_int (nomark _)) (pe_ix ix_seq (pv 2) (pe_un un_neg pe_int) (fun _ _ => rfl)) pe_non) pa_nil)))
    (pss_one (ps_expr (pe_bm PySem.F.plainAttrs_list PySem.F.slot_list_append PySem.F.type_list_append mt_append (pv 2) (pa_cons (pv 3) pa_nil)))))))
    (pss_one (ps_ret (pv 1)))))), ?_⟩
  try dsimp only [cxOf]
  refine d_startO h fun ds out hS c hx hM => ?_
  obtain ⟨l, rfl, hf, hl, rfl⟩ := hS
  refine d_st (δ' := [.fz (.tup (docL l)), .no, .no, .no, .no, .no]) (by rfl) ?_
  have hz : (100000 : Nat) < sizeLine := by decide
  walk_at "dw"
  intro a1
  walk_at "dw"
  intro a2
  walk_at "dw"
  refine d_for ?_
  refine d_iEnumT rfl ?_
  walk_at "dw"
  refine ⟨_, rfl, ?_⟩
  refine ⟨fun i δ => ∃ s1 s2 s3, δ = [.fz (.tup (docL l)), .ow (.fl a1 (parL (dps l) i)), .ow (.fl a2 (intL (pa (dps l) i))), s1, s2, s3], ⟨_, _, _, rfl⟩, fun _ _ _ => trivial, ?_, ?_⟩
  · rintro i δ hi ⟨s1, s2, s3, rfl⟩
    rw [docL_len] at hi
    have hi' : i < (dps l).length := by rw [fo_len]; exact hi
    obtain ⟨m, em⟩ := docL_get hi
    dsimp only
    rw [em]
    have room := pa_room hf hi'
    walk_at "dw"
    refine d_while (fun n δ => ∃ k, n = k ∧ (dps l).getD i 0 ≤ k ∧ k ≤ (pa (dps l) i).length ∧ δ = [.fz (.tup (docL l)), .ow (.fl a1 (parL (dps l) i)), .ow (.fl a2 (intL ((pa (dps l) i).take k))), .fz (.int (i : Nat)), .fz (.str m), .fz (.int ((dps l).getD i 0 : Nat))]) _ ⟨(pa (dps l) i).length, rfl, room, Nat.le_refl _, by rw [List.take_length]; rfl⟩ ?_
    rintro n δ ⟨k, rfl, h1, h2, rfl⟩
    have lt : ((pa (dps l) i).take n).length = n := by rw [List.length_take]; omega
    walk_at "dw"
    rw [show (intL ((pa (dps l) i).take n)).length = n by rw [intL, List.length_map, lt]]
    refine i_dec (fun z => ?_) (fun z => ?_)
    · walk_at "dw"
      refine d_pop (i := 2) (a := a2) (ds := intL ((pa (dps l) i).take n)) (d := .int (((pa (dps l) i).getD (n - 1) 0 : Nat))) rfl rfl ?_ ?_
      · rw [show (intL ((pa (dps l) i).take n)).length = n by rw [intL, List.length_map, lt]]
        exact intT (by omega) (by omega)
      refine ⟨n - 1, by omega, n - 1, rfl, by omega, by omega, ?_⟩
      rw [show (intL ((pa (dps l) i).take n)).dropLast = intL ((pa (dps l) i).take (n - 1)) by
        rw [intL, intL, ← List.map_dropLast, List.dropLast_eq_take, lt, List.take_take, Nat.min_eq_left (by omega)]]
      rfl
    · obtain rfl : n = (dps l).getD i 0 := by omega
      walk_at "dw"
      have e2 : intL (pa (dps l) (i + 1)) = intL ((pa (dps l) i).take ((dps l).getD i 0)) ++ [.int (i : Nat)] := by
        simp only [intL, pa, List.map_append, List.map_cons, List.map_nil]
      have lp : (parL (dps l) i).length < sizeLine := by rw [parL_len]; omega
      have l2 : (intL ((pa (dps l) i).take ((dps l).getD i 0))).length < sizeLine := by
        rw [intL, List.length_map, lt]
        have := (pa_len hf i (by omega))
        have := hf.step i hi'
        have := pa_le hf i (by omega)
        omega
      refine i_dec (fun z2 => ?_) (fun z2 => ?_)
      · walk_at "dw"
        have hlt : (dps l).getD i 0 - 1 < (pa (dps l) i).length := by omega
        have ep : oN (par (dps l) i) = .int (((pa (dps l) i).getD ((dps l).getD i 0 - 1) 0 : Nat)) := by
          rw [par_get (by omega) hlt]
          rfl
        refine d_ix (i := -1) (d := oN (par (dps l) i)) rfl rfl ?_ ?_
        · rw [ep]
          have hl2 : (intL ((pa (dps l) i).take ((dps l).getD i 0))).length = (dps l).getD i 0 := by rw [intL, List.length_map, lt]
          unfold atI ixN
          rw [hl2, if_neg (by decide), if_pos (by omega)]
          show (intL ((pa (dps l) i).take ((dps l).getD i 0)))[((-1 : Int) + ((dps l).getD i 0 : Nat)).toNat]? = _
          rw [show ((-1 : Int) + ((dps l).getD i 0 : Nat)).toNat = (dps l).getD i 0 - 1 by omega]
          exact intT (by omega) hlt
        walk_at "dw"
        refine d_append (i := 1) rfl rfl rfl lp ?_
        walk_at "dw"
        refine d_append (i := 2) rfl rfl rfl l2 ?_
        refine ⟨.fz (.int (i : Nat)), .fz (.str m), .fz (.int ((dps l).getD i 0 : Nat)), ?_⟩
        rw [parL_succ, e2]
        rfl
      · walk_at "dw"
        have ep : oN (par (dps l) i) = .non := by
          unfold par
          rw [if_pos (by omega)]
          rfl
        refine d_append (i := 1) rfl rfl rfl lp ?_
        walk_at "dw"
        refine d_append (i := 2) rfl rfl rfl l2 ?_
        refine ⟨.fz (.int (i : Nat)), .fz (.str m), .fz (.int ((dps l).getD i 0 : Nat)), ?_⟩
        rw [parL_succ, e2, ep]
        rfl
  · rintro δ ⟨s1, s2, s3, rfl⟩
    rw [docL_len]
    refine d_retO (o := .fl a1 (parL (dps l) l.length)) rfl hM (.inl rfl) ?_
    exact ⟨a1, rfl⟩
theorem cd_parents_of (T : Txt K mg) : Cal P w K mg base 1 "parents_of" (toSp (gb P w K) (spO K soParents)) := T.d_parents_of.cal sc_parents_of (len_spO fun ds out ⟨_, h, _⟩ => by rw [h]; rfl) (bd_parents_of T)
/-! ### rows -/
def kids (ds : List Nat) (m : Nat) (p : Option Nat) : List Nat := (List.range m).filter fun i => decide (par ds i = p)
theorem kids_succ (ds : List Nat) (m : Nat) (p : Option Nat) : kids ds (m + 1) p = kids ds m p ++ (if par ds m = p then [m] else []) := by
  unfold kids
  rw [List.range_succ, List.filter_append]
  by_cases h : par ds m = p
  · simp [h]
  · simp [h]
theorem kids_len (ds : List Nat) : ∀ m p, (kids ds m p).length = KM.cnt ds m p
  | 0, _ => rfl
  | m + 1, p => by
    rw [kids_succ, List.length_append, kids_len ds m p, KM.cnt]
    split <;> rfl
def rowAt (n k : Nat) : Option Nat := if k = n then none else some k
def rowsD (ds : List Nat) (n : Nat) : List D := (List.range (n + 1)).map fun k => .lst (intL (kids ds n (rowAt n k)))
def mkOs (as : List Addr) (f : Nat → List D) : List OD := (List.range as.length).map fun k => .fl (as.getD k 0) (f k)
theorem mkOs_len (as : List Addr) (f : Nat → List D) : (mkOs as f).length = as.length := by rw [mkOs, List.length_map, List.length_range]
theorem mkOs_get {as : List Addr} {f : Nat → List D} {k : Nat} (h : k < as.length) : (mkOs as f)[k]? = some (.fl (as.getD k 0) (f k)) := by
  rw [mkOs, List.getElem?_map, List.getElem?_range h]; rfl
theorem mkOs_snoc (as : List Addr) (a : Addr) (f : Nat → List D) : mkOs (as ++ [a]) f = mkOs as f ++ [.fl a (f as.length)] := by
  unfold mkOs
  rw [List.length_append, List.length_singleton, List.range_succ, List.map_append]
  congr 1
  · refine List.map_congr_left fun k hk => ?_
    rw [List.mem_range] at hk
    rw [List.getD_eq_getElem?_getD, List.getElem?_append_left hk, ← List.getD_eq_getElem?_getD]
  · simp
theorem mkOs_set {as : List Addr} {f f2 : Nat → List D} {k : Nat} (h : k < as.length) (e1 : ∀ j, j ≠ k → f2 j = f j) : (mkOs as f).set k (.fl (as.getD k 0) (f2 k)) = mkOs as f2 := by
  refine List.ext_getElem? fun j => ?_
  by_cases hj : j < as.length
  · rw [mkOs_get hj, List.getElem?_set, mkOs_len]
    by_cases e : k = j
    · subst e; rw [if_pos rfl, if_pos h]
    · rw [if_neg e, mkOs_get hj, e1 j (Ne.symm e)]
  · rw [List.getElem?_eq_none_iff.mpr (by rw [List.length_set, mkOs_len]; omega), List.getElem?_eq_none_iff.mpr (by rw [mkOs_len]; omega)]
theorem mkOs_data (as : List Addr) (f : Nat → List D) : dataL (mkOs as f) = (List.range as.length).map fun k => .lst (f k) := by
  have : ∀ l : List Nat, dataL (l.map fun k => OD.fl (as.getD k 0) (f k)) = l.map fun k => D.lst (f k) := by
    intro l
    induction l with
    | nil => rfl
    | cons k r ih => simp only [List.map_cons, dataL, ih]; rfl
  exact this _
def soRows (ds : List D) (out : Out) : Prop := ∃ l, ds = [.tup (docL l)] ∧ Fo 0 (dps l) ∧ l.length ≤ 100000 ∧ out = .lst (rowsD (dps l) l.length)
abbrev s_rows_of : Stmt := (top 17)
theorem sc_rows_of : FnScope ["document", "rows", "k", "node", "parent", "row"] ["document"] (defScope s_rows_of) := ⟨rfl, rfl, rfl, by decide +kernel, rfl, by decide +kernel, by decide +kernel⟩
theorem bd_rows_of (T : Txt K mg) (C_parents_of : Cal P w K mg base 1 "parents_of" (toSp (gb P w K) (spO K soParents))) : Body P w K mg base (1) ["document", "rows", "k", "node", "parent", "row"] "rows_of" (defScope s_rows_of) (defBody s_rows_of) (toSp (gb P w K) (spO K soRows)) := by
  intro f cdv A outer s H vs Q E hr h
  have hu := hu_of hr
  have tk : Takes (cxOf (L2.CX P w) P w K mg base ["document", "rows", "k", "node", "parent", "row"] "rows_of" (defScope s_rows_of) f cdv A outer s H E) (WF E) := takes_of rfl rfl rfl rfl
  refine ⟨_, (pss_cons (ps_setLcO (i := 1) (own := [("k", 2)]) (g := (gName 2)) (by rfl) sc_rows_of.nd rfl rfl (sw_true rfl rfl rfl (by decide +kernel)) (pi_range1 rfl T.g_range (pa_cons (pe_op op_add (pe_callB call_lenK (by rfl) T.g_len (by decide +kernel) (pa_cons (pv 0) pa_nil)) pe_int) pa_nil)) (blkOk_by (own := [("k", 2)]) (N := ["document", "rows", "k", "node", "parent", "row"]) (sc := defScope s_rows_of) (by decide +kernel)) (fun _ _ _ _ _ => (pg_name (i := 2) sc_rows_of.nd rfl (Or.inl rfl))) (fun _ _ _ _ _ => pts_nil) (fun _ _ _ _ _ => (pe_lst pa_nil)))
    (pss_cons (ps_for (passes_of rfl) rfl (pi_enum (by rfl) T.g_enumerate (pa_cons (pe_cal C_parents_of hr (by omega) tk (pa_cons (pv 0) pa_nil)) pa_nil)) (pg_tup (n := 2) (by rfl) (pgs_cons (pg_name (i := 3) sc_rows_of.nd rfl (Or.inl rfl)) (pgs_cons (pg_name (i := 4) sc_rows_of.nd rfl (Or.inl rfl)) pgs_nil))) (pss_cons (ps_set (i := 5) sc_rows_of.nd rfl (Or.inl rfl) (pe_ix ix_seq (pv 1) (pe_ifExp (pt_cmpR op_isN1 (pv 4) pe_non (nomark _)) (pe_callB call_lenK (by rfl) T.g_len (by decide +kernel) (pa_cons (pv 0) pa_nil)) (pv 4)) (fun _ _ => rfl)))
    (pss_one (ps_expr (pe_bm PySem.F.plainAttrs_list PySem.F.slot_list_append PySem.F.type_list_append mt_append (pv 5) (pa_cons (pv 3) pa_nil))))))
    (pss_one (ps_ret (pv 1))))), ?_⟩
  try dsimp only [cxOf]
  refine d_startO h fun ds out hS c hx hM => ?_
  obtain ⟨l, rfl, hf, hl, rfl⟩ := hS
  refine d_st (δ' := [.fz (.tup (docL l)), .no, .no, .no, .no, .no]) (by rfl) ?_
  have hz : (100000 : Nat) + 1 < sizeLine := by decide
  walk_at "dw"
  refine d_lcN (only_name (by decide)) ?_
  walk_at "dw"
  rw [docL_len]
  refine ⟨_, rfl, by omega, by omega, by omega, ?_⟩
  refine ⟨fun i acc δ => δ = [.fz (.tup (docL l)), .no, .no, .no, .no, .no] ∧ ∃ as : List Addr, as.length = i ∧ acc = mkOs as fun _ => [], ⟨rfl, [], rfl, rfl⟩, ?_, ?_, ?_⟩
  · rintro i acc δ ⟨rfl, _⟩
    exact ⟨trivial, rfl⟩
  · rintro c' i acc δ hi ⟨rfl, as, ha, rfl⟩
    walk_at "dw"
    intro p
    refine ⟨_, rfl, rfl, as ++ [p], ?_, ?_⟩
    · rw [List.length_append, ha]; rfl
    · rw [mkOs_snoc]
  · rintro p acc δ' ⟨rfl, as, ha, rfl⟩
    have ha' : as.length = l.length + 1 := by omega
    walk_at "dw"
    refine d_for ?_
    refine d_iEnum rfl ?_
    walk_at "dw"
    refine d_callL hx ?_
    walk_at "dw"
    refine ⟨_, _, rfl, ⟨l, rfl, hf, hl, rfl⟩, fun a3 => ?_⟩
    walk_at "dw"
    refine ⟨_, _, rfl, rfl, ?_⟩
    refine ⟨fun i δ => ∃ s1 s2 s3 s4, δ = [.fz (.tup (docL l)), .ow (.nl p (mkOs as fun k => intL (kids (dps l) i (rowAt l.length k)))), s1, s2, s3, s4], ⟨_, _, _, _, rfl⟩, fun _ _ _ => trivial, ?_, ?_⟩
    · rintro i δ hi ⟨s1, s2, s3, s4, rfl⟩
      rw [parL_len] at hi
      dsimp only
      rw [parL_get hi]
      have hi' : i < (dps l).length := by rw [fo_len]; exact hi
      obtain ⟨k, hk, hkey, hidx⟩ : ∃ k, k < l.length + 1 ∧ rowAt l.length k = par (dps l) i ∧ ((par (dps l) i = none ∧ k = l.length) ∨ par (dps l) i = some k) := by
        cases e : par (dps l) i with
        | none => exact ⟨l.length, by omega, by rw [rowAt, if_pos rfl], .inl ⟨rfl, rfl⟩⟩
        | some k =>
          have := par_lt hf hi' e
          exact ⟨k, by omega, by rw [rowAt, if_neg (by omega)], .inr rfl⟩
      have hka : k < as.length := by omega
      have key : ∀ j, j < l.length + 1 → j ≠ k → rowAt l.length j ≠ par (dps l) i := fun j hj ne z => by
        rcases hidx with ⟨e, e2⟩ | e
        · rw [e, rowAt] at z
          by_cases q : j = l.length
          · exact ne (by omega)
          · rw [if_neg q] at z; cases z
        · rw [e, rowAt] at z
          by_cases q : j = l.length
          · rw [if_pos q] at z; cases z
          · rw [if_neg q] at z; exact ne (Option.some.inj z)
      have step : (mkOs as fun k => intL (kids (dps l) i (rowAt l.length k))).set k (.fl (as.getD k 0) (intL (kids (dps l) i (rowAt l.length k)) ++ [.int (i : Nat)])) = mkOs as fun k => intL (kids (dps l) (i + 1) (rowAt l.length k)) := by
        have e1 : intL (kids (dps l) i (rowAt l.length k)) ++ [.int (i : Nat)] = intL (kids (dps l) (i + 1) (rowAt l.length k)) := by
          rw [kids_succ, if_pos hkey.symm]
          simp only [intL, List.map_append, List.map_cons, List.map_nil]
        rw [e1]
        refine List.ext_getElem? fun j => ?_
        by_cases hj : j < as.length
        · rw [mkOs_get hj, List.getElem?_set, mkOs_len]
          by_cases e : k = j
          · subst e; rw [if_pos rfl, if_pos hka]
          · rw [if_neg e, mkOs_get hj, kids_succ, if_neg (fun z => key j (by omega) (Ne.symm e) z.symm), List.append_nil]
        · rw [List.getElem?_eq_none_iff.mpr (by rw [List.length_set, mkOs_len]; omega), List.getElem?_eq_none_iff.mpr (by rw [mkOs_len]; omega)]
      have small : (intL (kids (dps l) i (rowAt l.length k))).length < sizeLine := by
        rw [intL, List.length_map, kids_len]
        have := cnt_le (dps l) i (rowAt l.length k)
        omega
      have go : ∀ (PP : PD) (dd : D) (i1 : D), (∀ s1 s2 s3 s4, PP.nx [.fz (.tup (docL l)), .ow (.nl p (mkOs as fun k => intL (kids (dps l) (i + 1) (rowAt l.length k)))), s1, s2, s3, s4]) → i1 = .int (k : Nat) → DO c (rIx K) (.bw 1) (.fz i1) [.fz (.tup (docL l)), .ow (.nl p (mkOs as fun k => intL (kids (dps l) i (rowAt l.length k)))), s1, .fz (.int (i : Nat)), .fz dd, s4]
          (fun x δ1 => DG c (gName 5) x δ1 fun δ => DS c (tDrop (tBM K "list" rAppend (tVar 5) (tCons (tVar 3) tNil))) δ PP) := by
        intro PP dd i1 hPP e2
        subst e2
        refine d_ixN (os := mkOs as fun k => intL (kids (dps l) i (rowAt l.length k))) (o := .fl (as.getD k 0) (intL (kids (dps l) i (rowAt l.length k)))) rfl rfl rfl ?_ rfl ?_
        · unfold atI ixN
          rw [if_pos (by omega), mkOs_len, if_pos (by omega)]
          show (mkOs as _)[((k : Nat) : Int).toNat]? = _
          rw [Int.toNat_natCast, mkOs_get hka]
        walk_at "dw"
        refine d_bmR (i := 1) rfl (mkOs_get hka) ?_
        walk_at "dw"
        refine d_appendN (i := 1) (j := k) rfl rfl rfl (mkOs_get hka) small ?_
        have := hPP s1 (.fz (.int (i : Nat))) (.fz dd) (.rf (as.getD k 0))
        rw [← step] at this
        exact this
      rcases hidx with ⟨e, e2⟩ | e
      · rw [e]
        walk_at "dw"
        rw [docL_len]
        exact go _ .non _ (fun s1 s2 s3 s4 => ⟨s1, s2, s3, s4, rfl⟩) (by rw [e2])
      · rw [e]
        walk_at "dw"
        exact go _ (.int (k : Nat)) _ (fun s1 s2 s3 s4 => ⟨s1, s2, s3, s4, rfl⟩) rfl
    · rintro δ ⟨s1, s2, s3, s4, rfl⟩
      rw [parL_len]
      refine d_retN2 (os := mkOs as fun k => intL (kids (dps l) l.length (rowAt l.length k))) rfl hM (.inl rfl) ?_
      refine ⟨p, ?_⟩
      rw [mkOs_data, ha']
      rfl
end
section
variable {P : Program} {w : World} {K : PySem.W.Frag} {mg : Str → Option Value} {base : Heap}
theorem cd_rows_of (T : Txt K mg) : Cal P w K mg base 2 "rows_of" (toSp (gb P w K) (spO K soRows)) := T.d_rows_of.cal sc_rows_of (len_spO fun ds out ⟨_, h, _⟩ => by rw [h]; rfl) (bd_rows_of T (cd_parents_of T))
noncomputable def tlH (n : Nat) : Nat := Classical.choose (Tl.ex n)
theorem tlH_is (n : Nat) : Tl n (tlH n) := Classical.choose_spec (Tl.ex n)
def soTallest (ds : List D) (out : Out) : Prop := ∃ n : Nat, ds = [.int n] ∧ out = .ret (.int (tlH n : Nat))
theorem cd_tallest_of (T : Txt K mg) : Cal P w K mg base 1 "tallest_of" (toSp (gb P w K) (spO K soTallest)) := (c_tallest_of T).imp fun vs H Q E ⟨F, as, PP, ent, ⟨ds, out, e1, ⟨n, e2, e3⟩, e4⟩, kr, ke⟩ => by
  subst e1; subst e2; subst e3; subst e4
  have hd := old_args ent
  cases hd with
  | cons h1 h2 =>
    cases h2
    cases h1
    refine ⟨n, rfl, fun h H' s ht => ?_⟩
    rw [Tl.inj ht (tlH_is n)]
    exact kr _ [] _ H' F ⟨rfl, rfl⟩ (old_aft ent s (ent.sub.trans s) fun _ _ => rfl) (.int _)
/-! ### reach_of -/
noncomputable def topT (ds : List Nat) (n : Nat) : Nat := 1 + tlH (KM.cnt ds n none)
noncomputable def costs (ds : List Nat) (n i : Nat) : List Nat := suL ds (fun k => tlH (KM.cnt ds n (some k))) (topT ds n) i
noncomputable def reachI (ds : List Nat) (n : Nat) : Int := maxI (topT ds n : Nat) ((costs ds n n).map fun k => (k : Nat))
def soReachOf (ds : List D) (out : Out) : Prop := ∃ l, ds = [.tup (docL l)] ∧ Fo 0 (dps l) ∧ l.length ≤ 100000 ∧ out = .ret (.int (reachI (dps l) l.length))
theorem rowsD_len (ds : List Nat) (n : Nat) : (rowsD ds n).length = n + 1 := by rw [rowsD, List.length_map, List.length_range]
theorem rowsD_get {ds : List Nat} {n k : Nat} (h : k < n + 1) : (rowsD ds n)[k]? = some (.lst (intL (kids ds n (rowAt n k)))) := by
  rw [rowsD, List.getElem?_map, List.getElem?_range h]; rfl
theorem costs_len (ds : List Nat) (n i : Nat) : (costs ds n i).length = i := suL_len _ _ _ _
theorem costs_succ (ds : List Nat) (n i : Nat) : costs ds n (i + 1) = costs ds n i ++ [(match par ds i with | none => topT ds n | some k => (costs ds n i).getD k 0) + 1 + tlH (KM.cnt ds n (some i))] := rfl
abbrev s_reach_of : Stmt := (top 31)
theorem sc_reach_of : FnScope ["document", "rows", "top", "costs", "node", "parent", "above"] ["document"] (defScope s_reach_of) := ⟨rfl, rfl, rfl, by decide +kernel, rfl, by decide +kernel, by decide +kernel⟩
theorem bd_reach_of (T : Txt K mg) (C_rows_of : Cal P w K mg base 2 "rows_of" (toSp (gb P w K) (spO K soRows))) (C_parents_of : Cal P w K mg base 1 "parents_of" (toSp (gb P w K) (spO K soParents)))
    (C_tallest_of : Cal P w K mg base 1 "tallest_of" (toSp (gb P w K) (spO K soTallest))) : Body P w K mg base (2) ["document", "rows", "top", "costs", "node", "parent", "above"] "reach_of" (defScope s_reach_of) (defBody s_reach_of) (toSp (gb P w K) (spO K soReachOf)) := by
  intro f cdv A outer s H vs Q E hr h
  have hu := hu_of hr
  have tk : Takes (cxOf (L2.CX P w) P w K mg base ["document", "rows", "top", "costs", "node", "parent", "above"] "reach_of" (defScope s_reach_of) f cdv A outer s H E) (WF E) := takes_of rfl rfl rfl rfl
  refine ⟨_, (pss_cons (ps_set (i := 1) sc_reach_of.nd rfl (Or.inl rfl) (pe_cal C_rows_of hr (by omega) tk (pa_cons (pv 0) pa_nil)))
    (pss_cons (ps_set (i := 2) sc_reach_of.nd rfl (Or.inl rfl) (pe_op op_add pe_int (pe_cal C_tallest_of hr (by omega) tk (pa_cons (pe_callB call_lenK (by rfl) T.g_len (by decide +kernel) (pa_cons (pe_ix ix_seq (pv 1) (pe_un un_neg pe_int) (fun _ _ => rfl)) pa_nil)) pa_nil))))
    (pss_cons (ps_setO (i := 3) sc_reach_of.nd rfl (Or.inl rfl) (pe_lst pa_nil))
    (pss_cons (ps_for (passes_of rfl) rfl (pi_enum (by rfl) T.g_enumerate (pa_cons (pe_cal C_parents_of hr (by omega) tk (pa_cons (pv 0) pa_nil)) pa_nil)) (pg_tup (n := 2) (by rfl) (pgs_cons (pg_name (i := 4) sc_reach_of.nd rfl (Or.inl rfl)) (pgs_cons (pg_name (i := 5) sc_reach_of.nd rfl (Or.inl rfl)) pgs_nil))) (Evl.pss_cut (ps_set (i := 6) sc_reach_of.nd rfl (Or.inl rfl) (pe_ifExp (pt_cmpR op_isN1 (pv 5) pe_non (nomark _)) (pv 2) (pe_ix ix_seq (pv 3) (pv 5) (fun _ _ => rfl))))
    (pss_one (ps_expr (pe_bm PySem.F.plainAttrs_list PySem.F.slot_list_append PySem.F.type_list_append mt_append (pv 3) (pa_cons (pe_op op_add (pe_op op_add (pv 6) pe_int) (pe_cal C_tallest_of hr (by omega) tk (pa_cons (pe_callB call_lenK (by rfl) T.g_len (by decide +kernel) (pa_cons (pe_ix ix_seq (pv 1) (pv 4) (fun _ _ => rfl)) pa_nil)) pa_nil))) pa_nil))))))
    (pss_one (ps_ret (pe_callBK (cr_maxDef rfl) (by rfl) T.g_max (by decide +kernel) (pa_cons (pv 3) pa_nil) (pk_cons (pv 2) pk_nil)))))))), ?_⟩
  try dsimp only [cxOf]
  refine d_startO h fun ds out hS c hx hM => ?_
  obtain ⟨l, rfl, hf, hl, rfl⟩ := hS
  refine d_st (δ' := [.fz (.tup (docL l)), .no, .no, .no, .no, .no, .no]) (by rfl) ?_
  have hz : (100000 : Nat) + 1 < sizeLine := by decide
  walk_at "dw"
  refine d_callL hx ?_
  walk_at "dw"
  refine ⟨_, _, rfl, ⟨l, rfl, hf, hl, rfl⟩, fun a1 => ?_⟩
  walk_at "dw"
  refine d_callR hx ?_
  walk_at "dw"
  refine d_ix (i := -1) (d := .lst (intL (kids (dps l) l.length none))) rfl rfl ?_ ?_
  · unfold atI ixN
    rw [rowsD_len, if_neg (by decide), if_pos (by omega)]
    show (rowsD (dps l) l.length)[((-1 : Int) + ((l.length + 1 : Nat) : Int)).toNat]? = _
    rw [show ((-1 : Int) + ((l.length + 1 : Nat) : Int)).toNat = l.length by omega, rowsD_get (by omega), rowAt, if_pos rfl]
  walk_at "dw"
  refine ⟨_, _, rfl, ⟨_, rfl, rfl⟩, ?_⟩
  walk_at "dw"
  rw [show (intL (kids (dps l) l.length none)).length = KM.cnt (dps l) l.length none by rw [intL, List.length_map, kids_len]]
  intro a2
  rw [show (1 : Int) + ((tlH (KM.cnt (dps l) l.length none) : Nat) : Int) = ((topT (dps l) l.length : Nat) : Int) by unfold topT; omega]
  walk_at "dw"
  refine d_for ?_
  refine d_iEnum rfl ?_
  walk_at "dw"
  refine d_callL hx ?_
  walk_at "dw"
  refine ⟨_, _, rfl, ⟨l, rfl, hf, hl, rfl⟩, fun a3 => ?_⟩
  walk_at "dw"
  refine ⟨_, _, rfl, rfl, ?_⟩
  refine ⟨fun i δ => ∃ s1 s2 s3, δ = [.fz (.tup (docL l)), .fz (.lst (rowsD (dps l) l.length)), .fz (.int (topT (dps l) l.length : Nat)), .ow (.fl a2 (intL (costs (dps l) l.length i))), s1, s2, s3], ⟨_, _, _, rfl⟩, fun _ _ _ => trivial, ?_, ?_⟩
  · rintro i δ hi ⟨s1, s2, s3, rfl⟩
    rw [parL_len] at hi
    dsimp only
    rw [parL_get hi]
    have hi' : i < (dps l).length := by rw [fo_len]; exact hi
    walk_at "dw"
    refine d_cut (fun δ => ∃ s2, δ = [.fz (.tup (docL l)), .fz (.lst (rowsD (dps l) l.length)), .fz (.int (topT (dps l) l.length : Nat)), .ow (.fl a2 (intL (costs (dps l) l.length i))), .fz (.int (i : Nat)), s2, .fz (.int ((match par (dps l) i with | none => topT (dps l) l.length | some k => (costs (dps l) l.length i).getD k 0 : Nat)))]) ?_ ?_
    · cases e : par (dps l) i with
      | none =>
        walk_at "dw"
        exact ⟨_, rfl⟩
      | some k =>
        have hk := par_lt hf hi' e
        walk_at "dw"
        refine d_ix (i := (k : Nat)) (d := .int ((costs (dps l) l.length i).getD k 0 : Nat)) rfl rfl ?_ ?_
        · have hk2 : k < (costs (dps l) l.length i).length := by rw [costs_len]; exact hk
          unfold atI ixN
          rw [if_pos (by omega), if_pos (by rw [intL, List.length_map]; omega)]
          show (intL (costs (dps l) l.length i))[((k : Nat) : Int).toNat]? = _
          rw [Int.toNat_natCast, intL, List.getElem?_map, getD_at (d := 0) hk2]
          rfl
        walk_at "dw"
        exact ⟨_, rfl⟩
    · rintro δ ⟨s2, rfl⟩
      have es := costs_succ (dps l) l.length i
      generalize (match par (dps l) i with | none => topT (dps l) l.length | some k => (costs (dps l) l.length i).getD k 0) = ab at es
      walk_at "dw"
      refine d_callR hx ?_
      walk_at "dw"
      refine d_ix (i := (i : Nat)) (d := .lst (intL (kids (dps l) l.length (some i)))) rfl rfl ?_ ?_
      · unfold atI ixN
        rw [rowsD_len, if_pos (by omega), if_pos (by omega)]
        show (rowsD (dps l) l.length)[((i : Nat) : Int).toNat]? = _
        rw [Int.toNat_natCast, rowsD_get (by omega), rowAt, if_neg (by omega)]
      walk_at "dw"
      refine ⟨_, _, rfl, ⟨_, rfl, rfl⟩, ?_⟩
      walk_at "dw"
      rw [show (intL (kids (dps l) l.length (some i))).length = KM.cnt (dps l) l.length (some i) by rw [intL, List.length_map, kids_len]]
      refine d_append (i := 3) rfl rfl rfl ?_ ?_
      · rw [intL, List.length_map, costs_len]; omega
      rw [show ((ab : Nat) : Int) + 1 + ((tlH (KM.cnt (dps l) l.length (some i)) : Nat) : Int) = ((ab + 1 + tlH (KM.cnt (dps l) l.length (some i)) : Nat) : Int) by omega]
      refine ⟨.fz (.int (i : Nat)), s2, .fz (.int (ab : Nat)), ?_⟩
      rw [es, intL, intL, List.map_append]
      rfl
  · rintro δ ⟨s1, s2, s3, rfl⟩
    rw [parL_len]
    walk_at "dw"
    refine d_CKw ?_
    walk_at "dw"
    refine d_maxDef (ns := (costs (dps l) l.length l.length).map fun k => (k : Nat)) rfl rfl ?_ rfl ?_
    · rw [intL, List.map_map]; rfl
    rfl
theorem cd_reach_of (T : Txt K mg) : Cal P w K mg base 3 "reach_of" (toSp (gb P w K) (spO K soReachOf)) := T.d_reach_of.cal sc_reach_of (len_spO fun ds out ⟨_, h, _⟩ => by rw [h]; rfl) (bd_reach_of T (cd_rows_of T) (cd_parents_of T) (cd_tallest_of T))
/-! ### reach -/
theorem forest_is {d : D} (h : forest d = true) : ∃ l, d = .tup (docL l) ∧ Fo 0 (dps l) ∧ l.length ≤ 20000 := by
  have key : ∀ (L : List D) (m : Nat), forL (m : Nat) L = true → ∃ l, L = docL l ∧ Fo m (dps l) := by
    intro L
    induction L with
    | nil => intro m _; exact ⟨[], rfl, trivial⟩
    | cons e r ih =>
      intro m h
      unfold forL at h
      split at h
      · rename_i heq; cases heq
      · rename_i x n r' heq
        cases heq
        simp only [Bool.and_eq_true, isBelow, decide_eq_true_eq] at h
        obtain ⟨⟨h1, h2, h3⟩, h4⟩ := h
        obtain ⟨k, rfl⟩ : ∃ k : Nat, n = k := ⟨n.toNat, by omega⟩
        obtain ⟨s, rfl⟩ : ∃ s, x = .str s := by cases x <;> first | exact ⟨_, rfl⟩ | (simp [isMark] at h1)
        obtain ⟨l, e1, e2⟩ := ih (k + 1) h4
        exact ⟨(s, k) :: l, by rw [e1]; rfl, by simp only [List.map_cons, Fo]; exact ⟨by omega, e2⟩⟩
      · cases h
  cases d with
  | tup L =>
    simp only [forest, Bool.and_eq_true, decide_eq_true_eq] at h
    obtain ⟨l, e1, e2⟩ := key L 0 h.2
    subst e1
    exact ⟨l, rfl, e2, by have := h.1; rw [docL_len] at this; omega⟩
  | _ => simp [forest] at h
def soReach (ds : List D) (out : Out) : Prop := ∃ d, ds = [d] ∧ ok d = true ∧ ((forest d = false ∧ out = .exc "BadDocument") ∨ ∃ l, forest d = true ∧ d = .tup (docL l) ∧ out = .ret (.int (reachI (dps l) l.length)))
abbrev s_reach : Stmt := (top 36)
theorem sc_reach : FnScope ["document"] ["document"] (defScope s_reach) := ⟨rfl, rfl, rfl, by decide +kernel, rfl, by decide +kernel, by decide +kernel⟩
theorem bd_reach (T : Txt K mg) (C_need_document : Cal P w K mg base 4 "need_document" (toSp (gb P w K) (spO K soNeedDoc))) (C_reach_of : Cal P w K mg base 3 "reach_of" (toSp (gb P w K) (spO K soReachOf))) : Body P w K mg base (4) ["document"] "reach" (defScope s_reach) (defBody s_reach) (toSp (gb P w K) (spO K soReach)) := by
  intro f cdv A outer s H vs Q E hr h
  have hu := hu_of hr
  have tk : Takes (cxOf (L2.CX P w) P w K mg base ["document"] "reach" (defScope s_reach) f cdv A outer s H E) (WF E) := takes_of rfl rfl rfl rfl
  refine ⟨_, (pss_cons (ps_expr (pe_cal C_need_document hr (by omega) tk (pa_cons (pv 0) pa_nil)))
    (pss_one (ps_ret (pe_cal C_reach_of hr (by omega) tk (pa_cons (pv 0) pa_nil))))), ?_⟩
  try dsimp only [cxOf]
  refine d_startO h fun ds out hS c hx hM => ?_
  obtain ⟨d, rfl, ho, ⟨hd, rfl⟩ | ⟨l, hd, rfl, rfl⟩⟩ := hS
  · refine d_st (δ' := [.fz d]) (by rfl) ?_
    walk_at "dw"
    refine d_callX hx ?_
    walk_at "dw"
    exact ⟨_, _, rfl, ⟨d, rfl, ho, by rw [if_neg (by rw [hd]; decide)]⟩, rfl⟩
  · refine d_st (δ' := [.fz (.tup (docL l))]) (by rfl) ?_
    walk_at "dw"
    refine d_callR hx ?_
    walk_at "dw"
    refine ⟨_, _, rfl, ⟨_, rfl, ho, by rw [if_pos hd]⟩, ?_⟩
    walk_at "dw"
    refine d_callR hx ?_
    walk_at "dw"
    obtain ⟨l', e, hf, hl⟩ := forest_is hd
    have el : l' = l := by
      have inj : ∀ a b : List (Str × Nat), docL a = docL b → a = b := by
        intro a
        induction a with
        | nil => intro b h; cases b with | nil => rfl | cons _ _ => simp [docL] at h
        | cons p r ih =>
          intro b h
          cases b with
          | nil => simp [docL] at h
          | cons q t =>
            simp only [docL, List.map_cons, List.cons.injEq, ent, D.tup.injEq, D.str.injEq, D.int.injEq] at h
            obtain ⟨⟨h1, h2, _⟩, h3⟩ := h
            rw [ih t h3]
            congr 1
            exact Prod.ext h1 (by omega)
      injection e with e
      exact (inj _ _ e).symm
    subst el
    exact ⟨_, _, rfl, ⟨l', rfl, hf, by omega, rfl⟩, rfl⟩
theorem cd_reach (T : Txt K mg) : Cal P w K mg base 5 "reach" (toSp (gb P w K) (spO K soReach)) := T.d_reach.cal sc_reach (len_spO fun ds out ⟨_, h, _⟩ => by rw [h]; rfl) (bd_reach T (cd_need_document T) ((cd_reach_of T).mono (by decide)))
end

end K63

set_option maxHeartbeats 4000000
namespace K63
open PySem PySem.Spec PyProof.Rows L2 KB KM
open KD hiding Dp
section
variable {P : Program} {w : World} {K : PySem.W.Frag} {mg : Str → Option Value} {base : Heap}
/-! ### draws, by data -/
theorem fdD_l {g : Gb} {F : Hp} {n : Nat} {vs : List V} {xs : List D} (h : FdD n xs) (hd : DpL g F vs xs) : FdL n vs := by
  obtain ⟨a, b, c, rfl, h1⟩ := h
  cases hd with | cons p1 t => cases t with | cons p2 t => cases t with | cons p3 t =>
    cases t; cases p1; cases p2; cases p3
    exact ⟨a, b, c, rfl, h1⟩
theorem fdL_d (g : Gb) (F : Hp) {n : Nat} {vs : List V} (h : FdL n vs) : ∃ xs, FdD n xs ∧ DpL g F vs xs := by
  obtain ⟨a, b, c, rfl, h1⟩ := h
  exact ⟨_, ⟨a, b, c, rfl, h1⟩, .cons (.int a) (.cons (.int b) (.cons (.int c) .nil))⟩
def soDraw (ds : List D) (k : Nat) (T : KD.R → Prop) : Prop := ∃ many : Int, ds = [.int many] ∧ 0 < many ∧ many ≤ 10 ^ 70 ∧ k = 1 ∧ T = fun r => ∃ n : Nat, (n : Int) < many ∧ r = .fz (.int n)
theorem cd_draw (T : Txt K mg) : Cal P w K mg base 1 "_law_draw" (toSp (gb P w K) (spFd soDraw)) := (c_draw T).imp fun vs H Q E ⟨F, as, PP, ent, ⟨fd, xs, n, ds, k, TT, e1, hF, hn, ⟨many, e2, h0, h1, e3, e4⟩, e5⟩, kr, ke⟩ => by
  subst e1; subst e2; subst e3; subst e4; subst e5
  have args := ent.args
  cases args with
  | mu ho ht =>
    cases ho with
    | fl hH hd =>
      cases ht with
      | fz hm ht2 =>
        cases ht2
        cases hm
        refine ⟨fd, many, n, _, rfl, hH, fdD_l hF hd, h0, h1, by omega, fun g ys g0 g1 hy => ?_⟩
        obtain ⟨ys', hy', hd'⟩ := fdL_d (gb P w K) F hy
        exact kr (.fz (.int g)) [.fl fd ys'] _ _ F ⟨ys', rfl, hy', g.toNat, by omega, by rw [Int.toNat_of_nonneg g0]⟩ (old_aftF ent hd') (.int g)
def soFeed (ds : List D) (T : KD.R → Prop) : Prop := ∃ (ns : List Int) (k : Nat), ds = [.ro (ns.map D.int), .int k] ∧ (∀ z ∈ ns, ib z ≤ 1048576) ∧ k ≤ 100 ∧ T = fun r => ∃ a ys, r = .nw (.fl a ys) ∧ FdD 0 ys
theorem cd_feed (T : Txt K mg) : Cal P w K mg base 1 "_law_feed" (toSp (gb P w K) (spN soFeed)) := (c_feed T).imp fun vs H Q E ⟨F, as, PP, ent, ⟨ds, TT, e1, ⟨ns, k, e2, hb, hk, e3⟩, e4⟩, kr, ke⟩ => by
  subst e1; subst e2; subst e3; subst e4
  have hd := old_args ent
  cases hd with
  | cons h1 h2 =>
    cases h2 with
    | cons h2 h3 =>
      cases h3
      cases h2
      cases h1 with
      | ro hs hi =>
        rw [dp_ints hi] at hs
        refine ⟨_, ns, k, rfl, ent.sub.seq hs, hb, hk, fun p xs H' hp s e hf => ?_⟩
        obtain ⟨xs', hf', hd'⟩ := fdL_d (gb P w K) F hf
        refine kr (.nw (.fl p xs')) [] _ H' F ⟨rfl, p, xs', rfl, hf'⟩ (old_aft ent s (ent.sub.trans s) fun _ _ => rfl) ⟨.fl e hd', by simp [OD.adrs, adrsL], fun a m => ?_⟩
        simp only [OD.adrs, List.mem_singleton] at m
        subst m
        exact ⟨ent.sub.free hp, hp⟩
/-- one of a list, a tuple -/
def soOne (ds : List D) (k : Nat) (T : KD.R → Prop) : Prop := ∃ d els, ds = [d] ∧ (KD.R.fz d).els [] = some els ∧ els ≠ [] ∧ els.length ≤ 100000 ∧ k = 1 ∧ T = fun r => ∃ x ∈ els, r = .fz x
theorem bd_one (T : Txt K mg) (C__law_draw : Cal P w K mg base 1 "_law_draw" (toSp (gb P w K) (spFd soDraw))) : Body P w K mg base (1) ["feed", "things"] "_law_one" (defScope s__law_one) (defBody s__law_one) (toSp (gb P w K) (spFd soOne)) := by
  intro f cdv A outer s H vs Q E hr h
  have hu := hu_of hr
  have tk : Takes (cxOf (L2.CX P w) P w K mg base ["feed", "things"] "_law_one" (defScope s__law_one) f cdv A outer s H E) (WF E) := takes_of rfl rfl rfl rfl
  refine ⟨_, (pss_one (ps_ret (pe_ix ix_seq (pv 1) (pe_cal C__law_draw hr (by omega) tk (pa_cons (pv 0) (pa_cons (pe_callB call_lenK (by rfl) T.g_len (by decide +kernel) (pa_cons (pv 1) pa_nil)) pa_nil))) (fun _ _ => rfl)))), ?_⟩
  try dsimp only [cxOf]
  refine d_startF h fun fd xs n ds k T hF hn hS c hx hM => ?_
  obtain ⟨d, els, rfl, he, hne, hl, rfl, rfl⟩ := hS
  refine d_st (δ' := [.ow (.fl fd xs), .fz d]) (by rfl) ?_
  have e1 : ∀ δ, (KD.R.fz d).els δ = some els := fun δ => by cases d <;> exact he
  have hpos : 0 < els.length := List.length_pos_iff.mpr hne
  walk_at "dw"
  refine d_callF hx ?_
  walk_at "dw"
  refine d_len (e1 _) ?_
  walk_at "dw"
  refine ⟨0, _, fd, xs, n, _, 1, _, rfl, rfl, rfl, hF, hn, ⟨_, rfl, by omega, by omega, rfl, rfl⟩, ?_⟩
  rintro r ys hy ⟨k, hk, rfl⟩
  have hk' : k < els.length := by omega
  refine d_ix (i := (k : Nat)) (d := els.getD k .non) (e1 _) rfl ?_ ?_
  · unfold atI ixN
    rw [if_pos (by omega), if_pos (by omega)]
    show els[((k : Nat) : Int).toNat]? = _
    rw [Int.toNat_natCast, getD_at (d := .non) hk']
  · refine ⟨rfl, ys, rfl, hy, _, ?_, rfl⟩
    rw [List.getD_eq_getElem?_getD, List.getElem?_eq_getElem hk']
    exact List.getElem_mem hk'
theorem cd_one (T : Txt K mg) : Cal P w K mg base 2 "_law_one" (toSp (gb P w K) (spFd soOne)) := T.d__law_one.cal sc__law_one (len_spFd fun ds k T ⟨_, _, h, _⟩ => by rw [h]; rfl) (bd_one T (cd_draw T))
/-- one sign of a text -/
def soOneS (ds : List D) (k : Nat) (T : KD.R → Prop) : Prop := ∃ z : Str, ds = [.str z] ∧ 0 < z.length ∧ z.length ≤ 100000 ∧ k = 1 ∧ T = fun r => ∃ (i : Nat) (ch : Nat), z.cps.toList[i]? = some ch ∧ r = .fz (.str ⟨#[ch]⟩)
theorem bd_oneS (T : Txt K mg) (C__law_draw : Cal P w K mg base 1 "_law_draw" (toSp (gb P w K) (spFd soDraw))) : Body P w K mg base (1) ["feed", "things"] "_law_one" (defScope s__law_one) (defBody s__law_one) (toSp (gb P w K) (spFd soOneS)) := by
  intro f cdv A outer s H vs Q E hr h
  have hu := hu_of hr
  have tk : Takes (cxOf (L2.CX P w) P w K mg base ["feed", "things"] "_law_one" (defScope s__law_one) f cdv A outer s H E) (WF E) := takes_of rfl rfl rfl rfl
  refine ⟨_, (pss_one (ps_ret (pe_ix ix_str (pv 1) (pe_cal C__law_draw hr (by omega) tk (pa_cons (pv 0) (pa_cons (pe_callB call_lenK (by rfl) T.g_len (by decide +kernel) (pa_cons (pv 1) pa_nil)) pa_nil))) (fun _ _ => rfl)))), ?_⟩
  try dsimp only [cxOf]
  refine d_startF h fun fd xs n ds k T hF hn hS c hx hM => ?_
  obtain ⟨z, rfl, hne, hl, rfl, rfl⟩ := hS
  refine d_st (δ' := [.ow (.fl fd xs), .fz (.str z)]) (by rfl) ?_
  have hs : z.length ≤ sizeLine := by have : (100000 : Nat) ≤ sizeLine := by decide
                                      omega
  walk_at "dw"
  refine d_callF hx ?_
  walk_at "dw"
  refine d_lenS rfl hs ?_
  walk_at "dw"
  refine ⟨0, _, fd, xs, n, _, 1, _, rfl, rfl, rfl, hF, hn, ⟨_, rfl, by omega, by omega, rfl, rfl⟩, ?_⟩
  rintro r ys hy ⟨k, hk, rfl⟩
  have hk' : k < z.cps.toList.length := by
    have : z.cps.toList.length = z.length := by simp [PySem.Str.length]
    omega
  refine d_ixS (i := (k : Nat)) (ch := z.cps.toList.getD k 0) rfl rfl hs ?_ ?_
  · unfold atI ixN
    rw [if_pos (by omega), if_pos (by omega)]
    show z.cps.toList[((k : Nat) : Int).toNat]? = _
    rw [Int.toNat_natCast, getD_at (d := 0) hk']
  · exact ⟨rfl, ys, rfl, hy, k, _, getD_at (d := 0) hk', rfl⟩
theorem cd_oneS (T : Txt K mg) : Cal P w K mg base 2 "_law_one" (toSp (gb P w K) (spFd soOneS)) := T.d__law_one.cal sc__law_one (len_spFd fun ds k T ⟨_, h, _⟩ => by rw [h]; rfl) (bd_oneS T (cd_draw T))
end

end K63

set_option maxHeartbeats 4000000
namespace K63
open PySem PySem.Spec PyProof.Rows L2 KB KM
open KD hiding Dp
section
variable {P : Program} {w : World} {K : PySem.W.Frag} {mg : Str → Option Value} {base : Heap}
/-! ### drawn documents -/
def lastI (ds : List Nat) : Int := match ds.getLast? with
  | none => -1
  | some d => d
theorem lastI_nil : lastI [] = -1 := rfl
theorem lastI_snoc (ds : List Nat) (d : Nat) : lastI (ds ++ [d]) = d := by simp [lastI]
theorem lastI_ge (ds : List Nat) : -1 ≤ lastI ds := by unfold lastI; split <;> omega
theorem lastI_pos {ds : List Nat} (h : ds ≠ []) : 0 ≤ lastI ds := by
  unfold lastI
  cases e : ds.getLast? with
  | none => exact absurd (List.getLast?_eq_none_iff.mp e) h
  | some d => exact Int.natCast_nonneg d
theorem lastI_cons {x : Nat} {r : List Nat} (h : r ≠ []) : lastI (x :: r) = lastI r := by
  unfold lastI
  cases r with
  | nil => exact absurd rfl h
  | cons y t => rw [List.getLast?_cons_cons]
theorem fo_snoc : ∀ {m : Nat} {ds : List Nat} {d : Nat}, Fo m ds → ((ds = [] ∧ d ≤ m) ∨ (ds ≠ [] ∧ (d : Int) ≤ lastI ds + 1)) → Fo m (ds ++ [d])
  | m, [], d, _, h => by
    rcases h with ⟨_, h⟩ | ⟨h, _⟩
    · exact ⟨h, trivial⟩
    · exact absurd rfl h
  | m, x :: r, d, ⟨h1, h2⟩, h => by
    refine ⟨h1, fo_snoc (m := x + 1) h2 ?_⟩
    rcases h with ⟨h, _⟩ | ⟨_, h⟩
    · cases h
    · by_cases e : r = []
      · subst e
        left
        refine ⟨rfl, ?_⟩
        have : lastI [x] = x := rfl
        omega
      · right
        exact ⟨e, by rw [lastI_cons e] at h; exact h⟩
theorem fo_more {ds : List Nat} {d : Nat} (h : Fo 0 ds) (l : (d : Int) ≤ lastI ds + 1) : Fo 0 (ds ++ [d]) := by
  refine fo_snoc h ?_
  by_cases e : ds = []
  · subst e
    rw [lastI_nil] at l
    exact .inl ⟨rfl, by omega⟩
  · exact .inr ⟨e, l⟩
theorem lastI_up : ∀ {m : Nat} {ds : List Nat}, Fo m ds → lastI ds ≤ (m : Int) + ds.length - 1
  | m, [], _ => by rw [lastI_nil]; simp; omega
  | m, x :: r, ⟨h1, h2⟩ => by
    by_cases e : r = []
    · subst e
      have : lastI [x] = x := rfl
      rw [this]; simp; omega
    · rw [lastI_cons e]
      have := lastI_up h2
      rw [List.length_cons]
      omega
structure GoodDoc (l : List (Str × Nat)) (n : Nat) : Prop where
  fo : Fo 0 (dps l)
  len : l.length ≤ n
  mks : ∀ p ∈ l, isMark (.str p.1) = true
theorem GoodDoc.mono {l : List (Str × Nat)} {n m : Nat} (h : GoodDoc l n) (k : n ≤ m) : GoodDoc l m := ⟨h.fo, Nat.le_trans h.len k, h.mks⟩
theorem GoodDoc.nil (n : Nat) : GoodDoc [] n := ⟨trivial, Nat.zero_le _, fun p m => nomatch m⟩
theorem GoodDoc.more {l : List (Str × Nat)} {n : Nat} (h : GoodDoc l n) (m : Str) (d : Nat) (hm : isMark (.str m) = true) (hd : (d : Int) ≤ lastI (dps l) + 1) : GoodDoc (l ++ [(m, d)]) (n + 1) := by
  refine ⟨?_, by rw [List.length_append, List.length_singleton]; exact Nat.succ_le_succ h.len, fun p hp => ?_⟩
  · show Fo 0 ((l ++ [(m, d)]).map (·.2))
    rw [List.map_append]
    exact fo_more h.fo hd
  · rcases List.mem_append.mp hp with z | z
    · exact h.mks p z
    · rw [List.mem_singleton.mp z]; exact hm
theorem docL_app (a b : List (Str × Nat)) : docL (a ++ b) = docL a ++ docL b := List.map_append ..
theorem mark_small {s : Str} (h : isMark (.str s) = true) : s.length = 1 := by
  simp only [isMark, Bool.and_eq_true, decide_eq_true_eq] at h
  omega
theorem good_ok {l : List (Str × Nat)} {n : Nat} (h : GoodDoc l n) : ok (.tup (docL l)) = true := by
  simp only [ok]
  have hm := h.mks
  clear h
  induction l with
  | nil => rfl
  | cons p r ih =>
    simp only [docL, List.map_cons, okL, Bool.and_eq_true, ent, ok, and_true]
    refine ⟨?_, ih fun q hq => hm q (List.mem_cons_of_mem _ hq)⟩
    rw [mark_small (hm p List.mem_cons_self)]
    decide
theorem good_forest {l : List (Str × Nat)} {n : Nat} (h : GoodDoc l n) (hn : n ≤ 20000) : forest (.tup (docL l)) = true := by
  have key : ∀ (l : List (Str × Nat)) (m : Nat), Fo m (dps l) → (∀ p ∈ l, isMark (.str p.1) = true) → forL (m : Nat) (docL l) = true := by
    intro l
    induction l with
    | nil => intro m _ _; rfl
    | cons p r ih =>
      intro m hf hm
      simp only [List.map_cons, Fo] at hf
      simp only [docL, List.map_cons, ent, forL, Bool.and_eq_true, isBelow, decide_eq_true_eq]
      exact ⟨⟨hm p List.mem_cons_self, by omega, by omega⟩, ih (p.2 + 1) hf.2 fun q hq => hm q (List.mem_cons_of_mem _ hq)⟩
  simp only [forest, Bool.and_eq_true, decide_eq_true_eq]
  exact ⟨by rw [docL_len]; have := h.len; omega, key l 0 h.fo h.mks⟩
/-- a text of marks -/
def MksOk (z : Str) : Prop := 0 < z.length ∧ z.length ≤ 100 ∧ ∀ (i ch : Nat), z.cps.toList[i]? = some ch → isMark (.str ⟨#[ch]⟩) = true
theorem mks_of {z : Str} (h : (decide (0 < z.length) && decide (z.length ≤ 100) && z.cps.toList.all fun ch => isMark (.str ⟨#[ch]⟩)) = true) : MksOk z := by
  simp only [Bool.and_eq_true, decide_eq_true_eq, List.all_eq_true] at h
  exact ⟨h.1.1, h.1.2, fun i ch e => h.2 ch (List.mem_of_getElem? e)⟩
def soDocument (ds : List D) (k : Nat) (T : KD.R → Prop) : Prop := ∃ most : Nat, ds = [.int most] ∧ most ≤ 1000 ∧ k = 3 + 3 * most ∧ T = fun r => ∃ l, r = .fz (.tup (docL l)) ∧ GoodDoc l most
abbrev s__law_document : Stmt := (top 54)
theorem sc__law_document : FnScope ["feed", "most", "marks", "many", "way", "got", "depth", "turn", "steps"] ["feed", "most"] (defScope s__law_document) := ⟨rfl, rfl, rfl, by decide +kernel, rfl, by decide +kernel, by decide +kernel⟩
theorem bd_law_document (T : Txt K mg) (C__law_draw : Cal P w K mg base 1 "_law_draw" (toSp (gb P w K) (spFd soDraw))) (C__law_one : Cal P w K mg base 2 "_law_one" (toSp (gb P w K) (spFd soOne))) (C__law_oneS : Cal P w K mg base 2 "_law_one" (toSp (gb P w K) (spFd soOneS))) :
    Body P w K mg base (2) ["feed", "most", "marks", "many", "way", "got", "depth", "turn", "steps"] "_law_document" (defScope s__law_document) (defBody s__law_document) (toSp (gb P w K) (spFd soDocument)) := by
  intro f cdv A outer s H vs Q E hr h
  have hu := hu_of hr
  have tk : Takes (cxOf (L2.CX P w) P w K mg base ["feed", "most", "marks", "many", "way", "got", "depth", "turn", "steps"] "_law_document" (defScope s__law_document) f cdv A outer s H E) (WF E) := takes_of rfl rfl rfl rfl
  refine ⟨_, (pss_cons (ps_par3 (i := 2) (j := 3) (l := 4) (by rfl) sc__law_document.nd rfl rfl rfl (by decide) (by decide) (by decide) rfl rfl rfl (pa_cons (pe_cal C__law_one hr (by omega) tk (pa_cons (pv 0) (pa_cons (pe_lst (pa_cons pe_str (pa_cons pe_str (pa_cons pe_str (pa_cons pe_str (pa_cons pe_str pa_nil)))))) pa_nil))) (pa_cons (pe_cal C__law_draw hr (by omega) tk (pa_cons (pv 0) (pa_cons (pe_op op_add (pv 1) pe_int) pa_nil))) (pa_cons (pe_cal C__law_draw hr (by omega) tk (pa_cons (pv 0) (pa_cons pe_int pa_nil))) pa_nil))) (by rfl))
    (pss_cons (ps_x (ps_par (i := 5) (j := 6) (by rfl) sc__law_document.nd rfl rfl (by decide) rfl rfl (pa_cons (pe_lst pa_nil) (pa_cons (pe_un un_neg pe_int) pa_nil)) (by rfl)))
    (pss_cons (ps_for (passes_of rfl) rfl (pi_range1 rfl T.g_range (pa_cons (pv 3) pa_nil)) (pg_name (i := 7) sc__law_document.nd rfl (Or.inl rfl)) (Evl.pss_cut (ps_if (pt_cmpR op_eq (pv 4) pe_int (nomark _)) (pss_one (ps_set (i := 6) sc__law_document.nd rfl (Or.inl rfl) (pe_ifExp (pt_cmpR op_eq (pv 7) pe_int (nomark _)) pe_int pe_int))) (pss_one (ps_if (pt_cmpR op_eq (pv 4) pe_int (nomark _)) (pss_one (ps_set (i := 6) sc__law_document.nd rfl (Or.inl rfl) (pe_ifExp (pt_cmpR op_gt (pe_cal C__law_draw hr (by omega) tk (pa_cons (pv 0) (pa_cons pe_int pa_nil))) pe_int (nomark _)) (pe_op op_add (pv 6) pe_int) (pe_cal C__law_draw hr (by omega) tk (pa_cons (pv 0) (pa_cons (pe_op op_add (pv 6) pe_int) pa_nil)))))) (pss_cons (ps_set (i := 8) sc__law_document.nd rfl (Or.inl rfl) (pe_lst (pa_cons (pe_op op_add (pv 6) pe_int) (pa_cons (pe_op op_add (pv 6) pe_int) (pa_cons (pv 6) (pa_cons (pv 6) (pa_cons (pe_op op_sub (pv 6) pe_int) (pa_cons pe_int (pa_cons (pe_cal C__law_draw hr (by omega) tk (pa_cons (pv 0) (pa_cons (pe_op op_add (pv 6) pe_int) pa_nil))) pa_nil)))))))))
    (pss_one (ps_set (i := 6) sc__law_document.nd rfl (Or.inl rfl) (pe_callB (call_max2K rfl) (by rfl) T.g_max (by decide +kernel) (pa_cons pe_int (pa_cons (pe_callB (call_min2K rfl) (by rfl) T.g_min (by decide +kernel) (pa_cons (pe_op op_add (pv 6) pe_int) (pa_cons (pe_cal C__law_one hr (by omega) tk (pa_cons (pv 0) (pa_cons (pv 8) pa_nil))) pa_nil))) pa_nil)))))))))
    (pss_one (ps_expr (pe_bm PySem.F.plainAttrs_list PySem.F.slot_list_append PySem.F.type_list_append mt_append (pv 5) (pa_cons (pe_tup (pa_cons (pe_cal C__law_oneS hr (by omega) tk (pa_cons (pv 0) (pa_cons (pv 2) pa_nil))) (pa_cons (pv 6) pa_nil))) pa_nil))))))
    (pss_one (ps_ret (pe_callTy call_tupD (by rfl) T.g_tuple (by decide +kernel) (pa_cons (pv 5) pa_nil))))))), ?_⟩
  try dsimp only [cxOf]
  refine d_startF h fun fd xs n ds k T hF hn hS c hx hM => ?_
  obtain ⟨most, rfl, hm, rfl, rfl⟩ := hS
  refine d_st (δ' := [.ow (.fl fd xs), .fz (.int most), .no, .no, .no, .no, .no, .no, .no]) (by rfl) ?_
  walk_at "dw"
  refine d_callF hx ?_
  walk_at "dw"
  intro p
  walk_at "dw"
  refine ⟨0, _, fd, xs, n, _, 1, _, rfl, rfl, rfl, hF, by omega, ⟨_, _, rfl, rfl, by simp, by simp, rfl, rfl⟩, ?_⟩
  rintro r ys1 hF1 ⟨mk, hmk, rfl⟩
  obtain ⟨z, rfl, hz⟩ : ∃ z, mk = .str z ∧ MksOk z := by
    simp only [List.mem_cons, List.not_mem_nil, or_false] at hmk
    rcases hmk with rfl | rfl | rfl | rfl | rfl
    · exact ⟨_, rfl, mks_of (by decide +kernel)⟩
    · exact ⟨_, rfl, mks_of (by decide +kernel)⟩
    · exact ⟨_, rfl, mks_of (by decide +kernel)⟩
    · exact ⟨_, rfl, mks_of (by decide +kernel)⟩
    · exact ⟨_, rfl, mks_of (by decide +kernel)⟩
  walk_at "dw"
  refine d_callF hx ?_
  walk_at "dw"
  refine ⟨0, _, fd, ys1, n + 1, _, 1, _, rfl, rfl, rfl, hF1, by omega, ⟨_, rfl, by omega, by omega, rfl, rfl⟩, ?_⟩
  rintro r ys2 hF2 ⟨many, hmany, rfl⟩
  walk_at "dw"
  refine d_callF hx ?_
  walk_at "dw"
  refine ⟨0, _, fd, ys2, n + 2, _, 1, _, rfl, rfl, rfl, hF2, by omega, ⟨_, rfl, by decide, by decide, rfl, rfl⟩, ?_⟩
  rintro r ys3 hF3 ⟨way, hway, rfl⟩
  walk_at "dw"
  intro a1
  walk_at "dw"
  intro c1 up1
  walk_at "dw"
  refine ⟨_, _, _, _, rfl, .ow, .fz, ?_⟩
  walk_at "dw"
  refine d_for ?_
  walk_at "dw"
  refine ⟨_, rfl, by omega, by omega, ?_⟩
  refine ⟨fun i δ => ∃ l ys s1 s2, δ = [.ow (.fl fd ys), .fz (.int most), .fz (.str z), .fz (.int many), .fz (.int way), .ow (.fl a1 (docL l)), .fz (.int (lastI (dps l))), s1, s2] ∧ FdD (n + 3 + 3 * i) ys ∧ GoodDoc l i ∧ l.length = i,
    ⟨[], ys3, .no, .no, rfl, hF3, GoodDoc.nil 0, rfl⟩, fun _ _ _ => trivial, ?_, ?_⟩
  · rintro i δ hi ⟨l, ys, s1, s2, rfl, hF, hg, hl⟩
    have hlg := lastI_ge (dps l)
    have hlu : lastI (dps l) < 2000 := by
      have h1 := lastI_up hg.fo
      rw [fo_len] at h1
      omega
    have hi1 : i < 1000 := by omega
    dsimp only
    rw [Int.zero_add]
    walk_at "dw"
    refine d_cut (fun δ => ∃ (dep : Nat) (ys2 : List D) (s2 : Sl), δ = [.ow (.fl fd ys2), .fz (.int most), .fz (.str z), .fz (.int many), .fz (.int way), .ow (.fl a1 (docL l)), .fz (.int dep), .fz (.int i), s2] ∧ FdD (n + 3 + 3 * i + 2) ys2 ∧ (dep : Int) ≤ lastI (dps l) + 1) ?_ ?_
    · walk_at "dw"
      refine i_dec (fun e1 => ?_) (fun e1 => ?_)
      · walk_at "dw"
        refine i_dec (fun e2 => ?_) (fun e2 => ?_)
        · walk_at "dw"
          exact ⟨0, ys, s2, rfl, hF.mono (by omega), by omega⟩
        · walk_at "dw"
          have : 0 ≤ lastI (dps l) := lastI_pos (by intro q; have := congrArg List.length q; rw [fo_len, List.length_nil] at this; omega)
          exact ⟨1, ys, s2, rfl, hF.mono (by omega), by omega⟩
      · walk_at "dw"
        refine i_dec (fun e2 => ?_) (fun e2 => ?_)
        · walk_at "dw"
          refine d_callF hx ?_
          walk_at "dw"
          refine ⟨0, _, fd, ys, _, _, 1, _, rfl, rfl, rfl, hF, by omega, ⟨_, rfl, by decide, by decide, rfl, rfl⟩, ?_⟩
          rintro r ys4 hF4 ⟨k9, hk9, rfl⟩
          walk_at "dw"
          refine i_dec (fun e3 => ?_) (fun e3 => ?_)
          · walk_at "dw"
            exact ⟨(lastI (dps l) + 1).toNat, ys4, s2, by rw [Int.toNat_of_nonneg (by omega)]; rfl, hF4.mono (by omega), by omega⟩
          · walk_at "dw"
            refine d_callF hx ?_
            walk_at "dw"
            refine ⟨0, _, fd, ys4, _, _, 1, _, rfl, rfl, rfl, hF4, by omega, ⟨_, rfl, by omega, by omega, rfl, rfl⟩, ?_⟩
            rintro r ys5 hF5 ⟨k5, hk5, rfl⟩
            walk_at "dw"
            exact ⟨k5, ys5, s2, rfl, hF5, by omega⟩
        · walk_at "dw"
          refine d_callF hx ?_
          walk_at "dw"
          refine ⟨0, _, fd, ys, _, _, 1, _, rfl, rfl, rfl, hF, by omega, ⟨_, rfl, by omega, by omega, rfl, rfl⟩, ?_⟩
          rintro r ys4 hF4 ⟨k4, hk4, rfl⟩
          walk_at "dw"
          intro p5
          walk_at "dw"
          refine d_callF hx ?_
          walk_at "dw"
          refine ⟨0, _, fd, ys4, _, _, 1, _, rfl, rfl, rfl, hF4, by omega, ⟨_, _, rfl, rfl, by simp, by simp, rfl, rfl⟩, ?_⟩
          rintro r ys5 hF5 ⟨x5, hx5, rfl⟩
          obtain ⟨i5, rfl⟩ : ∃ i5 : Int, x5 = .int i5 := by
            simp only [List.mem_cons, List.not_mem_nil, or_false] at hx5
            rcases hx5 with rfl | rfl | rfl | rfl | rfl | rfl | rfl <;> exact ⟨_, rfl⟩
          walk_at "dw"
          exact ⟨(max 0 (min (lastI (dps l) + 1) i5)).toNat, ys5, _, by rw [Int.toNat_of_nonneg (by omega)]; rfl, hF5, by rw [Int.toNat_of_nonneg (by omega)]; omega⟩
    · rintro δ ⟨dep, ys2, s2, rfl, hF2, hdep⟩
      walk_at "dw"
      refine d_callF hx ?_
      walk_at "dw"
      refine ⟨0, _, fd, ys2, _, _, 1, _, rfl, rfl, rfl, hF2, by omega, ⟨z, rfl, hz.1, by have := hz.2.1; omega, rfl, rfl⟩, ?_⟩
      rintro r ys6 hF6 ⟨j6, ch, hch, rfl⟩
      walk_at "dw"
      refine d_append (i := 5) rfl rfl rfl ?_ ?_
      · rw [docL_len]; have : (100000 : Nat) < sizeLine := by decide
        omega
      refine ⟨l ++ [(⟨#[ch]⟩, dep)], ys6, .fz (.int i), s2, ?_, hF6.mono (by omega), hg.more _ dep (hz.2.2 j6 ch hch) hdep, by rw [List.length_append, hl]; rfl⟩
      rw [docL_app]
      show _ = [_, _, _, _, _, _, Sl.fz (.int (lastI ((l ++ [((⟨#[ch]⟩ : Str), dep)]).map (·.2)))), _, _]
      rw [List.map_append, List.map_singleton, lastI_snoc]
      rfl
  · rintro δ ⟨l, ys, s1, s2, rfl, hF, hg, hl⟩
    walk_at "dw"
    refine ⟨rfl, ys, rfl, hF.mono (by omega), l, rfl, hg.mono (by omega)⟩
theorem cd_law_document (T : Txt K mg) : Cal P w K mg base 3 "_law_document" (toSp (gb P w K) (spFd soDocument)) := T.d__law_document.cal sc__law_document (len_spFd fun ds k T ⟨_, h, _⟩ => by rw [h]; rfl) (bd_law_document T (cd_draw T) (cd_one T) (cd_oneS T))
end

end K63

set_option maxHeartbeats 4000000
namespace K63
open PySem PySem.Spec PyProof.Rows L2 KB KM
open KD hiding Dp
section
variable {P : Program} {w : World} {K : PySem.W.Frag} {mg : Str → Option Value} {base : Heap}
def soLeast (ds : List D) (out : Out) : Prop := ∃ n : Nat, ds = [.int n] ∧ n < 2 ^ 60 ∧ out = .ret (.int (L n : Nat))
theorem cd_least (T : Txt K mg) : Cal P w K mg base 1 "_law_least" (toSp (gb P w K) (spO K soLeast)) := (c_least T).imp fun vs H Q E ⟨F, as, PP, ent, ⟨ds, out, e1, ⟨n, e2, hn, e3⟩, e4⟩, kr, ke⟩ => by
  subst e1; subst e2; subst e3; subst e4
  have hd := old_args ent
  cases hd with
  | cons h1 h2 =>
    cases h2
    cases h1
    exact ⟨n, rfl, hn, fun H' s => kr _ [] _ H' F ⟨rfl, rfl⟩ (old_aft ent s (ent.sub.trans s) fun _ _ => rfl) (.int _)⟩
def soLTallest (ds : List D) (out : Out) : Prop := ∃ n : Nat, ds = [.int n] ∧ n ≤ 100000 ∧ out = .ret (.int (tlH n : Nat))
theorem cd_ltallest (T : Txt K mg) : Cal P w K mg base 2 "_law_tallest" (toSp (gb P w K) (spO K soLTallest)) := (c_ltallest T).imp fun vs H Q E ⟨F, as, PP, ent, ⟨ds, out, e1, ⟨n, e2, hn, e3⟩, e4⟩, kr, ke⟩ => by
  subst e1; subst e2; subst e3; subst e4
  have hd := old_args ent
  cases hd with
  | cons h1 h2 =>
    cases h2
    cases h1
    refine ⟨n, rfl, hn, fun h H' s ht => ?_⟩
    rw [Tl.inj ht (tlH_is n)]
    exact kr _ [] _ H' F ⟨rfl, rfl⟩ (old_aft ent s (ent.sub.trans s) fun _ _ => rfl) (.int _)
/-- a row of nodes more -/
def rowOf (s : Str) (f : Nat → Nat) (m : Nat) : List (Str × Nat) := (List.range m).map fun k => (s, f k)
theorem rowOf_succ (s : Str) (f : Nat → Nat) (m : Nat) : rowOf s f (m + 1) = rowOf s f m ++ [(s, f m)] := by
  unfold rowOf; rw [List.range_succ, List.map_append]; rfl
theorem good_ext {l : List (Str × Nat)} {n : Nat} (h : GoodDoc l n) (s : Str) (hs : isMark (.str s) = true) (f : Nat → Nat) (h0 : (f 0 : Int) ≤ lastI (dps l) + 1) : ∀ m, (∀ k, k + 1 < m → f (k + 1) ≤ f k + 1) →
    GoodDoc (l ++ rowOf s f m) (n + m) ∧ (lastI (dps (l ++ rowOf s f m)) = if m = 0 then lastI (dps l) else (f (m - 1) : Int))
  | 0, _ => by
    rw [show rowOf s f 0 = [] from rfl, List.append_nil]
    exact ⟨h, rfl⟩
  | m + 1, hstep => by
    obtain ⟨a, b⟩ := good_ext h s hs f h0 m fun k hk => hstep k (by omega)
    rw [rowOf_succ, ← List.append_assoc]
    refine ⟨a.more s (f m) hs ?_, ?_⟩
    · rw [b]
      cases m with
      | zero => exact h0
      | succ m => rw [if_neg (by omega)]; have := hstep m (by omega); show ((f (m + 1) : Nat) : Int) ≤ ((f m : Nat) : Int) + 1; omega
    · rw [if_neg (by omega)]
      show lastI ((l ++ rowOf s f m ++ [(s, f m)]).map (·.2)) = _
      rw [List.map_append, List.map_singleton, lastI_snoc]
      rfl
theorem docL_row (s : Str) (f : Nat → Nat) (m : Nat) : ((List.range m).map fun k => ent (s, f k)) = docL (rowOf s f m) := by unfold docL rowOf; rw [List.map_map]; rfl
theorem mkA : isMark (.str "a") = true := by decide +kernel
theorem mkB : isMark (.str "b") = true := by decide +kernel
theorem mkC : isMark (.str "c") = true := by decide +kernel
theorem mkD : isMark (.str "d") = true := by decide +kernel
def soWide (ds : List D) (k : Nat) (T : KD.R → Prop) : Prop := ∃ most : Nat, ds = [.int most] ∧ 0 < most ∧ most ≤ 17 ∧ k = 6 ∧ T = fun r => ∃ l, r = .fz (.tup (docL l)) ∧ GoodDoc l 20000
abbrev s__law_wide : Stmt := (top 55)
theorem sc__law_wide : FnScope ["feed", "most", "long", "width", "at", "child", "below", "got", "depth", "turn"] ["feed", "most"] (defScope s__law_wide) := ⟨rfl, rfl, rfl, by decide +kernel, rfl, by decide +kernel, by decide +kernel⟩
theorem bd_law_wide (T : Txt K mg) (C__law_draw : Cal P w K mg base 1 "_law_draw" (toSp (gb P w K) (spFd soDraw))) (C__law_least : Cal P w K mg base 1 "_law_least" (toSp (gb P w K) (spO K soLeast))) : Body P w K mg base (1) ["feed", "most", "long", "width", "at", "child", "below", "got", "depth", "turn"] "_law_wide" (defScope s__law_wide) (defBody s__law_wide) (toSp (gb P w K) (spFd soWide)) := by
  intro f cdv A outer s H vs Q E hr h
  have hu := hu_of hr
  have tk : Takes (cxOf (L2.CX P w) P w K mg base ["feed", "most", "long", "width", "at", "child", "below", "got", "depth", "turn"] "_law_wide" (defScope s__law_wide) f cdv A outer s H E) (WF E) := takes_of rfl rfl rfl rfl
  refine ⟨_, (pss_cons (ps_par (i := 2) (j := 3) (by rfl) sc__law_wide.nd rfl rfl (by decide) rfl rfl (pa_cons (pe_cal C__law_draw hr (by omega) tk (pa_cons (pv 0) (pa_cons pe_int pa_nil))) (pa_cons (pe_callB (call_max2K rfl) (by rfl) T.g_max (by decide +kernel) (pa_cons pe_int (pa_cons (pe_op op_sub (pe_op op_add (pe_cal C__law_least hr (by omega) tk (pa_cons (pe_cal C__law_draw hr (by omega) tk (pa_cons (pv 0) (pa_cons (pv 1) pa_nil))) pa_nil)) (pe_cal C__law_draw hr (by omega) tk (pa_cons (pv 0) (pa_cons pe_int pa_nil)))) pe_int) pa_nil))) pa_nil)) (by rfl))
    (pss_cons (ps_y3 (ps_asg (pe_tup (pa_cons (pe_cal C__law_draw hr (by omega) tk (pa_cons (pv 0) (pa_cons (pe_op op_add (pv 2) pe_int) pa_nil))) (pa_cons (pe_cal C__law_draw hr (by omega) tk (pa_cons (pv 0) (pa_cons (pv 3) pa_nil))) (pa_cons (pe_cal C__law_draw hr (by omega) tk (pa_cons (pv 0) (pa_cons pe_int pa_nil))) pa_nil)))) (pg_tup (n := 3) (by rfl) (pgs_cons (pg_name (i := 4) sc__law_wide.nd rfl (Or.inr rfl)) (pgs_cons (pg_name (i := 5) sc__law_wide.nd rfl (Or.inl rfl)) (pgs_cons (pg_name (i := 6) sc__law_wide.nd rfl (Or.inl rfl)) pgs_nil))))))
    (pss_cons (ps_setLcO (i := 7) (own := [("depth", 8)]) (g := (gName 8)) (by rfl) sc__law_wide.nd rfl rfl (sw_true rfl rfl rfl (by decide +kernel)) (pi_range1 rfl T.g_range (pa_cons (pv 4) pa_nil)) (blkOk_by (own := [("depth", 8)]) (N := ["feed", "most", "long", "width", "at", "child", "below", "got", "depth", "turn"]) (sc := defScope s__law_wide) (by decide +kernel)) (fun _ _ _ _ _ => (pg_name (i := 8) sc__law_wide.nd rfl (Or.inl rfl))) (fun _ _ _ _ _ => pts_nil) (fun _ _ _ _ _ => (pe_tup (pa_cons pe_str (pa_cons (pv 8) pa_nil)))))
    (pss_cons (ps_for (passes_of rfl) rfl (pi_range1 rfl T.g_range (pa_cons (pv 3) pa_nil)) (pg_name (i := 9) sc__law_wide.nd rfl (Or.inl rfl)) (pss_cons (ps_expr (pe_bm PySem.F.plainAttrs_list PySem.F.slot_list_append PySem.F.type_list_append mt_append (pv 7) (pa_cons (pe_tup (pa_cons pe_str (pa_cons (pv 4) pa_nil))) pa_nil)))
    (pss_one (ps_if (pt_cmpR op_eq (pv 9) (pv 5) (nomark _)) (pss_one (ps_expr (pe_bm PySem.F.plainAttrs_list PySem.F.slot_list_extend PySem.F.type_list_extend mt_extend (pv 7) (pa_cons (pe_lc (own := [("depth", 8)]) (g := (gName 8)) (by rfl) sc__law_wide.nd  (pi_range1 rfl T.g_range (pa_cons (pv 6) pa_nil)) (blkOk_by (own := [("depth", 8)]) (N := ["feed", "most", "long", "width", "at", "child", "below", "got", "depth", "turn"]) (sc := defScope s__law_wide) (by decide +kernel)) (fun _ _ _ _ _ => (pg_name (i := 8) sc__law_wide.nd rfl (Or.inl rfl))) (fun _ _ _ _ _ => pts_nil) (fun _ _ _ _ _ => (pe_tup (pa_cons pe_str (pa_cons (pe_op op_add (pe_op op_add (pv 4) pe_int) (pv 8)) pa_nil))))) pa_nil)))) pss_nil))))
    (pss_one (ps_ret (pe_op op_catA (pe_callTy call_tupD (by rfl) T.g_tuple (by decide +kernel) (pa_cons (pv 7) pa_nil)) (pe_callTy call_tupD (by rfl) T.g_tuple (by decide +kernel) (pa_cons (pe_lc (own := [("depth", 8)]) (g := (gName 8)) (by rfl) sc__law_wide.nd  (pi_range1 rfl T.g_range (pa_cons (pe_op op_sub (pv 2) (pv 4)) pa_nil)) (blkOk_by (own := [("depth", 8)]) (N := ["feed", "most", "long", "width", "at", "child", "below", "got", "depth", "turn"]) (sc := defScope s__law_wide) (by decide +kernel)) (fun _ _ _ _ _ => (pg_name (i := 8) sc__law_wide.nd rfl (Or.inl rfl))) (fun _ _ _ _ _ => pts_nil) (fun _ _ _ _ _ => (pe_tup (pa_cons pe_str (pa_cons (pe_op op_add (pe_op op_add (pv 4) pe_int) (pv 8)) pa_nil))))) pa_nil))))))))), ?_⟩
  try dsimp only [cxOf]
  refine d_startF h fun fd xs n ds k T hF hn hS c hx hM => ?_
  obtain ⟨most, rfl, hm0, hm, rfl, rfl⟩ := hS
  have hz : (100000 : Nat) < sizeLine := by decide
  refine d_st (δ' := [.ow (.fl fd xs), .fz (.int most), .no, .no, .no, .no, .no, .no, .no, .no]) (by rfl) ?_
  walk_at "dw"
  refine d_callF hx ?_
  walk_at "dw"
  refine ⟨0, _, fd, xs, n, _, 1, _, rfl, rfl, rfl, hF, by omega, ⟨_, rfl, by decide, by decide, rfl, rfl⟩, ?_⟩
  rintro r ys1 hF1 ⟨long, hlong, rfl⟩
  walk_at "dw"
  refine d_callR hx ?_
  walk_at "dw"
  refine d_callF hx ?_
  walk_at "dw"
  refine ⟨0, _, fd, ys1, _, _, 1, _, rfl, rfl, rfl, hF1, by omega, ⟨_, rfl, by omega, by omega, rfl, rfl⟩, ?_⟩
  rintro r ys2 hF2 ⟨h2, hh2, rfl⟩
  walk_at "dw"
  refine ⟨_, _, rfl, ⟨h2, rfl, by omega, rfl⟩, ?_⟩
  walk_at "dw"
  refine d_callF hx ?_
  walk_at "dw"
  refine ⟨0, _, fd, ys2, _, _, 1, _, rfl, rfl, rfl, hF2, by omega, ⟨_, rfl, by decide, by decide, rfl, rfl⟩, ?_⟩
  rintro r ys3 hF3 ⟨h3, hh3, rfl⟩
  walk_at "dw"
  obtain ⟨width, ew, hw1, hw2⟩ : ∃ width : Nat, max (1 : Int) (((L h2 : Nat) : Int) + ((h3 : Nat) : Int) - 1) = width ∧ 1 ≤ width ∧ width ≤ 2600 := by
    have h4 := L_mono (show h2 ≤ 16 by omega)
    rw [show L 16 = 2584 by decide +kernel] at h4
    exact ⟨(max (1 : Int) (((L h2 : Nat) : Int) + ((h3 : Nat) : Int) - 1)).toNat, by omega, by omega, by omega⟩
  rw [ew]
  walk_at "dw"
  refine d_callF hx ?_
  walk_at "dw"
  refine ⟨0, _, fd, ys3, _, _, 1, _, rfl, rfl, rfl, hF3, by omega, ⟨_, rfl, by omega, by omega, rfl, rfl⟩, ?_⟩
  rintro r ys4 hF4 ⟨at_, hat, rfl⟩
  walk_at "dw"
  refine d_callF hx ?_
  walk_at "dw"
  refine ⟨0, _, fd, ys4, _, _, 1, _, rfl, rfl, rfl, hF4, by omega, ⟨_, rfl, by omega, by omega, rfl, rfl⟩, ?_⟩
  rintro r ys5 hF5 ⟨child, hchild, rfl⟩
  walk_at "dw"
  refine d_callF hx ?_
  walk_at "dw"
  refine ⟨0, _, fd, ys5, _, _, 1, _, rfl, rfl, rfl, hF5, by omega, ⟨_, rfl, by decide, by decide, rfl, rfl⟩, ?_⟩
  rintro r ys6 hF6 ⟨below, hbelow, rfl⟩
  walk_at "dw"
  refine d_lcP (only_name (by decide)) ?_
  walk_at "dw"
  refine ⟨_, rfl, by omega, by omega, by omega, trivial, rfl, fun k => ent ("a", k), ?_, ?_⟩
  · intro c' i hi
    dsimp only
    rw [Int.zero_add]
    walk_at "dw"
    exact ⟨rfl, rfl⟩
  intro p
  walk_at "dw"
  rw [docL_row "a" (fun k => k)]
  refine d_for ?_
  walk_at "dw"
  refine ⟨_, rfl, by omega, by omega, ?_⟩
  obtain ⟨g0, l0⟩ := good_ext (GoodDoc.nil 0) "a" mkA (fun k => k) (by rw [show lastI (dps []) = -1 from rfl]; decide) at_ (fun k _ => Nat.le_refl _)
  rw [List.nil_append] at g0 l0
  refine ⟨fun i δ => ∃ l s2, δ = [.ow (.fl fd ys6), .fz (.int most), .fz (.int long), .fz (.int width), .fz (.int at_), .fz (.int child), .fz (.int below), .ow (.fl p (docL l)), .no, s2] ∧ GoodDoc l (at_ + 5 * i) ∧ (at_ : Int) ≤ lastI (dps l) + 1 ∧ (0 < i → (at_ : Int) ≤ lastI (dps l)),
    ⟨_, .no, rfl, g0.mono (by omega), ?_, fun z => absurd z (by omega)⟩, fun _ _ _ => trivial, ?_, ?_⟩
  · show (at_ : Int) ≤ lastI (dps (rowOf "a" (fun k => k) at_)) + 1
    rw [l0]
    split
    · rename_i e; rw [e]; decide
    · omega
  · rintro i δ hi ⟨l, s2, rfl, hg, hl1, hl2⟩
    dsimp only
    rw [Int.zero_add]
    have hlen := hg.len
    have g1 := hg.more "b" at_ mkB hl1
    have l1 : lastI (dps (l ++ [(("b" : Str), at_)])) = at_ := by
      show lastI ((l ++ [(("b" : Str), at_)]).map (·.2)) = _
      rw [List.map_append, List.map_singleton, lastI_snoc]
    walk_at "dw"
    refine d_append (i := 7) rfl rfl rfl (by rw [docL_len]; omega) ?_
    walk_at "dw"
    refine i_dec (fun e => ?_) (fun e => ?_)
    · walk_at "dw"
      refine d_lcP (only_name (by decide)) ?_
      walk_at "dw"
      refine ⟨_, rfl, by omega, by omega, by omega, trivial, rfl, fun k => ent ("c", at_ + 1 + k), ?_, ?_⟩
      · intro c' i hi
        dsimp only
        rw [Int.zero_add]
        walk_at "dw"
        exact ⟨rfl, rfl⟩
      intro p2
      walk_at "dw"
      rw [docL_row "c" (fun k => at_ + 1 + k)]
      obtain ⟨g2, l2⟩ := good_ext g1 "c" mkC (fun k => at_ + 1 + k) (by rw [l1]; omega) below (fun k _ => by omega)
      refine d_extend (i := 7) rfl rfl rfl (by rw [List.length_append, docL_len, docL_len, rowOf, List.length_map, List.length_range, List.length_singleton]; omega) ?_
      refine ⟨l ++ [(("b" : Str), at_)] ++ rowOf "c" (fun k => at_ + 1 + k) below, .fz (.int i), ?_, g2.mono (by omega), ?_, fun _ => ?_⟩
      · rw [docL_app, docL_app]; rfl
      · rw [l2]; split <;> omega
      · rw [l2]; split <;> omega
    · walk_at "dw"
      refine ⟨l ++ [(("b" : Str), at_)], .fz (.int i), ?_, g1.mono (by omega), ?_, fun _ => ?_⟩
      · rw [docL_app]; rfl
      · rw [l1]; omega
      · rw [l1]; omega
  · rintro δ ⟨l, s2, rfl, hg, hl1, hl2⟩
    have hl2 := hl2 (by omega)
    have hlen := hg.len
    walk_at "dw"
    refine d_lcP (only_name (by decide)) ?_
    walk_at "dw"
    refine ⟨_, rfl, by omega, by omega, by omega, trivial, rfl, fun k => ent ("d", at_ + 1 + k), ?_, ?_⟩
    · intro c' i hi
      dsimp only
      rw [Int.zero_add]
      walk_at "dw"
      exact ⟨rfl, rfl⟩
    intro p2
    walk_at "dw"
    rw [docL_row "d" (fun k => at_ + 1 + k)]
    obtain ⟨g2, l2⟩ := good_ext hg "d" mkD (fun k => at_ + 1 + k) (by omega) ((long : Int) - (at_ : Int)).toNat (fun k _ => by omega)
    refine d_catA rfl rfl rfl (by rw [docL_len, docL_len, rowOf, List.length_map, List.length_range]; omega) ?_
    refine ⟨rfl, ys6, rfl, hF6.mono (by omega), _, ?_, g2.mono ?_⟩
    · rw [docL_app]
    · omega
theorem cd_law_wide (T : Txt K mg) : Cal P w K mg base 2 "_law_wide" (toSp (gb P w K) (spFd soWide)) := T.d__law_wide.cal sc__law_wide (len_spFd fun ds k T ⟨_, h, _⟩ => by rw [h]; rfl) (bd_law_wide T (cd_draw T) (cd_least T))
def soComb (ds : List D) (k : Nat) (T : KD.R → Prop) : Prop := ds = [] ∧ k = 2 ∧ T = fun r => ∃ l, r = .fz (.tup (docL l)) ∧ GoodDoc l 20000
abbrev s__law_comb : Stmt := (top 56)
theorem sc__law_comb : FnScope ["feed", "long", "behind", "got", "depth"] ["feed"] (defScope s__law_comb) := ⟨rfl, rfl, rfl, by decide +kernel, rfl, by decide +kernel, by decide +kernel⟩
theorem bd_law_comb (T : Txt K mg) (C__law_draw : Cal P w K mg base 1 "_law_draw" (toSp (gb P w K) (spFd soDraw))) : Body P w K mg base (1) ["feed", "long", "behind", "got", "depth"] "_law_comb" (defScope s__law_comb) (defBody s__law_comb) (toSp (gb P w K) (spFd soComb)) := by
  intro f cdv A outer s H vs Q E hr h
  have hu := hu_of hr
  have tk : Takes (cxOf (L2.CX P w) P w K mg base ["feed", "long", "behind", "got", "depth"] "_law_comb" (defScope s__law_comb) f cdv A outer s H E) (WF E) := takes_of rfl rfl rfl rfl
  refine ⟨_, (pss_cons (ps_y3 (ps_asg (pe_tup (pa_cons (pe_op op_add pe_int (pe_cal C__law_draw hr (by omega) tk (pa_cons (pv 0) (pa_cons pe_int pa_nil)))) (pa_cons (pe_cal C__law_draw hr (by omega) tk (pa_cons (pv 0) (pa_cons pe_int pa_nil))) (pa_cons (pe_lst pa_nil) pa_nil)))) (pg_tup (n := 3) (by rfl) (pgs_cons (pg_name (i := 1) sc__law_comb.nd rfl (Or.inr rfl)) (pgs_cons (pg_name (i := 2) sc__law_comb.nd rfl (Or.inl rfl)) (pgs_cons (pg_name (i := 3) sc__law_comb.nd rfl (Or.inl rfl)) pgs_nil))))))
    (pss_cons (ps_for (passes_of rfl) rfl (pi_range1 rfl T.g_range (pa_cons (pv 1) pa_nil)) (pg_name (i := 4) sc__law_comb.nd rfl (Or.inl rfl)) (pss_cons (ps_expr (pe_bm PySem.F.plainAttrs_list PySem.F.slot_list_append PySem.F.type_list_append mt_append (pv 3) (pa_cons (pe_tup (pa_cons pe_str (pa_cons (pv 4) pa_nil))) pa_nil)))
    (pss_one (ps_if (pt_cmpR op_eq (pv 2) pe_int (nomark _)) (pss_one (ps_expr (pe_bm PySem.F.plainAttrs_list PySem.F.slot_list_append PySem.F.type_list_append mt_append (pv 3) (pa_cons (pe_tup (pa_cons pe_str (pa_cons (pe_op op_add (pv 4) pe_int) pa_nil))) pa_nil)))) pss_nil))))
    (pss_cons (ps_if (pt_cmpR op_eq (pv 2) pe_int (nomark _)) (pss_one (ps_expr (pe_bm PySem.F.plainAttrs_list PySem.F.slot_list_extend PySem.F.type_list_extend mt_extend (pv 3) (pa_cons (pe_lc (own := [("depth", 4)]) (g := (gName 4)) (by rfl) sc__law_comb.nd  (pi_range1 rfl T.g_range (pa_cons (pv 1) pa_nil)) (blkOk_by (own := [("depth", 4)]) (N := ["feed", "long", "behind", "got", "depth"]) (sc := defScope s__law_comb) (by decide +kernel)) (fun _ _ _ _ _ => (pg_name (i := 4) sc__law_comb.nd rfl (Or.inl rfl))) (fun _ _ _ _ _ => pts_nil) (fun _ _ _ _ _ => (pe_tup (pa_cons pe_str (pa_cons (pe_op op_sub (pv 1) (pv 4)) pa_nil))))) pa_nil)))) pss_nil)
    (pss_one (ps_ret (pe_callTy call_tupD (by rfl) T.g_tuple (by decide +kernel) (pa_cons (pv 3) pa_nil))))))), ?_⟩
  try dsimp only [cxOf]
  refine d_startF h fun fd xs n ds k T hF hn hS c hx hM => ?_
  obtain ⟨rfl, rfl, rfl⟩ := hS
  have hz : (100000 : Nat) < sizeLine := by decide
  refine d_st (δ' := [.ow (.fl fd xs), .no, .no, .no, .no]) (by rfl) ?_
  walk_at "dw"
  refine d_callF hx ?_
  walk_at "dw"
  refine ⟨0, _, fd, xs, n, _, 1, _, rfl, rfl, rfl, hF, by omega, ⟨_, rfl, by decide, by decide, rfl, rfl⟩, ?_⟩
  rintro r ys1 hF1 ⟨more, hmore, rfl⟩
  walk_at "dw"
  obtain ⟨long, elong, hlong⟩ : ∃ long : Nat, (500 : Int) + (more : Nat) = long ∧ long ≤ 1400 ∧ 0 < long := ⟨500 + more, by omega, by omega, by omega⟩
  rw [elong]
  refine d_callF hx ?_
  walk_at "dw"
  refine ⟨0, _, fd, ys1, _, _, 1, _, rfl, rfl, rfl, hF1, by omega, ⟨_, rfl, by decide, by decide, rfl, rfl⟩, ?_⟩
  rintro r ys2 hF2 ⟨behind, hbehind, rfl⟩
  walk_at "dw"
  intro p
  refine d_cxN fun c1 up1 => ?_
  walk_at "dw"
  refine ⟨_, _, _, _, _, _, rfl, .fz, .fz, .ow, ?_⟩
  walk_at "dw"
  refine d_for ?_
  walk_at "dw"
  refine ⟨_, rfl, by omega, by omega, ?_⟩
  refine ⟨fun i δ => ∃ l s1, (s1 = .no ∨ ∃ d, s1 = .fz d) ∧ δ = [.ow (.fl fd ys2), .fz (.int long), .fz (.int behind), .ow (.fl p (docL l)), s1] ∧ GoodDoc l (2 * i) ∧ (i : Int) ≤ lastI (dps l) + 1,
    ⟨[], .no, .inl rfl, rfl, GoodDoc.nil _, by rw [show lastI (dps []) = -1 from rfl]; decide⟩, fun _ _ _ => trivial, ?_, ?_⟩
  · rintro i δ hi ⟨l, s1, hs1, rfl, hg, hl1⟩
    dsimp only
    rw [Int.zero_add]
    have hlen := hg.len
    have g1 := hg.more "a" i mkA hl1
    have l1 : lastI (dps (l ++ [(("a" : Str), i)])) = i := by
      show lastI ((l ++ [(("a" : Str), i)]).map (·.2)) = _
      rw [List.map_append, List.map_singleton, lastI_snoc]
    walk_at "dw"
    refine d_append (i := 3) rfl rfl rfl (by rw [docL_len]; omega) ?_
    walk_at "dw"
    refine i_dec (fun e => ?_) (fun e => ?_)
    · walk_at "dw"
      have g2 := g1.more "b" (i + 1) mkB (by rw [l1]; omega)
      have l2 : lastI (dps (l ++ [(("a" : Str), i)] ++ [(("b" : Str), i + 1)])) = ((i + 1 : Nat) : Int) := by
        show lastI ((l ++ [(("a" : Str), i)] ++ [(("b" : Str), i + 1)]).map (·.2)) = _
        rw [List.map_append, List.map_singleton, lastI_snoc]
      refine d_append (i := 3) rfl rfl rfl (by rw [List.length_append, docL_len, List.length_singleton]; omega) ?_
      refine ⟨l ++ [(("a" : Str), i)] ++ [(("b" : Str), i + 1)], .fz (.int i), .inr ⟨_, rfl⟩, ?_, g2.mono (by omega), by rw [l2]; omega⟩
      rw [docL_app, docL_app]; rfl
    · walk_at "dw"
      refine ⟨l ++ [(("a" : Str), i)], .fz (.int i), .inr ⟨_, rfl⟩, ?_, g1.mono (by omega), by rw [l1]; omega⟩
      rw [docL_app]; rfl
  · rintro δ ⟨l, s1, hs1, rfl, hg, hl1⟩
    have hlen := hg.len
    walk_at "dw"
    refine i_dec (fun e => ?_) (fun e => ?_)
    · walk_at "dw"
      refine d_lcP (only_name (by decide)) ?_
      walk_at "dw"
      have hno : NoOw [.ow (.fl fd ys2), .fz (.int long), .fz (.int behind), .ow (.fl p (docL l)), s1] [4] = true := by
        rcases hs1 with rfl | ⟨d, rfl⟩ <;> rfl
      refine ⟨_, rfl, by omega, by omega, by omega, trivial, hno, fun k => ent ("c", long - k), ?_, ?_⟩
      · intro c' i hi
        dsimp only
        rw [Int.zero_add]
        walk_at "dw"
        refine ⟨?_, rfl⟩
        show R.fz (.tup [.str "c", .int ((long : Int) - (i : Nat))]) = .fz (.tup [.str "c", .int ((long - i : Nat) : Int)])
        rw [show ((long - i : Nat) : Int) = (long : Int) - (i : Nat) by omega]
      intro p2
      walk_at "dw"
      rw [docL_row "c" (fun k => long - k)]
      obtain ⟨g2, l2⟩ := good_ext hg "c" mkC (fun k => long - k) (by show ((long - 0 : Nat) : Int) ≤ _; omega) ((long : Int)).toNat (fun k _ => by omega)
      refine d_extend (i := 3) rfl rfl rfl (by rw [docL_len, docL_len, rowOf, List.length_map, List.length_range]; omega) ?_
      walk_at "dw"
      refine ⟨rfl, ys2, rfl, hF2.mono (by omega), l ++ rowOf "c" (fun k => long - k) ((long : Int)).toNat, ?_, g2.mono (by omega)⟩
      rw [docL_app]
    · walk_at "dw"
      exact ⟨rfl, ys2, rfl, hF2.mono (by omega), _, rfl, hg.mono (by omega)⟩
end

end K63

set_option maxHeartbeats 4000000
namespace K63
open PySem PySem.Spec PyProof.Rows L2 KB KM
open KD hiding Dp
section
variable {P : Program} {w : World} {K : PySem.W.Frag} {mg : Str → Option Value} {base : Heap}
/-! ### the law's own reach -/
def kP : Option Nat → Option Key := Option.map fun k => Sum.inl (k : Int)
theorem kP_inj {a b : Option Nat} (h : kP a = kP b) : a = b := by
  cases a <;> cases b <;> simp [kP] at h <;> first | rfl | (congr 1; omega)
theorem kP_d (p : Option Nat) : (oN p).keyN = some (kP p) := by cases p <;> rfl
def cntD (ds : List Nat) (n : Nat) (p : Option Nat) : Option D := if KM.cnt ds n p = 0 then none else some (.int (KM.cnt ds n p : Nat))
theorem cntD_get (ds : List Nat) (n : Nat) (p : Option Nat) : (cntD ds n p).getD (.int 0) = .int (KM.cnt ds n p : Nat) := by
  unfold cntD
  split
  · rename_i h; rw [h]; rfl
  · rfl
theorem foldl_ge (r : List Int) : ∀ t : Int, (∀ y ∈ r, t ≤ y) → r ≠ [] → r.foldl max t = maxI t r := by
  intro t h n
  cases r with
  | nil => exact absurd rfl n
  | cons x r =>
    show List.foldl max (max t x) r = List.foldl max x r
    rw [show max t x = x by have := h x (by simp); omega]
def soLReach (ds : List D) (out : Out) : Prop := ∃ l, ds = [.tup (docL l)] ∧ Fo 0 (dps l) ∧ l.length ≤ 20000 ∧ out = .ret (.int (reachI (dps l) l.length))
def abv (ds : List Nat) (i k : Nat) : Option Nat := if k = 0 then none else (pa ds i)[k - 1]?
theorem fo_pos {ds : List Nat} (h : Fo 0 ds) {i : Nat} (hi : i < ds.length) (z : 0 < ds.getD i 0) : 0 < i := by
  have := h.step i hi
  by_cases c : i = 0
  · rw [if_pos c] at this; omega
  · omega
theorem pa_lastOf {ds : List Nat} : ∀ i, 0 < i → (pa ds i)[(pa ds i).length - 1]? = some (i - 1)
  | 0, h => by omega
  | i + 1, _ => by
    simp only [pa, List.length_append, List.length_singleton, Nat.add_sub_cancel]
    rw [List.getElem?_append_right (Nat.le_refl _), Nat.sub_self]
    rfl
theorem abv_len {ds : List Nat} (h : Fo 0 ds) {i : Nat} (hi : i < ds.length) (z : 0 < ds.getD i 0) : abv ds i (pa ds i).length = some (i - 1) := by
  have hp := fo_pos h hi z
  have := pa_room h hi
  rw [abv, if_neg (by omega), pa_lastOf i hp]
theorem put_cnt {ds : List Nat} {i : Nat} {m : List (Option Key × D)} {q : Option Nat} (hm : ∀ p, valD m (kP p) = cntD ds i p) (hq : par ds i = q) : ∀ p, valD (putD m (kP q) (.int ((KM.cnt ds i q : Nat) + 1))) (kP p) = cntD ds (i + 1) p := by
  intro p
  rw [valD_put]
  by_cases h : p = q
  · subst h
    rw [if_pos rfl, cntD, KM.cnt, if_pos hq, if_neg (by omega)]
    rfl
  · have e : KM.cnt ds (i + 1) p = KM.cnt ds i p := by
      rw [KM.cnt, hq, if_neg (Ne.symm h)]
      rfl
    rw [if_neg fun z => h (kP_inj z), hm, cntD, cntD, e]
noncomputable def bstI (ds : List Nat) (n i : Nat) : Int := ((costs ds n i).map fun k => ((k : Nat) : Int)).foldl max ((topT ds n : Nat) : Int)
theorem bstI_succ (ds : List Nat) (n i : Nat) : bstI ds n (i + 1) = max (bstI ds n i) (((costs ds n (i + 1)).getD i 0 : Nat) : Int) := by
  have e : (costs ds n (i + 1)).getD i 0 = (match par ds i with | none => topT ds n | some k => (costs ds n i).getD k 0) + 1 + tlH (KM.cnt ds n (some i)) := by
    rw [costs_succ, List.getD_eq_getElem?_getD, List.getElem?_append_right (by rw [costs_len]; exact Nat.le_refl _), costs_len, Nat.sub_self]
    rfl
  rw [e, bstI, costs_succ, List.map_append, List.foldl_append]
  rfl
theorem bstI_end {ds : List Nat} (h : Fo 0 ds) : bstI ds ds.length ds.length = reachI ds ds.length := by
  rw [bstI, reachI]
  cases e : costs ds ds.length ds.length with
  | nil => rfl
  | cons x r =>
    rw [← e]
    refine foldl_ge _ _ (fun y hy => ?_) (by rw [e]; simp)
    obtain ⟨z, hz, rfl⟩ := List.mem_map.mp hy
    have := suL_top h _ _ _ (Nat.le_refl _) z hz
    omega
abbrev s__law_reach : Stmt := (top 57)
theorem sc__law_reach : FnScope ["document", "children", "parents", "node", "mark", "depth", "above", "best", "sums", "top"] ["document"] (defScope s__law_reach) := ⟨rfl, rfl, rfl, by decide +kernel, rfl, by decide +kernel, by decide +kernel⟩
theorem bd_law_reach (T : Txt K mg) (C__law_tallest : Cal P w K mg base 2 "_law_tallest" (toSp (gb P w K) (spO K soLTallest))) : Body P w K mg base (2) ["document", "children", "parents", "node", "mark", "depth", "above", "best", "sums", "top"] "_law_reach" (defScope s__law_reach) (defBody s__law_reach) (toSp (gb P w K) (spO K soLReach)) := by
  intro f cdv A outer s H vs Q E hr h
  have hu := hu_of hr
  have tk : Takes (cxOf (L2.CX P w) P w K mg base ["document", "children", "parents", "node", "mark", "depth", "above", "best", "sums", "top"] "_law_reach" (defScope s__law_reach) f cdv A outer s H E) (WF E) := takes_of rfl rfl rfl rfl
  refine ⟨_, (pss_cons (ps_x (ps_par (i := 1) (j := 2) (by rfl) sc__law_reach.nd rfl rfl (by decide) rfl rfl (pa_cons pe_dnewK (pa_cons (pe_lst pa_nil) pa_nil)) (by rfl)))
    (pss_cons (ps_for (passes_of rfl) rfl (pi_enumT (by rfl) T.g_enumerate (pa_cons (pv 0) pa_nil)) (pg_tup (n := 2) (by rfl) (pgs_cons (pg_name (i := 3) sc__law_reach.nd rfl (Or.inl rfl)) (pgs_cons (pg_tup (n := 2) (by rfl) (pgs_cons (pg_name (i := 4) sc__law_reach.nd rfl (Or.inl rfl)) (pgs_cons (pg_name (i := 5) sc__law_reach.nd rfl (Or.inl rfl)) pgs_nil))) pgs_nil))) (Evl.pss_cut (ps_set (i := 6) sc__law_reach.nd rfl (Or.inl rfl) (pe_ifExp (pt_cmpR op_gt (pv 5) pe_int (nomark _)) (pe_op op_sub (pv 3) pe_int) pe_non))
    (pss_cons (ps_while (passes_of rfl) (PW.pt (pw_and (pt_cmpR op_notN1 (pv 6) pe_non (nomark _)) (pw_and1 (pt_cmpR op_ge (pe_ix ix_seq (pe_ix ix_seq (pv 0) (pv 6) (fun _ _ => rfl)) pe_int (fun _ _ => rfl)) (pv 5) (nomark _))))) (pss_one (ps_set (i := 6) sc__law_reach.nd rfl (Or.inl rfl) (pe_ix ix_seq (pv 2) (pv 6) (fun _ _ => rfl)))))
    (pss_cons (ps_expr (pe_bm PySem.F.plainAttrs_list PySem.F.slot_list_append PySem.F.type_list_append mt_append (pv 2) (pa_cons (pv 6) pa_nil)))
    (pss_one (ps_nput (pv 1) (pv 6) (pe_op op_add (pe_nget2 (pv 1) (pv 6) pe_int ⟨by rfl, by rfl, by rfl, by rfl⟩) pe_int) rfl))))))
    (pss_cons (ps_x (ps_par (i := 7) (j := 8) (by rfl) sc__law_reach.nd rfl rfl (by decide) rfl rfl (pa_cons (pe_op op_add pe_int (pe_cal C__law_tallest hr (by omega) tk (pa_cons (pe_nget2 (pv 1) pe_non pe_int ⟨by rfl, by rfl, by rfl, by rfl⟩) pa_nil))) (pa_cons (pe_lst pa_nil) pa_nil)) (by rfl)))
    (pss_cons (ps_set (i := 9) sc__law_reach.nd rfl (Or.inl rfl) (pv 7))
    (pss_cons (ps_for (passes_of rfl) rfl (pi_range1 rfl T.g_range (pa_cons (pe_callB call_lenK (by rfl) T.g_len (by decide +kernel) (pa_cons (pv 0) pa_nil)) pa_nil)) (pg_name (i := 3) sc__law_reach.nd rfl (Or.inl rfl)) (Evl.pss_cut (ps_set (i := 6) sc__law_reach.nd rfl (Or.inl rfl) (pe_ifExp (pt_cmpR op_isN1 (pe_ix ix_seq (pv 2) (pv 3) (fun _ _ => rfl)) pe_non (nomark _)) (pv 9) (pe_ix ix_seq (pv 8) (pe_ix ix_seq (pv 2) (pv 3) (fun _ _ => rfl)) (fun _ _ => rfl))))
    (pss_cons (ps_expr (pe_bm PySem.F.plainAttrs_list PySem.F.slot_list_append PySem.F.type_list_append mt_append (pv 8) (pa_cons (pe_op op_add (pe_op op_add (pv 6) pe_int) (pe_cal C__law_tallest hr (by omega) tk (pa_cons (pe_nget2 (pv 1) (pv 3) pe_int ⟨by rfl, by rfl, by rfl, by rfl⟩) pa_nil))) pa_nil)))
    (pss_one (ps_set (i := 7) sc__law_reach.nd rfl (Or.inl rfl) (pe_callB (call_max2K rfl) (by rfl) T.g_max (by decide +kernel) (pa_cons (pv 7) (pa_cons (pe_ix ix_seq (pv 8) (pv 3) (fun _ _ => rfl)) pa_nil))))))))
    (pss_one (ps_ret (pv 7)))))))), ?_⟩
  try dsimp only [cxOf]
  refine d_startO h fun ds out hS c hx hM => ?_
  obtain ⟨l, rfl, hf, hl, rfl⟩ := hS
  have hz : (100000 : Nat) < sizeLine := by decide
  refine d_st (δ' := [.fz (.tup (docL l)), .no, .no, .no, .no, .no, .no, .no, .no, .no]) (by rfl) ?_
  walk_at "dw"
  refine d_dnewN (fun σ H Q h => h) fun a1 => ?_
  refine d_cxN fun c1 up1 => ?_
  walk_at "dw"
  intro a2
  refine d_cxN fun c2 up2 => ?_
  walk_at "dw"
  refine ⟨_, _, _, _, rfl, .ow, .ow, ?_⟩
  walk_at "dw"
  walk_at "dw"
  refine d_for ?_
  refine d_iEnumT rfl ?_
  walk_at "dw"
  refine ⟨_, rfl, ?_⟩
  refine ⟨fun i δ => ∃ m s1 s2 s3 s4, δ = [.fz (.tup (docL l)), .ow (.dn a1 m), .ow (.fl a2 (parL (dps l) i)), s1, s2, s3, s4, .no, .no, .no] ∧ (∀ p, valD m (kP p) = cntD (dps l) i p) ∧ m.length ≤ i, ⟨_, _, _, _, _, rfl, fun p => rfl, Nat.le_refl _⟩, fun _ _ _ => trivial, ?_, ?_⟩
  · rintro i δ hi ⟨m, s1, s2, s3, s4, rfl, hm, ml⟩
    rw [docL_len] at hi
    have hi' : i < (dps l).length := by rw [fo_len]; exact hi
    obtain ⟨mk, em⟩ := docL_get hi
    dsimp only
    rw [em]
    have room := pa_room hf hi'
    have lp : (parL (dps l) i).length < sizeLine := by rw [parL_len]; omega
    walk_at "dw"
    refine d_cut (fun δ => ∃ k, (dps l).getD i 0 ≤ k ∧ k ≤ (pa (dps l) i).length ∧ δ = [.fz (.tup (docL l)), .ow (.dn a1 m), .ow (.fl a2 (parL (dps l) i)), .fz (.int (i : Nat)), .fz (.str mk), .fz (.int ((dps l).getD i 0 : Nat)), .fz (oN (abv (dps l) i k)), .no, .no, .no]) ?_ ?_
    · walk_at "dw"
      refine i_dec (fun z => ?_) (fun z => ?_)
      · walk_at "dw"
        refine ⟨(pa (dps l) i).length, by omega, Nat.le_refl _, ?_⟩
        rw [abv_len hf (by omega) (by omega)]
        rw [show (i : Int) - 1 = ((i - 1 : Nat) : Int) by have := fo_pos hf hi' (by omega); omega]
        rfl
      · walk_at "dw"
        refine ⟨0, by omega, by omega, ?_⟩
        rfl
    · rintro δ ⟨k0, hk1, hk2, rfl⟩
      walk_at "dw"
      refine d_while (fun n δ => ∃ k, n = k ∧ (dps l).getD i 0 ≤ k ∧ k ≤ (pa (dps l) i).length ∧ δ = [.fz (.tup (docL l)), .ow (.dn a1 m), .ow (.fl a2 (parL (dps l) i)), .fz (.int (i : Nat)), .fz (.str mk), .fz (.int ((dps l).getD i 0 : Nat)), .fz (oN (abv (dps l) i k)), .no, .no, .no]) _ ⟨k0, rfl, hk1, hk2, rfl⟩ ?_
      rintro n δ ⟨k, rfl, h1, h2, rfl⟩
      have fin : n = (dps l).getD i 0 → oN (abv (dps l) i n) = oN (par (dps l) i) := by
        intro e
        subst e
        rfl
      by_cases n0 : n = 0
      · subst n0
        have f := fin (by omega)
        have e0 : oN (abv (dps l) i 0) = .non := rfl
        rw [e0] at f ⊢
        walk_at "dw"
        have hq : par (dps l) i = none := by
          have e1 : (dps l).getD i 0 = 0 := by omega
          rw [par, if_pos e1]
        refine d_append (i := 2) rfl rfl rfl lp ?_
        walk_at "dw"
        refine ⟨⟨m, rfl⟩, ?_⟩
        walk_at "dw"
        refine ⟨m, _, kP (none), _, rfl, rfl, kP_d (none), rfl, ?_⟩
        rw [hm, cntD_get]
        walk_at "dw"
        refine ⟨1, a1, m, _, kP (none), _, rfl, rfl, rfl, rfl, kP_d (none), by omega, ?_⟩
        refine ⟨putD m (kP (none)) (.int ((KM.cnt (dps l) i (none) : Nat) + 1)), .fz (.int (i : Nat)), .fz (.str mk), .fz (.int ((dps l).getD i 0 : Nat)), .fz (oN (none)), ?_, put_cnt hm (by rw [hq]), by have := len_putD m (kP (none)) (.int ((KM.cnt (dps l) i (none) : Nat) + 1)); omega⟩
        rw [parL_succ, hq]
        rfl
      · obtain ⟨x, ex⟩ : ∃ x, (pa (dps l) i)[n - 1]? = some x := ⟨_, getD_at (d := 0) (by omega)⟩
        obtain ⟨p1, p2, p3⟩ := pa_at hf i (by omega) _ _ ex
        have ea : abv (dps l) i n = some x := by rw [abv, if_neg n0, ex]
        have hx2 : x < l.length := by omega
        obtain ⟨mx, emx⟩ := docL_get hx2
        rw [ea] at fin ⊢
        walk_at "dw"
        refine d_ix (i := (x : Nat)) (d := .tup [.str mx, .int ((dps l).getD x 0 : Nat)]) rfl rfl ?_ ?_
        · unfold atI ixN
          rw [if_pos (by omega), if_pos (by rw [docL_len]; omega)]
          show (docL l)[((x : Nat) : Int).toNat]? = _
          rw [Int.toNat_natCast, getD_at (d := .non) (by rw [docL_len]; omega), emx]
        walk_at "dw"
        rw [p2]
        refine d_ix (i := 1) (d := .int ((n - 1 : Nat) : Int)) rfl rfl rfl ?_
        walk_at "dw"
        refine i_dec (fun z => ?_) (fun z => ?_)
        · walk_at "dw"
          refine d_ix (i := (x : Nat)) (d := oN (par (dps l) x)) rfl rfl ?_ ?_
          · unfold atI ixN
            rw [if_pos (by omega), if_pos (by rw [parL_len]; omega)]
            show (parL (dps l) i)[((x : Nat) : Int).toNat]? = _
            rw [Int.toNat_natCast, getD_at (d := .non) (by rw [parL_len]; omega), parL_get (by omega)]
          walk_at "dw"
          refine ⟨n - 1, by omega, n - 1, rfl, by omega, by omega, ?_⟩
          rw [p3]
          rfl
        · walk_at "dw"
          have hq : par (dps l) i = some x := by
            rw [par, if_neg (by omega), ← ex]
            congr 1
            omega
          refine d_append (i := 2) rfl rfl rfl lp ?_
          walk_at "dw"
          refine ⟨⟨m, rfl⟩, ?_⟩
          walk_at "dw"
          refine ⟨m, _, kP (some x), _, rfl, rfl, kP_d (some x), rfl, ?_⟩
          rw [hm, cntD_get]
          walk_at "dw"
          refine ⟨1, a1, m, _, kP (some x), _, rfl, rfl, rfl, rfl, kP_d (some x), by omega, ?_⟩
          refine ⟨putD m (kP (some x)) (.int ((KM.cnt (dps l) i (some x) : Nat) + 1)), .fz (.int (i : Nat)), .fz (.str mk), .fz (.int ((dps l).getD i 0 : Nat)), .fz (oN (some x)), ?_, put_cnt hm (by rw [hq]), by have := len_putD m (kP (some x)) (.int ((KM.cnt (dps l) i (some x) : Nat) + 1)); omega⟩
          rw [parL_succ, hq]
          rfl
  · rintro δ ⟨m, s1, s2, s3, s4, rfl, hm, ml⟩
    rw [docL_len] at ml hm ⊢
    have hz2 : (100000 : Nat) < sizeLine := by decide
    walk_at "dw"
    refine d_callR hx ?_
    walk_at "dw"
    refine ⟨⟨m, rfl⟩, ?_⟩
    walk_at "dw"
    refine ⟨m, _, kP none, _, rfl, rfl, rfl, rfl, ?_⟩
    rw [hm, cntD_get]
    walk_at "dw"
    refine ⟨_, _, rfl, ⟨_, rfl, by have := KM.cnt_le (dps l) l.length none; omega, rfl⟩, ?_⟩
    walk_at "dw"
    rw [show (1 : Int) + ((tlH (KM.cnt (dps l) l.length none) : Nat) : Int) = ((topT (dps l) l.length : Nat) : Int) by unfold topT; omega]
    walk_at "dw"
    intro a3
    refine d_cxN fun c3 up3 => ?_
    walk_at "dw"
    refine ⟨_, _, _, _, rfl, .fz, .ow, ?_⟩
    walk_at "dw"
    refine d_for ?_
    walk_at "dw"
    refine ⟨_, rfl, by rw [docL_len]; omega, by rw [docL_len]; omega, ?_⟩
    refine ⟨fun i δ => ∃ s1 s2 s3 s4, δ = [.fz (.tup (docL l)), .ow (.dn a1 m), .ow (.fl a2 (parL (dps l) l.length)), s1, s2, s3, s4, .fz (.int (bstI (dps l) l.length i)), .ow (.fl a3 (intL (costs (dps l) l.length i))), .fz (.int (topT (dps l) l.length : Nat))], ⟨_, _, _, _, rfl⟩, fun _ _ _ => trivial, ?_, ?_⟩
    · rintro i δ hi ⟨s1, s2, s3, s4, rfl⟩
      rw [docL_len] at hi
      have hi0 : i < l.length := by omega
      have hi' : i < (dps l).length := by rw [fo_len]; exact hi0
      have eb := bstI_succ (dps l) l.length i
      dsimp only
      rw [show (0 : Int) + ((i : Nat) : Int) = ((i : Nat) : Int) by omega]
      walk_at "dw"
      refine d_cut (fun δ => ∃ s1 s2, δ = [.fz (.tup (docL l)), .ow (.dn a1 m), .ow (.fl a2 (parL (dps l) l.length)), .fz (.int (i : Nat)), s1, s2, .fz (.int ((match par (dps l) i with | none => topT (dps l) l.length | some k => (costs (dps l) l.length i).getD k 0 : Nat))), .fz (.int (bstI (dps l) l.length i)), .ow (.fl a3 (intL (costs (dps l) l.length i))), .fz (.int (topT (dps l) l.length : Nat))]) ?_ ?_
      · walk_at "dw"
        have ep : atI (parL (dps l) l.length) ((i : Nat) : Int) = some (oN (par (dps l) i)) := by
          unfold atI ixN
          rw [if_pos (by omega), if_pos (by rw [parL_len]; omega)]
          show (parL (dps l) l.length)[((i : Nat) : Int).toNat]? = _
          rw [Int.toNat_natCast, getD_at (d := .non) (by rw [parL_len]; omega), parL_get (by omega)]
        refine d_ix (i := (i : Nat)) (d := oN (par (dps l) i)) rfl rfl ep ?_
        cases e : par (dps l) i with
        | none =>
          walk_at "dw"
          exact ⟨_, _, rfl⟩
        | some k =>
          have hk := par_lt hf hi' e
          walk_at "dw"
          refine d_ix (i := (i : Nat)) (d := oN (par (dps l) i)) rfl rfl ep ?_
          rw [e]
          walk_at "dw"
          refine d_ix (i := (k : Nat)) (d := .int ((costs (dps l) l.length i).getD k 0 : Nat)) rfl rfl ?_ ?_
          · have hk2 : k < (costs (dps l) l.length i).length := by rw [costs_len]; exact hk
            unfold atI ixN
            rw [if_pos (by omega), if_pos (by rw [intL, List.length_map]; omega)]
            show (intL (costs (dps l) l.length i))[((k : Nat) : Int).toNat]? = _
            rw [Int.toNat_natCast, intL, List.getElem?_map, getD_at (d := 0) hk2]
            rfl
          walk_at "dw"
          exact ⟨_, _, rfl⟩
      · rintro δ ⟨s1, s2, rfl⟩
        generalize hab : (match par (dps l) i with | none => topT (dps l) l.length | some k => (costs (dps l) l.length i).getD k 0) = ab
        have es : intL (costs (dps l) l.length (i + 1)) = intL (costs (dps l) l.length i) ++ [.int ((ab + 1 + tlH (KM.cnt (dps l) l.length (some i)) : Nat) : Int)] := by
          rw [costs_succ, ← hab, intL, List.map_append]
          rfl
        walk_at "dw"
        refine d_callR hx ?_
        walk_at "dw"
        refine ⟨⟨m, rfl⟩, ?_⟩
        walk_at "dw"
        refine ⟨m, _, kP (some i), _, rfl, rfl, rfl, rfl, ?_⟩
        rw [hm, cntD_get]
        walk_at "dw"
        refine ⟨_, _, rfl, ⟨_, rfl, by have := KM.cnt_le (dps l) l.length (some i); omega, rfl⟩, ?_⟩
        walk_at "dw"
        rw [show ((ab : Nat) : Int) + 1 + ((tlH (KM.cnt (dps l) l.length (some i)) : Nat) : Int) = ((ab + 1 + tlH (KM.cnt (dps l) l.length (some i)) : Nat) : Int) by omega]
        refine d_append (i := 8) rfl rfl rfl (by rw [intL, List.length_map, costs_len]; omega) ?_
        rw [← es]
        walk_at "dw"
        refine d_ix (i := (i : Nat)) (d := .int ((costs (dps l) l.length (i + 1)).getD i 0 : Nat)) rfl rfl ?_ ?_
        · have hk2 : i < (costs (dps l) l.length (i + 1)).length := by rw [costs_len]; omega
          unfold atI ixN
          rw [if_pos (by omega), if_pos (by rw [intL, List.length_map]; omega)]
          show (intL (costs (dps l) l.length (i + 1)))[((i : Nat) : Int).toNat]? = _
          rw [Int.toNat_natCast, intL, List.getElem?_map, getD_at (d := 0) hk2]
          rfl
        walk_at "dw"
        rw [← eb]
        exact ⟨_, _, _, _, rfl⟩
    · rintro δ ⟨s1, s2, s3, s4, rfl⟩
      rw [docL_len]
      have ee := bstI_end hf
      rw [fo_len] at ee
      rw [← ee]
      walk_at "dw"
      rfl
theorem cd_law_reach (T : Txt K mg) : Cal P w K mg base 3 "_law_reach" (toSp (gb P w K) (spO K soLReach)) := T.d__law_reach.cal sc__law_reach (len_spO fun ds out ⟨_, h, _⟩ => by rw [h]; rfl) (bd_law_reach T (cd_ltallest T))
end

end K63

set_option maxHeartbeats 4000000
namespace K63
open PySem PySem.Spec PyProof.Rows L2 KB KM
open KD hiding Dp
section
variable {P : Program} {w : World} {K : PySem.W.Frag} {mg : Str → Option Value} {base : Heap}
/-! ### what is no document -/
def soRefused (ds : List D) (out : Out) : Prop := ∃ d, ds = [d] ∧ ok d = true ∧ out = .ret (.bl (!forest d))
abbrev s__law_refused : Stmt := (top 58)
theorem sc__law_refused : FnScope ["thing", "got"] ["thing"] (defScope s__law_refused) := ⟨rfl, rfl, rfl, by decide +kernel, rfl, by decide +kernel, by decide +kernel⟩
theorem bd_law_refused (T : Txt K mg) (C_reach : Cal P w K mg base 5 "reach" (toSp (gb P w K) (spO K soReach))) : Body P w K mg base (5) ["thing", "got"] "_law_refused" (defScope s__law_refused) (defBody s__law_refused) (toSp (gb P w K) (spO K soRefused)) := by
  intro f cdv A outer s H vs Q E hr h
  have hu := hu_of hr
  have tk : Takes (cxOf (L2.CX P w) P w K mg base ["thing", "got"] "_law_refused" (defScope s__law_refused) f cdv A outer s H E) (WF E) := takes_of rfl rfl rfl rfl
  refine ⟨_, (pss_cons (ps_set (i := 1) sc__law_refused.nd rfl (Or.inl rfl) pe_bl)
    (pss_cons (ps_tryD rfl rfl tk (fun W pn xe tk _ => (pss_one (ps_expr (pe_cal C_reach hr (by omega) tk (pa_cons (pv 0) pa_nil))))) (.cons ⟨rfl, by decide, .inl T.x_BadDocument.at_⟩ (fun a oe cls d pn _ _ => (pss_one (ps_set (i := 1) sc__law_refused.nd rfl (Or.inl rfl) pe_bl))) .nil))
    (pss_one (ps_ret (pv 1))))), ?_⟩
  try dsimp only [cxOf]
  refine d_startO h fun ds out hS c hx hM => ?_
  obtain ⟨d, rfl, ho, rfl⟩ := hS
  refine d_st (δ' := [.fz d, .no]) (by rfl) ?_
  walk_at "dw"
  refine d_try rfl hx fun c' W eM hx' hxW => ?_
  cases e : forest d with
  | false =>
    walk_at "dw"
    refine d_callX hxW ?_
    walk_at "dw"
    refine ⟨_, _, rfl, ⟨d, rfl, ho, .inl ⟨e, rfl⟩⟩, ?_⟩
    refine ⟨true, T.e_BadDocument_BadDocument, fun _ a => ?_, fun h => nomatch h⟩
    walk_at "dw"
    rw [e]
    rfl
  | true =>
    obtain ⟨l, rfl, hf, hl⟩ := forest_is e
    walk_at "dw"
    refine d_callR hxW ?_
    walk_at "dw"
    refine ⟨_, _, rfl, ⟨_, rfl, ho, .inr ⟨l, e, rfl, rfl⟩⟩, ?_⟩
    walk_at "dw"
    rfl
theorem cd_law_refused (T : Txt K mg) : Cal P w K mg base 6 "_law_refused" (toSp (gb P w K) (spO K soRefused)) := T.d__law_refused.cal sc__law_refused (len_spO fun ds out ⟨_, h, _⟩ => by rw [h]; rfl) (bd_law_refused T (cd_reach T))
theorem cd_law_comb (T : Txt K mg) : Cal P w K mg base 2 "_law_comb" (toSp (gb P w K) (spFd soComb)) := T.d__law_comb.cal sc__law_comb (len_spFd fun ds k T ⟨h, _⟩ => by rw [h]; rfl) (bd_law_comb T (cd_draw T))
end

end K63

set_option maxHeartbeats 4000000
namespace K63
open PySem PySem.Spec PyProof.Rows L2 KB KM
open KD hiding Dp
section
variable {P : Program} {w : World} {K : PySem.W.Frag} {mg : Str → Option Value} {base : Heap}
/-! ### what is no document, by draw -/
def badE (e : D) : Prop := ok e = true ∧ ∀ m r, forL m (e :: r) = false
theorem forL_bad {e : D} (h : badE e) (post : List D) : ∀ pre m, forL m (pre ++ e :: post) = false
  | [], m => h.2 m post
  | x :: r, m => by
    show forL m (x :: (r ++ e :: post)) = false
    unfold forL
    split
    · rename_i heq; cases heq
    · rename_i x1 n r' heq
      cases heq
      rw [forL_bad h post r, Bool.and_false]
    · rfl
theorem okL_app : ∀ {a b : List D}, okL a = true → okL b = true → okL (a ++ b) = true
  | [], _, _, h => h
  | x :: r, b, h1, h2 => by
    simp only [List.cons_append, okL, Bool.and_eq_true] at h1 ⊢
    exact ⟨h1.1, okL_app h1.2 h2⟩
theorem okL_take : ∀ {a : List D} (n : Nat), okL a = true → okL (a.take n) = true
  | _, 0, _ => rfl
  | [], _ + 1, _ => rfl
  | x :: r, n + 1, h => by
    simp only [List.take_succ_cons, okL, Bool.and_eq_true] at h ⊢
    exact ⟨h.1, okL_take n h.2⟩
theorem okL_drop : ∀ {a : List D} (n : Nat), okL a = true → okL (a.drop n) = true
  | _, 0, h => h
  | [], _ + 1, _ => rfl
  | x :: r, n + 1, h => by
    simp only [List.drop_succ_cons, okL, Bool.and_eq_true] at h ⊢
    exact okL_drop n h.2
def Spo (d : D) : Prop := ok d = true ∧ forest d = false
theorem spo_bad {L : List D} {e : D} (h : okL L = true) (b : badE e) (n : Nat) : Spo (.tup (L.take n ++ [e] ++ L.drop n)) := by
  refine ⟨?_, ?_⟩
  · simp only [ok]
    refine okL_app (okL_app (okL_take n h) ?_) (okL_drop n h)
    simp only [okL, b.1, Bool.and_true]
  · have e2 : L.take n ++ [e] ++ L.drop n = L.take n ++ e :: L.drop n := by simp
    simp only [forest]
    rw [e2, forL_bad b, Bool.and_false]
theorem spo_deep {l : List (Str × Nat)} (h : okL (docL l) = true) {d : Int} (hd : lastI (dps l) + 1 < d) : Spo (.tup (docL l ++ [.tup [.str "a", .int d]])) := by
  have key : ∀ (l : List (Str × Nat)) (m : Nat), (l ≠ [] → lastI (dps l) + 1 < d) → (l = [] → (m : Int) < d) → forL (m : Nat) (docL l ++ [.tup [.str "a", .int d]]) = false := by
    intro l
    induction l with
    | nil =>
      intro m _ h2
      have := h2 rfl
      simp only [docL, List.map_nil, List.nil_append, forL, isBelow, decide_eq_false (show ¬ d < (m : Int) + 1 by omega), Bool.and_false, Bool.false_and]
    | cons p r ih =>
      intro m h1 _
      have h1 := h1 (by simp)
      have q := ih (p.2 + 1) (fun hr => by
        have : lastI (dps (p :: r)) = lastI (dps r) := lastI_cons (by simpa using hr)
        rw [← this]; exact h1) (fun hr => by
        subst hr
        have : lastI (dps [p]) = p.2 := rfl
        omega)
      have q2 : forL ((p.2 : Nat) + 1 : Int) (List.map ent r ++ [.tup [.str "a", .int d]]) = false := q
      simp only [docL, List.map_cons, List.cons_append, ent, forL, q2, Bool.and_false]
  refine ⟨?_, ?_⟩
  · simp only [ok]
    refine okL_app h ?_
    have : Nat.ble (Str.length "a") sizeLine = true := by decide +kernel
    simp only [okL, ok, this, Bool.and_true]
  · simp only [forest]
    rw [show forL 0 (docL l ++ [.tup [.str "a", .int d]]) = false from key l 0 (fun _ => hd) (fun e => by subst e; have : lastI (dps []) = -1 := rfl; omega), Bool.and_false]
def soSpoilt (ds : List D) (k : Nat) (T : KD.R → Prop) : Prop := ∃ l, ds = [.tup (docL l)] ∧ GoodDoc l 20000 ∧ k = 3 ∧ T = fun r => ∃ d, r = .fz d ∧ Spo d
theorem lastI_at {l : List (Str × Nat)} (h : l ≠ []) : (((dps l).getD (l.length - 1) 0 : Nat) : Int) = lastI (dps l) := by
  have : dps l ≠ [] := by simpa using h
  obtain ⟨r, x, e⟩ := (List.eq_nil_or_concat (dps l)).resolve_left this
  have hl : l.length = (dps l).length := (fo_len l).symm
  rw [hl, e, List.concat_eq_append, lastI_snoc, List.length_append, List.length_singleton, Nat.add_sub_cancel, List.getD_eq_getElem?_getD, List.getElem?_append_right (Nat.le_refl _), Nat.sub_self]
  rfl
abbrev s__law_spoilt : Stmt := (top 59)
theorem sc__law_spoilt : FnScope ["feed", "document", "entry", "many", "at", "deep", "some"] ["feed", "document"] (defScope s__law_spoilt) := ⟨rfl, rfl, rfl, by decide +kernel, rfl, by decide +kernel, by decide +kernel⟩
theorem bd_law_spoilt (T : Txt K mg) (C__law_draw : Cal P w K mg base 1 "_law_draw" (toSp (gb P w K) (spFd soDraw))) (C__law_one : Cal P w K mg base 2 "_law_one" (toSp (gb P w K) (spFd soOne))) : Body P w K mg base (2) ["feed", "document", "entry", "many", "at", "deep", "some"] "_law_spoilt" (defScope s__law_spoilt) (defBody s__law_spoilt) (toSp (gb P w K) (spFd soSpoilt)) := by
  intro f cdv A outer s H vs Q E hr h
  have hu := hu_of hr
  have tk : Takes (cxOf (L2.CX P w) P w K mg base ["feed", "document", "entry", "many", "at", "deep", "some"] "_law_spoilt" (defScope s__law_spoilt) f cdv A outer s H E) (WF E) := takes_of rfl rfl rfl rfl
  refine ⟨_, (pss_cons (ps_set (i := 2) sc__law_spoilt.nd rfl (Or.inl rfl) (pe_cal C__law_one hr (by omega) tk (pa_cons (pv 0) (pa_cons (pe_lst (pa_cons (pe_tup (pa_cons pe_str (pa_cons (pe_un un_neg pe_int) pa_nil))) (pa_cons (pe_tup (pa_cons pe_str (pa_cons pe_bl pa_nil))) (pa_cons (pe_tup (pa_cons pe_str (pa_cons pe_int pa_nil))) (pa_cons (pe_tup (pa_cons pe_str (pa_cons pe_int pa_nil))) (pa_cons (pe_tup (pa_cons pe_str pa_nil)) (pa_cons (pe_tup (pa_cons pe_str (pa_cons pe_int (pa_cons pe_int pa_nil)))) (pa_cons (pe_lst (pa_cons pe_str (pa_cons pe_int pa_nil))) (pa_cons (pe_tup (pa_cons pe_str (pa_cons pe_non pa_nil))) (pa_cons pe_int pa_nil)))))))))) pa_nil))))
    (pss_cons (ps_set (i := 3) sc__law_spoilt.nd rfl (Or.inl rfl) (pe_callB call_lenK (by rfl) T.g_len (by decide +kernel) (pa_cons (pv 1) pa_nil)))
    (pss_cons (ps_set (i := 4) sc__law_spoilt.nd rfl (Or.inl rfl) (pe_cal C__law_draw hr (by omega) tk (pa_cons (pv 0) (pa_cons (pe_op op_add (pv 3) pe_int) pa_nil))))
    (Evl.pss_cut (ps_set (i := 5) sc__law_spoilt.nd rfl (Or.inl rfl) (pe_ifExp (pt_cmpR op_eq (pv 3) pe_int (nomark _)) pe_int (pe_op op_add (pe_ix ix_seq (pe_ix ix_seq (pv 1) (pe_un un_neg pe_int) (fun _ _ => rfl)) pe_int (fun _ _ => rfl)) pe_int)))
    (pss_cons (ps_set (i := 6) sc__law_spoilt.nd rfl (Or.inl rfl) (pe_lst (pa_cons pe_non (pa_cons (pe_callTy call_listD (by rfl) T.g_list (by decide +kernel) (pa_cons (pv 1) pa_nil)) (pa_cons pe_str (pa_cons pe_int (pa_cons (pe_op op_catA (pv 1) (pe_tup (pa_cons (pe_tup (pa_cons pe_str (pa_cons (pe_op op_add (pv 5) pe_int) pa_nil))) pa_nil))) (pa_cons (pe_op op_catA (pe_op op_catA (pe_slice sl_tupA (pv 1) po_none (po_some (pv 4))) (pe_tup (pa_cons (pv 2) pa_nil))) (pe_slice sl_tupA (pv 1) (po_some (pv 4)) po_none)) pa_nil))))))))
    (pss_one (ps_ret (pe_cal C__law_one hr (by omega) tk (pa_cons (pv 0) (pa_cons (pe_op op_cat (pv 6) (pe_lst (pa_cons (pe_op op_catA (pe_op op_catA (pe_slice sl_tupA (pv 1) po_none (po_some (pv 4))) (pe_tup (pa_cons (pv 2) pa_nil))) (pe_slice sl_tupA (pv 1) (po_some (pv 4)) po_none)) pa_nil))) pa_nil)))))))))), ?_⟩
  try dsimp only [cxOf]
  refine d_startF h fun fd xs n ds k T hF hn hS c hx hM => ?_
  obtain ⟨l, rfl, hg, rfl, rfl⟩ := hS
  have hz : (100000 : Nat) < sizeLine := by decide
  have ho : okL (docL l) = true := good_ok hg
  have hlen := hg.len
  refine d_st (δ' := [.ow (.fl fd xs), .fz (.tup (docL l)), .no, .no, .no, .no, .no]) (by rfl) ?_
  walk_at "dw"
  refine d_callF hx ?_
  walk_at "dw"
  intro p
  walk_at "dw"
  intro p2
  walk_at "dw"
  refine ⟨0, _, fd, xs, n, _, 1, _, rfl, rfl, rfl, hF, by omega, ⟨_, _, rfl, rfl, by simp, by simp, rfl, rfl⟩, ?_⟩
  rintro r ys1 hF1 ⟨entry, hent, rfl⟩
  have hb : badE entry := by
    simp only [List.mem_cons, List.not_mem_nil, or_false] at hent
    rcases hent with rfl | rfl | rfl | rfl | rfl | rfl | rfl | rfl | rfl
    · exact ⟨by decide +kernel, fun m r => by unfold forL; simp [isBelow]⟩
    · exact ⟨by decide +kernel, fun m r => rfl⟩
    · exact ⟨by decide +kernel, fun m r => by unfold forL; rw [show isMark (.str "i") = false by decide +kernel]; simp⟩
    · exact ⟨by decide +kernel, fun m r => by unfold forL; rw [show isMark (.str "ab") = false by decide +kernel]; simp⟩
    · exact ⟨by decide +kernel, fun m r => rfl⟩
    · exact ⟨by decide +kernel, fun m r => rfl⟩
    · exact ⟨(by decide +kernel : ok (.lst [.str "a", .int 0]) = true), fun m r => rfl⟩
    · exact ⟨by decide +kernel, fun m r => rfl⟩
    · exact ⟨by decide +kernel, fun m r => rfl⟩
  walk_at "dw"
  rw [docL_len]
  walk_at "dw"
  refine d_callF hx ?_
  walk_at "dw"
  refine ⟨0, _, fd, ys1, _, _, 1, _, rfl, rfl, rfl, hF1, by omega, ⟨_, rfl, by omega, by omega, rfl, rfl⟩, ?_⟩
  rintro r ys2 hF2 ⟨at_, hat, rfl⟩
  walk_at "dw"
  refine d_cut (fun δ => δ = [.ow (.fl fd ys2), .fz (.tup (docL l)), .fz entry, .fz (.int l.length), .fz (.int at_), .fz (.int (lastI (dps l) + 1)), .no]) ?_ ?_
  · walk_at "dw"
    refine i_dec (fun z => ?_) (fun z => ?_)
    · have : l = [] := List.length_eq_zero_iff.mp (by omega)
      subst this
      walk_at "dw"
      rfl
    · walk_at "dw"
      have hne : l ≠ [] := fun e => by subst e; exact z rfl
      obtain ⟨m1, e1⟩ := docL_get (l := l) (i := l.length - 1) (by have := List.length_pos_iff.mpr hne; omega)
      have hp := List.length_pos_iff.mpr hne
      refine d_ix (i := -1) (d := .tup [.str m1, .int (lastI (dps l))]) rfl rfl ?_ ?_
      · unfold atI ixN
        rw [docL_len, if_neg (by decide), if_pos (by omega)]
        show (docL l)[((-1 : Int) + (l.length : Nat)).toNat]? = _
        rw [show ((-1 : Int) + (l.length : Nat)).toNat = l.length - 1 by omega, getD_at (d := .non) (by rw [docL_len]; omega), e1, lastI_at hne]
      walk_at "dw"
      refine d_ix (i := 1) (d := .int (lastI (dps l))) rfl rfl rfl ?_
      walk_at "dw"
      rfl
  rintro δ rfl
  have hat2 : at_ ≤ (docL l).length := by rw [docL_len]; omega
  have sp1 := spo_bad ho hb at_
  have sp2 := spo_deep (d := lastI (dps l) + 1 + 1) ho (by omega)
  have s0 : Spo .non := ⟨rfl, rfl⟩
  have s1 : Spo (.str "") := ⟨by decide +kernel, rfl⟩
  have s2 : Spo (.int 0) := ⟨rfl, rfl⟩
  have s3 : Spo (.lst (docL l)) := ⟨by simp only [ok]; exact ho, rfl⟩
  walk_at "dw"
  intro p3
  walk_at "dw"
  refine d_catA rfl rfl rfl (by rw [docL_len]; simp; omega) ?_
  walk_at "dw"
  refine d_slT rfl rfl ?_
  walk_at "dw"
  refine d_catA rfl rfl rfl (by rw [cutD_to _ hat2, List.length_take, docL_len]; simp; omega) ?_
  walk_at "dw"
  refine d_slT rfl rfl ?_
  walk_at "dw"
  refine d_catA rfl rfl rfl (by rw [cutD_to _ hat2, cutD_from _ hat2, List.length_append, List.length_take, List.length_drop, docL_len]; simp; omega) ?_
  rw [cutD_to _ hat2, cutD_from _ hat2]
  walk_at "dw"
  intro p4
  walk_at "dw"
  refine d_callF hx ?_
  walk_at "dw"
  refine d_slT rfl rfl ?_
  walk_at "dw"
  refine d_catA rfl rfl rfl (by rw [cutD_to _ hat2, List.length_take, docL_len]; simp; omega) ?_
  walk_at "dw"
  refine d_slT rfl rfl ?_
  walk_at "dw"
  refine d_catA rfl rfl rfl (by rw [cutD_to _ hat2, cutD_from _ hat2, List.length_append, List.length_take, List.length_drop, docL_len]; simp; omega) ?_
  rw [cutD_to _ hat2, cutD_from _ hat2]
  walk_at "dw"
  intro p5
  walk_at "dw"
  refine d_cat rfl rfl (by simp; decide) ?_
  intro p6
  walk_at "dw"
  refine ⟨0, _, fd, ys2, _, _, 1, _, rfl, rfl, rfl, hF2, by omega, ⟨_, _, rfl, rfl, by simp, by simp, rfl, rfl⟩, ?_⟩
  rintro r ys3 hF3 ⟨x, hxm, rfl⟩
  have hs : Spo x := by
    simp only [List.mem_append, List.mem_cons, List.not_mem_nil, or_false] at hxm
    rcases hxm with (rfl | rfl | rfl | rfl | rfl | rfl) | rfl
    · exact s0
    · exact s3
    · exact s1
    · exact s2
    · exact sp2
    · exact sp1
    · exact sp1
  walk_at "dw"
  exact ⟨rfl, ys3, rfl, hF3, x, rfl, hs⟩
theorem cd_law_spoilt (T : Txt K mg) : Cal P w K mg base 3 "_law_spoilt" (toSp (gb P w K) (spFd soSpoilt)) := T.d__law_spoilt.cal sc__law_spoilt (len_spFd fun ds k T ⟨_, h, _⟩ => by rw [h]; rfl) (bd_law_spoilt T (cd_draw T) (cd_one T))
end

end K63

set_option maxHeartbeats 4000000
namespace K63
open PySem PySem.Spec PyProof.Rows L2 KB KM
open KD hiding Dp
section
variable {P : Program} {w : World} {K : PySem.W.Frag} {mg : Str → Option Value} {base : Heap}
/-! ### _law_asked_two -/
def soAsked (ds : List D) (out : Out) : Prop := ∃ ns : List Int, ds = [.ro (ns.map D.int)] ∧ (∀ z ∈ ns, ib z ≤ 1048576) ∧ ns.length ≤ 63 ∧ out = .ret (.bl true)
abbrev s__law_asked_two : Stmt := (top 60)
theorem sc__law_asked_two : FnScope ["script", "k", "feed", "document", "way", "told"] ["script"] (defScope s__law_asked_two) := ⟨rfl, rfl, rfl, by decide +kernel, rfl, by decide +kernel, by decide +kernel⟩
theorem bd_asked_two (T : Txt K mg) (C__law_feed : Cal P w K mg base 1 "_law_feed" (toSp (gb P w K) (spN soFeed))) (C__law_draw : Cal P w K mg base 1 "_law_draw" (toSp (gb P w K) (spFd soDraw)))
    (C__law_document : Cal P w K mg base 3 "_law_document" (toSp (gb P w K) (spFd soDocument))) (C__law_wide : Cal P w K mg base 2 "_law_wide" (toSp (gb P w K) (spFd soWide))) (C__law_comb : Cal P w K mg base 2 "_law_comb" (toSp (gb P w K) (spFd soComb)))
    (C_reach : Cal P w K mg base 5 "reach" (toSp (gb P w K) (spO K soReach))) (C__law_reach : Cal P w K mg base 3 "_law_reach" (toSp (gb P w K) (spO K soLReach))) (C__law_refused : Cal P w K mg base 6 "_law_refused" (toSp (gb P w K) (spO K soRefused)))
    (C__law_spoilt : Cal P w K mg base 3 "_law_spoilt" (toSp (gb P w K) (spFd soSpoilt))) : Body P w K mg base (6) ["script", "k", "feed", "document", "way", "told"] "_law_asked_two" (defScope s__law_asked_two) (defBody s__law_asked_two) (toSp (gb P w K) (spO K soAsked)) := by
  intro f cdv A outer s H vs Q E hr h
  have hu := hu_of hr
  have tk : Takes (cxOf (L2.CX P w) P w K mg base ["script", "k", "feed", "document", "way", "told"] "_law_asked_two" (defScope s__law_asked_two) f cdv A outer s H E) (WF E) := takes_of rfl rfl rfl rfl
  refine ⟨_, (pss_cons (ps_for (passes_of rfl) rfl (pi_range1 rfl T.g_range (pa_cons (pe_callB (call_max2K rfl) (by rfl) T.g_max (by decide +kernel) (pa_cons pe_int (pa_cons (pe_callB (call_min2K rfl) (by rfl) T.g_min (by decide +kernel) (pa_cons pe_int (pa_cons (pe_callB call_lenK (by rfl) T.g_len (by decide +kernel) (pa_cons (pv 0) pa_nil)) pa_nil))) pa_nil))) pa_nil)) (pg_name (i := 1) sc__law_asked_two.nd rfl (Or.inl rfl)) (pss_cons (ps_setO (i := 2) sc__law_asked_two.nd rfl (Or.inl rfl) (pe_cal C__law_feed hr (by omega) tk (pa_cons (pv 0) (pa_cons (pv 1) pa_nil))))
    (pss_cons (ps_set (i := 3) sc__law_asked_two.nd rfl (Or.inl rfl) (pe_cal C__law_document hr (by omega) tk (pa_cons (pv 2) (pa_cons pe_int pa_nil))))
    (pss_cons (ps_set (i := 4) sc__law_asked_two.nd rfl (Or.inl rfl) (pe_cal C__law_draw hr (by omega) tk (pa_cons (pv 2) (pa_cons pe_int pa_nil))))
    (Evl.pss_cut (ps_if (pt_cmpR op_gt (pv 4) pe_int (nomark _)) (pss_one (ps_set (i := 3) sc__law_asked_two.nd rfl (Or.inl rfl) (pe_cal C__law_wide hr (by omega) tk (pa_cons (pv 2) (pa_cons (pe_ifExp (PW.pt (pw_and (pt_cmpR op_eq (pv 1) pe_int (nomark _)) (pw_and1 (pt_cmpR op_eq (pv 4) pe_int (nomark _))))) pe_int pe_int) pa_nil))))) pss_nil)
    (Evl.pss_cut (ps_if (PW.pt (pw_and (pt_cmpR op_eq (pv 1) pe_int (nomark _)) (pw_and1 (pt_cmpR op_eq (pe_cal C__law_draw hr (by omega) tk (pa_cons (pv 2) (pa_cons pe_int pa_nil))) pe_int (nomark _))))) (pss_one (ps_set (i := 3) sc__law_asked_two.nd rfl (Or.inl rfl) (pe_cal C__law_comb hr (by omega) tk (pa_cons (pv 2) pa_nil)))) pss_nil)
    (pss_cons (ps_set (i := 5) sc__law_asked_two.nd rfl (Or.inl rfl) (pe_cal C_reach hr (by omega) tk (pa_cons (pv 3) pa_nil)))
    (pss_cons (ps_if (PW.pt (pw_or (pt_not (pt_val (pe_callB call_isD (by rfl) T.g_isinstance (by decide +kernel) (pa_cons (pv 5) (pa_cons (pe_ty "int" T.g_int) pa_nil))))) (pw_or (pt_val (pe_callB call_isD (by rfl) T.g_isinstance (by decide +kernel) (pa_cons (pv 5) (pa_cons (pe_ty "bool" T.g_bool) pa_nil)))) (pw_or (pt_cmpR op_ne (pv 5) (pe_cal C__law_reach hr (by omega) tk (pa_cons (pv 3) pa_nil)) (nomark _)) (pw_or1 (pt_cmpR op_ne (pe_cal C_reach hr (by omega) tk (pa_cons (pv 3) pa_nil)) (pv 5) (nomark _))))))) (pss_one (ps_ret pe_bl)) pss_nil)
    (pss_one (ps_if (PW.pt (pw_and (pt_cmpR op_eq (pe_cal C__law_draw hr (by omega) tk (pa_cons (pv 2) (pa_cons pe_int pa_nil))) pe_int (nomark _)) (pw_and1 (pt_not (pt_val (pe_cal C__law_refused hr (by omega) tk (pa_cons (pe_cal C__law_spoilt hr (by omega) tk (pa_cons (pv 2) (pa_cons (pv 3) pa_nil))) pa_nil))))))) (pss_one (ps_ret pe_bl)) pss_nil))))))))))
    (pss_one (ps_ret pe_bl))), ?_⟩
  try dsimp only [cxOf]
  refine d_startO h fun ds out hS c hx hM => ?_
  obtain ⟨ns, rfl, hb, hl, rfl⟩ := hS
  have hz : (100000 : Nat) < sizeLine := by decide
  refine d_st (δ' := [.fz (.ro (ns.map D.int)), .no, .no, .no, .no, .no]) (by rfl) ?_
  walk_at "dw"
  refine d_for ?_
  walk_at "dw"
  rw [List.length_map]
  refine ⟨_, rfl, by omega, by omega, ?_⟩
  refine ⟨fun i δ => ∃ s1 s2 s3 s4 s5, δ = [.fz (.ro (ns.map D.int)), s1, s2, s3, s4, s5], ⟨_, _, _, _, _, rfl⟩, fun _ _ _ => trivial, ?_, ?_⟩
  · rintro i δ hi ⟨s1, s2, s3, s4, s5, rfl⟩
    dsimp only
    rw [Int.zero_add]
    walk_at "dw"
    refine d_callN hx ?_
    walk_at "dw"
    refine ⟨_, _, rfl, ⟨ns, i, rfl, hb, by omega, rfl⟩, ?_⟩
    rintro r ⟨fd, ys0, rfl, hF0⟩
    walk_at "dw"
    refine d_callF hx ?_
    walk_at "dw"
    refine ⟨2, _, fd, ys0, _, _, _, _, rfl, rfl, rfl, hF0, ?_, ⟨30, rfl, by decide, rfl, rfl⟩, ?_⟩
    · decide
    rintro r ys1 hF1 ⟨l1, rfl, hg1⟩
    walk_at "dw"
    refine d_callF hx ?_
    walk_at "dw"
    refine ⟨2, _, fd, ys1, _, _, _, _, rfl, rfl, rfl, hF1, ?_, ⟨_, rfl, by decide, by decide, rfl, rfl⟩, ?_⟩
    · decide
    rintro r ys2 hF2 ⟨way, hway, rfl⟩
    walk_at "dw"
    refine d_cut (fun δ => ∃ l ys, δ = [.fz (.ro (ns.map D.int)), .fz (.int i), .ow (.fl fd ys), .fz (.tup (docL l)), .fz (.int way), s5] ∧ FdD 100 ys ∧ GoodDoc l 20000) ?_ ?_
    · walk_at "dw"
      refine i_dec (fun z => ?_) (fun z => ?_)
      · walk_at "dw"
        refine d_callF hx ?_
        walk_at "dw"
        refine i_dec (fun z2 => ?_) (fun z2 => ?_)
        · walk_at "dw"
          refine i_dec (fun z3 => ?_) (fun z3 => ?_)
          · walk_at "dw"
            refine ⟨2, _, fd, ys2, _, _, _, _, rfl, rfl, rfl, hF2, by decide, ⟨17, rfl, by decide, by decide, rfl, rfl⟩, ?_⟩
            rintro r ys3 hF3 ⟨l3, rfl, hg3⟩
            walk_at "dw"
            exact ⟨l3, ys3, rfl, hF3.mono (by decide), hg3⟩
          · walk_at "dw"
            refine ⟨2, _, fd, ys2, _, _, _, _, rfl, rfl, rfl, hF2, by decide, ⟨10, rfl, by decide, by decide, rfl, rfl⟩, ?_⟩
            rintro r ys3 hF3 ⟨l3, rfl, hg3⟩
            walk_at "dw"
            exact ⟨l3, ys3, rfl, hF3.mono (by decide), hg3⟩
        · walk_at "dw"
          refine ⟨2, _, fd, ys2, _, _, _, _, rfl, rfl, rfl, hF2, by decide, ⟨10, rfl, by decide, by decide, rfl, rfl⟩, ?_⟩
          rintro r ys3 hF3 ⟨l3, rfl, hg3⟩
          walk_at "dw"
          exact ⟨l3, ys3, rfl, hF3.mono (by decide), hg3⟩
      · walk_at "dw"
        exact ⟨l1, ys2, rfl, hF2.mono (by decide), hg1.mono (by decide)⟩
    rintro δ ⟨l2, ys3, rfl, hF3, hg2⟩
    walk_at "dw"
    refine d_cut (fun δ => ∃ l ys, δ = [.fz (.ro (ns.map D.int)), .fz (.int i), .ow (.fl fd ys), .fz (.tup (docL l)), .fz (.int way), s5] ∧ FdD 103 ys ∧ GoodDoc l 20000) ?_ ?_
    · walk_at "dw"
      refine i_dec (fun z => ?_) (fun z => ?_)
      · walk_at "dw"
        refine d_callF hx ?_
        walk_at "dw"
        refine ⟨2, _, fd, ys3, _, _, _, _, rfl, rfl, rfl, hF3, ?_, ⟨_, rfl, by decide, by decide, rfl, rfl⟩, ?_⟩
        · decide
        rintro r ys4 hF4 ⟨x, hxx, rfl⟩
        walk_at "dw"
        refine i_dec (fun z2 => ?_) (fun z2 => ?_)
        · walk_at "dw"
          refine d_callF hx ?_
          walk_at "dw"
          refine ⟨2, _, fd, ys4, _, _, _, _, rfl, rfl, rfl, hF4, ?_, ⟨rfl, rfl, rfl⟩, ?_⟩
          · decide
          rintro r ys5 hF5 ⟨l5, rfl, hg5⟩
          walk_at "dw"
          exact ⟨l5, ys5, rfl, hF5.mono (by decide), hg5⟩
        · walk_at "dw"
          exact ⟨l2, ys4, rfl, hF4.mono (by decide), hg2⟩
      · walk_at "dw"
        exact ⟨l2, ys3, rfl, hF3.mono (by decide), hg2⟩
    rintro δ ⟨l, ys6, rfl, hF6, hg⟩
    have ho := good_ok hg
    have hf := good_forest hg (Nat.le_refl _)
    have hlen := hg.len
    walk_at "dw"
    refine d_callR hx ?_
    walk_at "dw"
    refine ⟨_, _, rfl, ⟨_, rfl, ho, .inr ⟨l, hf, rfl, rfl⟩⟩, ?_⟩
    walk_at "dw"
    refine d_callR hx ?_
    walk_at "dw"
    refine ⟨_, _, rfl, ⟨l, rfl, hg.fo, hlen, rfl⟩, ?_⟩
    walk_at "dw"
    refine i_ndec (fun z => absurd rfl z) (fun _ => ?_)
    walk_at "dw"
    refine d_callR hx ?_
    walk_at "dw"
    refine ⟨_, _, rfl, ⟨_, rfl, ho, .inr ⟨l, hf, rfl, rfl⟩⟩, ?_⟩
    walk_at "dw"
    refine i_ndec (fun z => absurd rfl z) (fun _ => ?_)
    walk_at "dw"
    refine d_callF hx ?_
    walk_at "dw"
    refine ⟨2, _, fd, ys6, _, _, _, _, rfl, rfl, rfl, hF6, by decide, ⟨_, rfl, by decide, by decide, rfl, rfl⟩, ?_⟩
    rintro r ys7 hF7 ⟨x, hxx, rfl⟩
    walk_at "dw"
    refine i_dec (fun z2 => ?_) (fun z2 => ?_)
    · walk_at "dw"
      refine d_callR hx ?_
      walk_at "dw"
      refine d_callF hx ?_
      walk_at "dw"
      refine ⟨2, _, fd, ys7, _, _, _, _, rfl, rfl, rfl, hF7, by decide, ⟨l, rfl, hg, rfl, rfl⟩, ?_⟩
      rintro r ys8 hF8 ⟨d, rfl, hs1, hs2⟩
      walk_at "dw"
      refine ⟨_, _, rfl, ⟨d, rfl, hs1, rfl⟩, ?_⟩
      rw [hs2, show (!false) = true from rfl]
      walk_at "dw"
      exact ⟨_, _, _, _, _, rfl⟩
    · walk_at "dw"
      exact ⟨_, _, _, _, _, rfl⟩
  · rintro δ ⟨s1, s2, s3, s4, s5, rfl⟩
    walk_at "dw"
    rfl
theorem c_asked_two (T : Txt K mg) : Cal P w K mg base 7 "_law_asked_two" (spAsked K) := (T.d__law_asked_two.cal sc__law_asked_two (len_spO fun ds out ⟨_, h, _⟩ => by rw [h]; rfl)
    (bd_asked_two T (cd_feed T) (cd_draw T) (cd_law_document T) (cd_law_wide T) (cd_law_comb T) (cd_reach T) (cd_law_reach T) (cd_law_refused T) (cd_law_spoilt T))).imp fun vs H Q E ⟨a, ns, e, hS, hb, hl, q⟩ => by
  subst e
  obtain ⟨F, ent⟩ := script_ent (g := gb P w K) hS
  refine to_old F ent ⟨_, _, rfl, ⟨ns, rfl, hb, hl, rfl⟩, rfl⟩ rfl (fun r os v H' F' h s rn => ?_) (fun C os z => z.2.elim)
  obtain ⟨rfl, rfl⟩ := h
  cases rn
  exact q H' s
/-! ### law -/
abbrev s_law : Stmt := (top 61)
theorem sc_law : FnScope ["script"] ["script"] (defScope s_law) := ⟨rfl, rfl, rfl, by decide +kernel, rfl, by decide +kernel, by decide +kernel⟩
theorem b_law (T : Txt K mg) (C__law_asked_one : Cal P w K mg base 150 "_law_asked_one" (spAsked K)) (C__law_asked_two : Cal P w K mg base 7 "_law_asked_two" (spAsked K)) : Body P w K mg base (150) ["script"] "law" (defScope s_law) (defBody s_law) (spLaw K) := by
  intro f cdv A outer s H vs Q E hr h
  obtain ⟨a, ns, rfl, hS, hb, hl, q⟩ := h
  have hu := hu_of hr
  have tk : Takes (cxOf (L2.CX P w) P w K mg base ["script"] "law" (defScope s_law) f cdv A outer s H E) (fun cls d _ H => E cls d H) := takes_of rfl rfl rfl rfl
  refine ⟨_, (pss_one (ps_ret (pe_and (pe_cal C__law_asked_one hr (by omega) tk (pa_cons (pv 0) pa_nil)) (pe_one (pe_cal C__law_asked_two hr (by omega) tk (pa_cons (pv 0) pa_nil)))))), ?_⟩
  refine i_start [some _] (by rfl) ?_
  try dsimp only [cxOf]
  walk_at "rd"
  refine ⟨a, ns, rfl, hS, hb, hl, fun H1 s1 => ?_⟩
  walk_at "rd"
  refine ⟨a, ns, rfl, s1.seq hS, hb, hl, fun H2 s2 => ?_⟩
  walk_at "rd"
  exact q H2
theorem lawB (T : Txt K mg) : Body P w K mg base (150) ["script"] "law" (defScope s_law) (defBody s_law) (spLaw K) := b_law T (c_asked_one T) (c_asked_two T)
end

end K63

set_option maxHeartbeats 4000000
namespace K63
open PySem PySem.Spec PyProof.Rows L2 KB KM
/-! ### the head -/
def fn0 : List He.DefD := [⟨("is_integer", none), "is_integer", "is_integer", defArgs (top 9), defBody (top 9), defScope (top 9), [], []⟩,
  ⟨("is_below", none), "is_below", "is_below", defArgs (top 10), defBody (top 10), defScope (top 10), [], []⟩,
  ⟨("need_count", none), "need_count", "need_count", defArgs (top 11), defBody (top 11), defScope (top 11), [.non], []⟩,
  ⟨("is_mark", none), "is_mark", "is_mark", defArgs (top 12), defBody (top 12), defScope (top 12), [], []⟩,
  ⟨("is_forest", none), "is_forest", "is_forest", defArgs (top 14), defBody (top 14), defScope (top 14), [], []⟩,
  ⟨("need_document", none), "need_document", "need_document", defArgs (top 15), defBody (top 15), defScope (top 15), [], []⟩,
  ⟨("parents_of", none), "parents_of", "parents_of", defArgs (top 16), defBody (top 16), defScope (top 16), [], []⟩,
  ⟨("rows_of", none), "rows_of", "rows_of", defArgs (top 17), defBody (top 17), defScope (top 17), [], []⟩,
  ⟨("Stem", some "__init__"), "__init__", "Stem.__init__", defArgs (inClass (top 20) 0), defBody (inClass (top 20) 0), defScope (inClass (top 20) 0), [], []⟩,
  ⟨("Builder", some "pair"), "pair", "Builder.pair", defArgs (inClass (top 21) 0), defBody (inClass (top 21) 0), defScope (inClass (top 21) 0), [], []⟩,
  ⟨("Builder", some "sides"), "sides", "Builder.sides", defArgs (inClass (top 21) 1), defBody (inClass (top 21) 1), defScope (inClass (top 21) 1), [], []⟩,
  ⟨("tallest_of", none), "tallest_of", "tallest_of", defArgs (top 22), defBody (top 22), defScope (top 22), [], []⟩,
  ⟨("width_in", none), "width_in", "width_in", defArgs (top 23), defBody (top 23), defScope (top 23), [], []⟩,
  ⟨("balanced_height", none), "balanced_height", "balanced_height", defArgs (top 24), defBody (top 24), defScope (top 24), [], []⟩,
  ⟨("stem_of", none), "stem_of", "stem_of", defArgs (top 25), defBody (top 25), defScope (top 25), [], []⟩,
  ⟨("shape_of", none), "shape_of", "shape_of", defArgs (top 26), defBody (top 26), defScope (top 26), [], []⟩,
  ⟨("even_pair", none), "even_pair", "even_pair", defArgs (top 27), defBody (top 27), defScope (top 27), [], []⟩,
  ⟨("row_joined", none), "row_joined", "row_joined", defArgs (top 28), defBody (top 28), defScope (top 28), [], []⟩,
  ⟨("row_cut", none), "row_cut", "row_cut", defArgs (top 29), defBody (top 29), defScope (top 29), [], []⟩,
  ⟨("reach_of", none), "reach_of", "reach_of", defArgs (top 31), defBody (top 31), defScope (top 31), [], []⟩,
  ⟨("need_shape", none), "need_shape", "need_shape", defArgs (top 33), defBody (top 33), defScope (top 33), [], []⟩,
  ⟨("need_balanced", none), "need_balanced", "need_balanced", defArgs (top 34), defBody (top 34), defScope (top 34), [], []⟩,
  ⟨("cut_shape", none), "cut_shape", "cut_shape", defArgs (top 35), defBody (top 35), defScope (top 35), [], []⟩,
  ⟨("reach", none), "reach", "reach", defArgs (top 36), defBody (top 36), defScope (top 36), [], []⟩,
  ⟨("_law_feed", none), "_law_feed", "_law_feed", defArgs (top 38), defBody (top 38), defScope (top 38), [], []⟩,
  ⟨("_law_draw", none), "_law_draw", "_law_draw", defArgs (top 39), defBody (top 39), defScope (top 39), [], []⟩,
  ⟨("_law_one", none), "_law_one", "_law_one", defArgs (top 40), defBody (top 40), defScope (top 40), [], []⟩,
  ⟨("_law_least", none), "_law_least", "_law_least", defArgs (top 41), defBody (top 41), defScope (top 41), [], []⟩,
  ⟨("_law_tallest", none), "_law_tallest", "_law_tallest", defArgs (top 42), defBody (top 42), defScope (top 42), [], []⟩,
  ⟨("_law_balanced", none), "_law_balanced", "_law_balanced", defArgs (top 43), defBody (top 43), defScope (top 43), [], []⟩]
def fn1 : List He.DefD := [⟨("_law_any_balanced", none), "_law_any_balanced", "_law_any_balanced", defArgs (top 44), defBody (top 44), defScope (top 44), [], []⟩,
  ⟨("_law_grown", none), "_law_grown", "_law_grown", defArgs (top 45), defBody (top 45), defScope (top 45), [], []⟩,
  ⟨("_law_shape", none), "_law_shape", "_law_shape", defArgs (top 46), defBody (top 46), defScope (top 46), [], []⟩,
  ⟨("_law_trouble", none), "_law_trouble", "_law_trouble", defArgs (top 47), defBody (top 47), defScope (top 47), [], []⟩,
  ⟨("_law_sizes", none), "_law_sizes", "_law_sizes", defArgs (top 48), defBody (top 48), defScope (top 48), [], []⟩,
  ⟨("_law_is_shape", none), "_law_is_shape", "_law_is_shape", defArgs (top 49), defBody (top 49), defScope (top 49), [], []⟩,
  ⟨("_law_cut", none), "_law_cut", "_law_cut", defArgs (top 50), defBody (top 50), defScope (top 50), [], []⟩,
  ⟨("_law_part", none), "_law_part", "_law_part", defArgs (top 51), defBody (top 51), defScope (top 51), [], []⟩,
  ⟨("_law_right", none), "_law_right", "_law_right", defArgs (top 52), defBody (top 52), defScope (top 52), [], []⟩,
  ⟨("_law_asked_one", none), "_law_asked_one", "_law_asked_one", defArgs (top 53), defBody (top 53), defScope (top 53), [], []⟩,
  ⟨("_law_document", none), "_law_document", "_law_document", defArgs (top 54), defBody (top 54), defScope (top 54), [], []⟩,
  ⟨("_law_wide", none), "_law_wide", "_law_wide", defArgs (top 55), defBody (top 55), defScope (top 55), [], []⟩,
  ⟨("_law_comb", none), "_law_comb", "_law_comb", defArgs (top 56), defBody (top 56), defScope (top 56), [], []⟩,
  ⟨("_law_reach", none), "_law_reach", "_law_reach", defArgs (top 57), defBody (top 57), defScope (top 57), [], []⟩,
  ⟨("_law_refused", none), "_law_refused", "_law_refused", defArgs (top 58), defBody (top 58), defScope (top 58), [], []⟩,
  ⟨("_law_spoilt", none), "_law_spoilt", "_law_spoilt", defArgs (top 59), defBody (top 59), defScope (top 59), [], []⟩,
  ⟨("_law_asked_two", none), "_law_asked_two", "_law_asked_two", defArgs (top 60), defBody (top 60), defScope (top 60), [], []⟩,
  ⟨("law", none), "law", "law", defArgs (top 61), defBody (top 61), defScope (top 61), [], []⟩]
def fn : List He.DefD := fn0 ++ fn1

def fa0 : List He.Fa := [.free "isinstance",
  .free "int",
  .free "bool",
  .free "tuple",
  .free "str",
  .free "list",
  .free "len",
  .free "max",
  .free "min",
  .free "abs",
  .free "sum",
  .free "range",
  .free "enumerate",
  .str "MARKS" "abcdefgh",
  .int "MOST_NODES" 20000,
  .int "MOST_HEIGHT" 40,
  .glo "MatchError",
  .exc "MatchError",
  .glo "BadDocument",
  .exc "BadDocument",
  .glo "BadShape",
  .exc "BadShape",
  .glo "BadCount",
  .exc "BadCount",
  .glo "BadBalance",
  .exc "BadBalance",
  .glo "Stem",
  .cls "Stem",
  .noat "Stem" "left",
  .noat "Stem" "right"]
def fa1 : List He.Fa := [.noat "Stem" "width",
  .noat "Stem" "height",
  .mkr "Stem",
  .glo "Builder",
  .cls "Builder",
  .meth "Builder" "pair",
  .meth "Builder" "sides",
  .exm "MatchError" "BadShape" false,
  .exm "BadDocument" "BadShape" false,
  .exm "BadShape" "BadShape" true,
  .exm "BadCount" "BadShape" false,
  .exm "BadBalance" "BadShape" false,
  .exm "MatchError" "BadBalance" false,
  .exm "BadDocument" "BadBalance" false,
  .exm "BadShape" "BadBalance" false,
  .exm "BadCount" "BadBalance" false,
  .exm "BadBalance" "BadBalance" true,
  .exm "MatchError" "BadCount" false,
  .exm "BadDocument" "BadCount" false,
  .exm "BadShape" "BadCount" false,
  .exm "BadCount" "BadCount" true,
  .exm "BadBalance" "BadCount" false,
  .exm "MatchError" "BadDocument" false,
  .exm "BadDocument" "BadDocument" true,
  .exm "BadShape" "BadDocument" false,
  .exm "BadCount" "BadDocument" false,
  .exm "BadBalance" "BadDocument" false,
  .glo "is_integer",
  .glo "is_below",
  .glo "need_count"]
def fa2 : List He.Fa := [.glo "is_mark",
  .glo "is_forest",
  .glo "need_document",
  .glo "parents_of",
  .glo "rows_of",
  .glo "tallest_of",
  .glo "width_in",
  .glo "balanced_height",
  .glo "stem_of",
  .glo "shape_of",
  .glo "even_pair",
  .glo "row_joined",
  .glo "row_cut",
  .glo "reach_of",
  .glo "need_shape",
  .glo "need_balanced",
  .glo "cut_shape",
  .glo "reach",
  .glo "_law_feed",
  .glo "_law_draw",
  .glo "_law_one",
  .glo "_law_least",
  .glo "_law_tallest",
  .glo "_law_balanced",
  .glo "_law_any_balanced",
  .glo "_law_grown",
  .glo "_law_shape",
  .glo "_law_trouble",
  .glo "_law_sizes",
  .glo "_law_is_shape"]
def fa3 : List He.Fa := [.glo "_law_cut",
  .glo "_law_part",
  .glo "_law_right",
  .glo "_law_asked_one",
  .glo "_law_document",
  .glo "_law_wide",
  .glo "_law_comb",
  .glo "_law_reach",
  .glo "_law_refused",
  .glo "_law_spoilt",
  .glo "_law_asked_two",
  .glo "law"]
def fa : List He.Fa := fa0 ++ fa1 ++ fa2 ++ fa3

def exB (K : PySem.W.Frag) : Bool := (PySem.W.makesIn K (He.ga K "Builder") && (He.eqO (PySem.W.findIn K (.ref (He.ga K "Builder")) "__init__") (some (some (.builtin "object.__init__"))) && PySem.W.keepIn K (.ref (He.ga K "Builder"))))
def names0 : List PySem.Str := ["MatchError",
  "BadDocument",
  "BadShape",
  "BadCount",
  "BadBalance",
  "MARKS",
  "MOST_NODES",
  "is_integer",
  "is_below",
  "need_count",
  "is_mark",
  "is_forest",
  "need_document",
  "parents_of",
  "rows_of",
  "MOST_HEIGHT",
  "Stem",
  "Builder",
  "tallest_of",
  "width_in",
  "balanced_height",
  "stem_of",
  "shape_of",
  "even_pair",
  "row_joined",
  "row_cut",
  "reach_of",
  "need_shape",
  "need_balanced",
  "cut_shape"]
def names1 : List PySem.Str := ["reach",
  "_law_feed",
  "_law_draw",
  "_law_one",
  "_law_least",
  "_law_tallest",
  "_law_balanced",
  "_law_any_balanced",
  "_law_grown",
  "_law_shape",
  "_law_trouble",
  "_law_sizes",
  "_law_is_shape",
  "_law_cut",
  "_law_part",
  "_law_right",
  "_law_asked_one",
  "_law_document",
  "_law_wide",
  "_law_comb",
  "_law_reach",
  "_law_refused",
  "_law_spoilt",
  "_law_asked_two"]
def names : List PySem.Str := names0 ++ names1

abbrev lawAt : Nat := 61
theorem full1 {K : PySem.W.Frag} {fd : FuncData} {ps : List Str} (h : ∃ ds, Vals [] ds ∧ Binds K fd ps ds) : Binds K fd ps [] := by
  obtain ⟨ds, h1, h2⟩ := h
  cases h1
  exact h2
theorem txt_of {K : PySem.W.Frag} {h : Heap} {mg : Str → Option Value} (KX : K.In h) (G : h.Ns mainGlobals mg) (c : He.SaysD fa fn K) (m : exB K = true) : Txt K mg := by
  obtain ⟨fd0, F0⟩ := c.def_ 0 (d := ⟨("is_integer", none), "is_integer", "is_integer", defArgs (top 9), defBody (top 9), defScope (top 9), [], []⟩) rfl
  obtain ⟨fd1, F1⟩ := c.def_ 1 (d := ⟨("is_below", none), "is_below", "is_below", defArgs (top 10), defBody (top 10), defScope (top 10), [], []⟩) rfl
  obtain ⟨fd2, F2⟩ := c.def_ 2 (d := ⟨("need_count", none), "need_count", "need_count", defArgs (top 11), defBody (top 11), defScope (top 11), [.non], []⟩) rfl
  obtain ⟨fd3, F3⟩ := c.def_ 3 (d := ⟨("is_mark", none), "is_mark", "is_mark", defArgs (top 12), defBody (top 12), defScope (top 12), [], []⟩) rfl
  obtain ⟨fd4, F4⟩ := c.def_ 4 (d := ⟨("is_forest", none), "is_forest", "is_forest", defArgs (top 14), defBody (top 14), defScope (top 14), [], []⟩) rfl
  obtain ⟨fd5, F5⟩ := c.def_ 5 (d := ⟨("need_document", none), "need_document", "need_document", defArgs (top 15), defBody (top 15), defScope (top 15), [], []⟩) rfl
  obtain ⟨fd6, F6⟩ := c.def_ 6 (d := ⟨("parents_of", none), "parents_of", "parents_of", defArgs (top 16), defBody (top 16), defScope (top 16), [], []⟩) rfl
  obtain ⟨fd7, F7⟩ := c.def_ 7 (d := ⟨("rows_of", none), "rows_of", "rows_of", defArgs (top 17), defBody (top 17), defScope (top 17), [], []⟩) rfl
  obtain ⟨fd8, F8⟩ := c.def_ 8 (d := ⟨("Stem", some "__init__"), "__init__", "Stem.__init__", defArgs (inClass (top 20) 0), defBody (inClass (top 20) 0), defScope (inClass (top 20) 0), [], []⟩) rfl
  obtain ⟨fd9, F9⟩ := c.def_ 9 (d := ⟨("Builder", some "pair"), "pair", "Builder.pair", defArgs (inClass (top 21) 0), defBody (inClass (top 21) 0), defScope (inClass (top 21) 0), [], []⟩) rfl
  obtain ⟨fd10, F10⟩ := c.def_ 10 (d := ⟨("Builder", some "sides"), "sides", "Builder.sides", defArgs (inClass (top 21) 1), defBody (inClass (top 21) 1), defScope (inClass (top 21) 1), [], []⟩) rfl
  obtain ⟨fd11, F11⟩ := c.def_ 11 (d := ⟨("tallest_of", none), "tallest_of", "tallest_of", defArgs (top 22), defBody (top 22), defScope (top 22), [], []⟩) rfl
  obtain ⟨fd12, F12⟩ := c.def_ 12 (d := ⟨("width_in", none), "width_in", "width_in", defArgs (top 23), defBody (top 23), defScope (top 23), [], []⟩) rfl
  obtain ⟨fd13, F13⟩ := c.def_ 13 (d := ⟨("balanced_height", none), "balanced_height", "balanced_height", defArgs (top 24), defBody (top 24), defScope (top 24), [], []⟩) rfl
  obtain ⟨fd14, F14⟩ := c.def_ 14 (d := ⟨("stem_of", none), "stem_of", "stem_of", defArgs (top 25), defBody (top 25), defScope (top 25), [], []⟩) rfl
  obtain ⟨fd15, F15⟩ := c.def_ 15 (d := ⟨("shape_of", none), "shape_of", "shape_of", defArgs (top 26), defBody (top 26), defScope (top 26), [], []⟩) rfl
  obtain ⟨fd16, F16⟩ := c.def_ 16 (d := ⟨("even_pair", none), "even_pair", "even_pair", defArgs (top 27), defBody (top 27), defScope (top 27), [], []⟩) rfl
  obtain ⟨fd17, F17⟩ := c.def_ 17 (d := ⟨("row_joined", none), "row_joined", "row_joined", defArgs (top 28), defBody (top 28), defScope (top 28), [], []⟩) rfl
  obtain ⟨fd18, F18⟩ := c.def_ 18 (d := ⟨("row_cut", none), "row_cut", "row_cut", defArgs (top 29), defBody (top 29), defScope (top 29), [], []⟩) rfl
  obtain ⟨fd19, F19⟩ := c.def_ 19 (d := ⟨("reach_of", none), "reach_of", "reach_of", defArgs (top 31), defBody (top 31), defScope (top 31), [], []⟩) rfl
  obtain ⟨fd20, F20⟩ := c.def_ 20 (d := ⟨("need_shape", none), "need_shape", "need_shape", defArgs (top 33), defBody (top 33), defScope (top 33), [], []⟩) rfl
  obtain ⟨fd21, F21⟩ := c.def_ 21 (d := ⟨("need_balanced", none), "need_balanced", "need_balanced", defArgs (top 34), defBody (top 34), defScope (top 34), [], []⟩) rfl
  obtain ⟨fd22, F22⟩ := c.def_ 22 (d := ⟨("cut_shape", none), "cut_shape", "cut_shape", defArgs (top 35), defBody (top 35), defScope (top 35), [], []⟩) rfl
  obtain ⟨fd23, F23⟩ := c.def_ 23 (d := ⟨("reach", none), "reach", "reach", defArgs (top 36), defBody (top 36), defScope (top 36), [], []⟩) rfl
  obtain ⟨fd24, F24⟩ := c.def_ 24 (d := ⟨("_law_feed", none), "_law_feed", "_law_feed", defArgs (top 38), defBody (top 38), defScope (top 38), [], []⟩) rfl
  obtain ⟨fd25, F25⟩ := c.def_ 25 (d := ⟨("_law_draw", none), "_law_draw", "_law_draw", defArgs (top 39), defBody (top 39), defScope (top 39), [], []⟩) rfl
  obtain ⟨fd26, F26⟩ := c.def_ 26 (d := ⟨("_law_one", none), "_law_one", "_law_one", defArgs (top 40), defBody (top 40), defScope (top 40), [], []⟩) rfl
  obtain ⟨fd27, F27⟩ := c.def_ 27 (d := ⟨("_law_least", none), "_law_least", "_law_least", defArgs (top 41), defBody (top 41), defScope (top 41), [], []⟩) rfl
  obtain ⟨fd28, F28⟩ := c.def_ 28 (d := ⟨("_law_tallest", none), "_law_tallest", "_law_tallest", defArgs (top 42), defBody (top 42), defScope (top 42), [], []⟩) rfl
  obtain ⟨fd29, F29⟩ := c.def_ 29 (d := ⟨("_law_balanced", none), "_law_balanced", "_law_balanced", defArgs (top 43), defBody (top 43), defScope (top 43), [], []⟩) rfl
  obtain ⟨fd30, F30⟩ := c.def_ 30 (d := ⟨("_law_any_balanced", none), "_law_any_balanced", "_law_any_balanced", defArgs (top 44), defBody (top 44), defScope (top 44), [], []⟩) rfl
  obtain ⟨fd31, F31⟩ := c.def_ 31 (d := ⟨("_law_grown", none), "_law_grown", "_law_grown", defArgs (top 45), defBody (top 45), defScope (top 45), [], []⟩) rfl
  obtain ⟨fd32, F32⟩ := c.def_ 32 (d := ⟨("_law_shape", none), "_law_shape", "_law_shape", defArgs (top 46), defBody (top 46), defScope (top 46), [], []⟩) rfl
  obtain ⟨fd33, F33⟩ := c.def_ 33 (d := ⟨("_law_trouble", none), "_law_trouble", "_law_trouble", defArgs (top 47), defBody (top 47), defScope (top 47), [], []⟩) rfl
  obtain ⟨fd34, F34⟩ := c.def_ 34 (d := ⟨("_law_sizes", none), "_law_sizes", "_law_sizes", defArgs (top 48), defBody (top 48), defScope (top 48), [], []⟩) rfl
  obtain ⟨fd35, F35⟩ := c.def_ 35 (d := ⟨("_law_is_shape", none), "_law_is_shape", "_law_is_shape", defArgs (top 49), defBody (top 49), defScope (top 49), [], []⟩) rfl
  obtain ⟨fd36, F36⟩ := c.def_ 36 (d := ⟨("_law_cut", none), "_law_cut", "_law_cut", defArgs (top 50), defBody (top 50), defScope (top 50), [], []⟩) rfl
  obtain ⟨fd37, F37⟩ := c.def_ 37 (d := ⟨("_law_part", none), "_law_part", "_law_part", defArgs (top 51), defBody (top 51), defScope (top 51), [], []⟩) rfl
  obtain ⟨fd38, F38⟩ := c.def_ 38 (d := ⟨("_law_right", none), "_law_right", "_law_right", defArgs (top 52), defBody (top 52), defScope (top 52), [], []⟩) rfl
  obtain ⟨fd39, F39⟩ := c.def_ 39 (d := ⟨("_law_asked_one", none), "_law_asked_one", "_law_asked_one", defArgs (top 53), defBody (top 53), defScope (top 53), [], []⟩) rfl
  obtain ⟨fd40, F40⟩ := c.def_ 40 (d := ⟨("_law_document", none), "_law_document", "_law_document", defArgs (top 54), defBody (top 54), defScope (top 54), [], []⟩) rfl
  obtain ⟨fd41, F41⟩ := c.def_ 41 (d := ⟨("_law_wide", none), "_law_wide", "_law_wide", defArgs (top 55), defBody (top 55), defScope (top 55), [], []⟩) rfl
  obtain ⟨fd42, F42⟩ := c.def_ 42 (d := ⟨("_law_comb", none), "_law_comb", "_law_comb", defArgs (top 56), defBody (top 56), defScope (top 56), [], []⟩) rfl
  obtain ⟨fd43, F43⟩ := c.def_ 43 (d := ⟨("_law_reach", none), "_law_reach", "_law_reach", defArgs (top 57), defBody (top 57), defScope (top 57), [], []⟩) rfl
  obtain ⟨fd44, F44⟩ := c.def_ 44 (d := ⟨("_law_refused", none), "_law_refused", "_law_refused", defArgs (top 58), defBody (top 58), defScope (top 58), [], []⟩) rfl
  obtain ⟨fd45, F45⟩ := c.def_ 45 (d := ⟨("_law_spoilt", none), "_law_spoilt", "_law_spoilt", defArgs (top 59), defBody (top 59), defScope (top 59), [], []⟩) rfl
  obtain ⟨fd46, F46⟩ := c.def_ 46 (d := ⟨("_law_asked_two", none), "_law_asked_two", "_law_asked_two", defArgs (top 60), defBody (top 60), defScope (top 60), [], []⟩) rfl
  obtain ⟨fd47, F47⟩ := c.def_ 47 (d := ⟨("law", none), "law", "law", defArgs (top 61), defBody (top 61), defScope (top 61), [], []⟩) rfl
  have m0 := m
  obtain ⟨m0a, m0b⟩ := He.ba m0
  obtain ⟨m0b, m0c⟩ := He.ba m0b
  exact {
    g_isinstance := He.free_ok KX G (c.fact 0 (f := .free "isinstance") rfl)
    g_int := He.free_ok KX G (c.fact 1 (f := .free "int") rfl)
    g_bool := He.free_ok KX G (c.fact 2 (f := .free "bool") rfl)
    g_tuple := He.free_ok KX G (c.fact 3 (f := .free "tuple") rfl)
    g_str := He.free_ok KX G (c.fact 4 (f := .free "str") rfl)
    g_list := He.free_ok KX G (c.fact 5 (f := .free "list") rfl)
    g_len := He.free_ok KX G (c.fact 6 (f := .free "len") rfl)
    g_max := He.free_ok KX G (c.fact 7 (f := .free "max") rfl)
    g_min := He.free_ok KX G (c.fact 8 (f := .free "min") rfl)
    g_abs := He.free_ok KX G (c.fact 9 (f := .free "abs") rfl)
    g_sum := He.free_ok KX G (c.fact 10 (f := .free "sum") rfl)
    g_range := He.free_ok KX G (c.fact 11 (f := .free "range") rfl)
    g_enumerate := He.free_ok KX G (c.fact 12 (f := .free "enumerate") rfl)
    g_MARKS := He.str_ok KX G (c.fact 13 (f := .str "MARKS" "abcdefgh") rfl)
    g_MOST_NODES := He.int_ok KX G (c.fact 14 (f := .int "MOST_NODES" 20000) rfl)
    g_MOST_HEIGHT := He.int_ok KX G (c.fact 15 (f := .int "MOST_HEIGHT" 40) rfl)
    x_MatchError := ⟨He.glo_ok KX G (c.fact 16 (f := .glo "MatchError") rfl), (He.exc_ok (c.fact 17 (f := .exc "MatchError") rfl)).1, (He.exc_ok (c.fact 17 (f := .exc "MatchError") rfl)).2.1, (He.exc_ok (c.fact 17 (f := .exc "MatchError") rfl)).2.2.1, (He.exc_ok (c.fact 17 (f := .exc "MatchError") rfl)).2.2.2⟩
    x_BadDocument := ⟨He.glo_ok KX G (c.fact 18 (f := .glo "BadDocument") rfl), (He.exc_ok (c.fact 19 (f := .exc "BadDocument") rfl)).1, (He.exc_ok (c.fact 19 (f := .exc "BadDocument") rfl)).2.1, (He.exc_ok (c.fact 19 (f := .exc "BadDocument") rfl)).2.2.1, (He.exc_ok (c.fact 19 (f := .exc "BadDocument") rfl)).2.2.2⟩
    x_BadShape := ⟨He.glo_ok KX G (c.fact 20 (f := .glo "BadShape") rfl), (He.exc_ok (c.fact 21 (f := .exc "BadShape") rfl)).1, (He.exc_ok (c.fact 21 (f := .exc "BadShape") rfl)).2.1, (He.exc_ok (c.fact 21 (f := .exc "BadShape") rfl)).2.2.1, (He.exc_ok (c.fact 21 (f := .exc "BadShape") rfl)).2.2.2⟩
    x_BadCount := ⟨He.glo_ok KX G (c.fact 22 (f := .glo "BadCount") rfl), (He.exc_ok (c.fact 23 (f := .exc "BadCount") rfl)).1, (He.exc_ok (c.fact 23 (f := .exc "BadCount") rfl)).2.1, (He.exc_ok (c.fact 23 (f := .exc "BadCount") rfl)).2.2.1, (He.exc_ok (c.fact 23 (f := .exc "BadCount") rfl)).2.2.2⟩
    x_BadBalance := ⟨He.glo_ok KX G (c.fact 24 (f := .glo "BadBalance") rfl), (He.exc_ok (c.fact 25 (f := .exc "BadBalance") rfl)).1, (He.exc_ok (c.fact 25 (f := .exc "BadBalance") rfl)).2.1, (He.exc_ok (c.fact 25 (f := .exc "BadBalance") rfl)).2.2.1, (He.exc_ok (c.fact 25 (f := .exc "BadBalance") rfl)).2.2.2⟩
    c_Stem := He.cls_ok (c.fact 27 (f := .cls "Stem") rfl)
    n_Stem_left := He.noat_ok (c.fact 28 (f := .noat "Stem" "left") rfl)
    n_Stem_right := He.noat_ok (c.fact 29 (f := .noat "Stem" "right") rfl)
    n_Stem_width := He.noat_ok (c.fact 30 (f := .noat "Stem" "width") rfl)
    n_Stem_height := He.noat_ok (c.fact 31 (f := .noat "Stem" "height") rfl)
    k_Stem := ⟨He.glo_ok KX G (c.fact 26 (f := .glo "Stem") rfl), _, fd8, _, _, F8, He.mkr_ok (c.fact 32 (f := .mkr "Stem") rfl), F8.bindsN (ps := ["self", "left", "right"]) (fun _ _ _ _ _ _ us hl => match us, hl with | [_, _, _], _ => rfl)⟩
    c_Builder := He.cls_ok (c.fact 34 (f := .cls "Builder") rfl)
    b_Builder := ⟨He.glo_ok KX G (c.fact 33 (f := .glo "Builder") rfl), m0a, He.eqO_ok m0b, m0c⟩
    m_Builder_pair := ⟨_, fd9, _, _, F9, He.meth_ok (c.fact 35 (f := .meth "Builder" "pair") rfl), F9.bindsN (ps := ["self", "left", "right"]) (fun _ _ _ _ _ _ us hl => match us, hl with | [_, _, _], _ => rfl)⟩
    m_Builder_sides := ⟨_, fd10, _, _, F10, He.meth_ok (c.fact 36 (f := .meth "Builder" "sides") rfl), F10.bindsN (ps := ["self", "tree"]) (fun _ _ _ _ _ _ us hl => match us, hl with | [_, _], _ => rfl)⟩
    e_MatchError_BadShape := He.exm_ok (c.fact 37 (f := .exm "MatchError" "BadShape" false) rfl)
    e_BadDocument_BadShape := He.exm_ok (c.fact 38 (f := .exm "BadDocument" "BadShape" false) rfl)
    e_BadShape_BadShape := He.exm_ok (c.fact 39 (f := .exm "BadShape" "BadShape" true) rfl)
    e_BadCount_BadShape := He.exm_ok (c.fact 40 (f := .exm "BadCount" "BadShape" false) rfl)
    e_BadBalance_BadShape := He.exm_ok (c.fact 41 (f := .exm "BadBalance" "BadShape" false) rfl)
    e_MatchError_BadBalance := He.exm_ok (c.fact 42 (f := .exm "MatchError" "BadBalance" false) rfl)
    e_BadDocument_BadBalance := He.exm_ok (c.fact 43 (f := .exm "BadDocument" "BadBalance" false) rfl)
    e_BadShape_BadBalance := He.exm_ok (c.fact 44 (f := .exm "BadShape" "BadBalance" false) rfl)
    e_BadCount_BadBalance := He.exm_ok (c.fact 45 (f := .exm "BadCount" "BadBalance" false) rfl)
    e_BadBalance_BadBalance := He.exm_ok (c.fact 46 (f := .exm "BadBalance" "BadBalance" true) rfl)
    e_MatchError_BadCount := He.exm_ok (c.fact 47 (f := .exm "MatchError" "BadCount" false) rfl)
    e_BadDocument_BadCount := He.exm_ok (c.fact 48 (f := .exm "BadDocument" "BadCount" false) rfl)
    e_BadShape_BadCount := He.exm_ok (c.fact 49 (f := .exm "BadShape" "BadCount" false) rfl)
    e_BadCount_BadCount := He.exm_ok (c.fact 50 (f := .exm "BadCount" "BadCount" true) rfl)
    e_BadBalance_BadCount := He.exm_ok (c.fact 51 (f := .exm "BadBalance" "BadCount" false) rfl)
    e_MatchError_BadDocument := He.exm_ok (c.fact 52 (f := .exm "MatchError" "BadDocument" false) rfl)
    e_BadDocument_BadDocument := He.exm_ok (c.fact 53 (f := .exm "BadDocument" "BadDocument" true) rfl)
    e_BadShape_BadDocument := He.exm_ok (c.fact 54 (f := .exm "BadShape" "BadDocument" false) rfl)
    e_BadCount_BadDocument := He.exm_ok (c.fact 55 (f := .exm "BadCount" "BadDocument" false) rfl)
    e_BadBalance_BadDocument := He.exm_ok (c.fact 56 (f := .exm "BadBalance" "BadDocument" false) rfl)
    d_is_integer := ⟨_, fd0, _, _, F0, He.glo_ok KX G (c.fact 57 (f := .glo "is_integer") rfl), F0.bindsN (ps := ["thing"]) (fun _ _ _ _ _ _ us hl => match us, hl with | [_], _ => rfl)⟩
    d_is_below := ⟨_, fd1, _, _, F1, He.glo_ok KX G (c.fact 58 (f := .glo "is_below") rfl), F1.bindsN (ps := ["thing", "bound"]) (fun _ _ _ _ _ _ us hl => match us, hl with | [_, _], _ => rfl)⟩
    d_need_count := ⟨_, fd2, _, _, F2, He.glo_ok KX G (c.fact 59 (f := .glo "need_count") rfl), full1 (F2.binds1 (ps := ["thing", "most"]) 2 1 (by intro z; cases z) rfl (fun _ _ _ _ _ _ _ us its h1 h2 => match us, h1, its, h2 with | [_, _], _, [_], _ => ⟨_, rfl, rfl⟩))⟩
    d_is_mark := ⟨_, fd3, _, _, F3, He.glo_ok KX G (c.fact 60 (f := .glo "is_mark") rfl), F3.bindsN (ps := ["thing"]) (fun _ _ _ _ _ _ us hl => match us, hl with | [_], _ => rfl)⟩
    d_is_forest := ⟨_, fd4, _, _, F4, He.glo_ok KX G (c.fact 61 (f := .glo "is_forest") rfl), F4.bindsN (ps := ["thing"]) (fun _ _ _ _ _ _ us hl => match us, hl with | [_], _ => rfl)⟩
    d_need_document := ⟨_, fd5, _, _, F5, He.glo_ok KX G (c.fact 62 (f := .glo "need_document") rfl), F5.bindsN (ps := ["document"]) (fun _ _ _ _ _ _ us hl => match us, hl with | [_], _ => rfl)⟩
    d_parents_of := ⟨_, fd6, _, _, F6, He.glo_ok KX G (c.fact 63 (f := .glo "parents_of") rfl), F6.bindsN (ps := ["document"]) (fun _ _ _ _ _ _ us hl => match us, hl with | [_], _ => rfl)⟩
    d_rows_of := ⟨_, fd7, _, _, F7, He.glo_ok KX G (c.fact 64 (f := .glo "rows_of") rfl), F7.bindsN (ps := ["document"]) (fun _ _ _ _ _ _ us hl => match us, hl with | [_], _ => rfl)⟩
    d_tallest_of := ⟨_, fd11, _, _, F11, He.glo_ok KX G (c.fact 65 (f := .glo "tallest_of") rfl), F11.bindsN (ps := ["width"]) (fun _ _ _ _ _ _ us hl => match us, hl with | [_], _ => rfl)⟩
    d_width_in := ⟨_, fd12, _, _, F12, He.glo_ok KX G (c.fact 66 (f := .glo "width_in") rfl), F12.bindsN (ps := ["thing", "most"]) (fun _ _ _ _ _ _ us hl => match us, hl with | [_, _], _ => rfl)⟩
    d_balanced_height := ⟨_, fd13, _, _, F13, He.glo_ok KX G (c.fact 67 (f := .glo "balanced_height") rfl), F13.bindsN (ps := ["shape"]) (fun _ _ _ _ _ _ us hl => match us, hl with | [_], _ => rfl)⟩
    d_stem_of := ⟨_, fd14, _, _, F14, He.glo_ok KX G (c.fact 68 (f := .glo "stem_of") rfl), F14.bindsN (ps := ["shape"]) (fun _ _ _ _ _ _ us hl => match us, hl with | [_], _ => rfl)⟩
    d_shape_of := ⟨_, fd15, _, _, F15, He.glo_ok KX G (c.fact 69 (f := .glo "shape_of") rfl), F15.bindsN (ps := ["tree"]) (fun _ _ _ _ _ _ us hl => match us, hl with | [_], _ => rfl)⟩
    d_even_pair := ⟨_, fd16, _, _, F16, He.glo_ok KX G (c.fact 70 (f := .glo "even_pair") rfl), F16.bindsN (ps := ["builder", "left", "right"]) (fun _ _ _ _ _ _ us hl => match us, hl with | [_, _, _], _ => rfl)⟩
    d_row_joined := ⟨_, fd17, _, _, F17, He.glo_ok KX G (c.fact 71 (f := .glo "row_joined") rfl), F17.bindsN (ps := ["builder", "left", "right"]) (fun _ _ _ _ _ _ us hl => match us, hl with | [_, _, _], _ => rfl)⟩
    d_row_cut := ⟨_, fd18, _, _, F18, He.glo_ok KX G (c.fact 72 (f := .glo "row_cut") rfl), F18.bindsN (ps := ["builder", "tree", "many"]) (fun _ _ _ _ _ _ us hl => match us, hl with | [_, _, _], _ => rfl)⟩
    d_reach_of := ⟨_, fd19, _, _, F19, He.glo_ok KX G (c.fact 73 (f := .glo "reach_of") rfl), F19.bindsN (ps := ["document"]) (fun _ _ _ _ _ _ us hl => match us, hl with | [_], _ => rfl)⟩
    d_need_shape := ⟨_, fd20, _, _, F20, He.glo_ok KX G (c.fact 74 (f := .glo "need_shape") rfl), F20.bindsN (ps := ["shape"]) (fun _ _ _ _ _ _ us hl => match us, hl with | [_], _ => rfl)⟩
    d_need_balanced := ⟨_, fd21, _, _, F21, He.glo_ok KX G (c.fact 75 (f := .glo "need_balanced") rfl), F21.bindsN (ps := ["shape"]) (fun _ _ _ _ _ _ us hl => match us, hl with | [_], _ => rfl)⟩
    d_cut_shape := ⟨_, fd22, _, _, F22, He.glo_ok KX G (c.fact 76 (f := .glo "cut_shape") rfl), F22.bindsN (ps := ["shape", "many"]) (fun _ _ _ _ _ _ us hl => match us, hl with | [_, _], _ => rfl)⟩
    d_reach := ⟨_, fd23, _, _, F23, He.glo_ok KX G (c.fact 77 (f := .glo "reach") rfl), F23.bindsN (ps := ["document"]) (fun _ _ _ _ _ _ us hl => match us, hl with | [_], _ => rfl)⟩
    d__law_feed := ⟨_, fd24, _, _, F24, He.glo_ok KX G (c.fact 78 (f := .glo "_law_feed") rfl), F24.bindsN (ps := ["script", "k"]) (fun _ _ _ _ _ _ us hl => match us, hl with | [_, _], _ => rfl)⟩
    d__law_draw := ⟨_, fd25, _, _, F25, He.glo_ok KX G (c.fact 79 (f := .glo "_law_draw") rfl), F25.bindsN (ps := ["feed", "many"]) (fun _ _ _ _ _ _ us hl => match us, hl with | [_, _], _ => rfl)⟩
    d__law_one := ⟨_, fd26, _, _, F26, He.glo_ok KX G (c.fact 80 (f := .glo "_law_one") rfl), F26.bindsN (ps := ["feed", "things"]) (fun _ _ _ _ _ _ us hl => match us, hl with | [_, _], _ => rfl)⟩
    d__law_least := ⟨_, fd27, _, _, F27, He.glo_ok KX G (c.fact 81 (f := .glo "_law_least") rfl), F27.bindsN (ps := ["height"]) (fun _ _ _ _ _ _ us hl => match us, hl with | [_], _ => rfl)⟩
    d__law_tallest := ⟨_, fd28, _, _, F28, He.glo_ok KX G (c.fact 82 (f := .glo "_law_tallest") rfl), F28.bindsN (ps := ["width"]) (fun _ _ _ _ _ _ us hl => match us, hl with | [_], _ => rfl)⟩
    d__law_balanced := ⟨_, fd29, _, _, F29, He.glo_ok KX G (c.fact 83 (f := .glo "_law_balanced") rfl), F29.bindsN (ps := ["feed", "width", "height"]) (fun _ _ _ _ _ _ us hl => match us, hl with | [_, _, _], _ => rfl)⟩
    d__law_any_balanced := ⟨_, fd30, _, _, F30, He.glo_ok KX G (c.fact 84 (f := .glo "_law_any_balanced") rfl), F30.bindsN (ps := ["feed", "most"]) (fun _ _ _ _ _ _ us hl => match us, hl with | [_, _], _ => rfl)⟩
    d__law_grown := ⟨_, fd31, _, _, F31, He.glo_ok KX G (c.fact 85 (f := .glo "_law_grown") rfl), F31.bindsN (ps := ["feed", "many", "spoil"]) (fun _ _ _ _ _ _ us hl => match us, hl with | [_, _, _], _ => rfl)⟩
    d__law_shape := ⟨_, fd32, _, _, F32, He.glo_ok KX G (c.fact 86 (f := .glo "_law_shape") rfl), F32.bindsN (ps := ["feed", "most"]) (fun _ _ _ _ _ _ us hl => match us, hl with | [_, _], _ => rfl)⟩
    d__law_trouble := ⟨_, fd33, _, _, F33, He.glo_ok KX G (c.fact 87 (f := .glo "_law_trouble") rfl), F33.bindsN (ps := ["thing"]) (fun _ _ _ _ _ _ us hl => match us, hl with | [_], _ => rfl)⟩
    d__law_sizes := ⟨_, fd34, _, _, F34, He.glo_ok KX G (c.fact 88 (f := .glo "_law_sizes") rfl), F34.bindsN (ps := ["shape"]) (fun _ _ _ _ _ _ us hl => match us, hl with | [_], _ => rfl)⟩
    d__law_is_shape := ⟨_, fd35, _, _, F35, He.glo_ok KX G (c.fact 89 (f := .glo "_law_is_shape") rfl), F35.bindsN (ps := ["thing"]) (fun _ _ _ _ _ _ us hl => match us, hl with | [_], _ => rfl)⟩
    d__law_cut := ⟨_, fd36, _, _, F36, He.glo_ok KX G (c.fact 90 (f := .glo "_law_cut") rfl), F36.bindsN (ps := ["shape", "many"]) (fun _ _ _ _ _ _ us hl => match us, hl with | [_, _], _ => rfl)⟩
    d__law_part := ⟨_, fd37, _, _, F37, He.glo_ok KX G (c.fact 91 (f := .glo "_law_part") rfl), F37.bindsN (ps := ["part", "width"]) (fun _ _ _ _ _ _ us hl => match us, hl with | [_, _], _ => rfl)⟩
    d__law_right := ⟨_, fd38, _, _, F38, He.glo_ok KX G (c.fact 92 (f := .glo "_law_right") rfl), F38.bindsN (ps := ["shape", "many", "counts"]) (fun _ _ _ _ _ _ us hl => match us, hl with | [_, _, _], _ => rfl)⟩
    d__law_asked_one := ⟨_, fd39, _, _, F39, He.glo_ok KX G (c.fact 93 (f := .glo "_law_asked_one") rfl), F39.bindsN (ps := ["script"]) (fun _ _ _ _ _ _ us hl => match us, hl with | [_], _ => rfl)⟩
    d__law_document := ⟨_, fd40, _, _, F40, He.glo_ok KX G (c.fact 94 (f := .glo "_law_document") rfl), F40.bindsN (ps := ["feed", "most"]) (fun _ _ _ _ _ _ us hl => match us, hl with | [_, _], _ => rfl)⟩
    d__law_wide := ⟨_, fd41, _, _, F41, He.glo_ok KX G (c.fact 95 (f := .glo "_law_wide") rfl), F41.bindsN (ps := ["feed", "most"]) (fun _ _ _ _ _ _ us hl => match us, hl with | [_, _], _ => rfl)⟩
    d__law_comb := ⟨_, fd42, _, _, F42, He.glo_ok KX G (c.fact 96 (f := .glo "_law_comb") rfl), F42.bindsN (ps := ["feed"]) (fun _ _ _ _ _ _ us hl => match us, hl with | [_], _ => rfl)⟩
    d__law_reach := ⟨_, fd43, _, _, F43, He.glo_ok KX G (c.fact 97 (f := .glo "_law_reach") rfl), F43.bindsN (ps := ["document"]) (fun _ _ _ _ _ _ us hl => match us, hl with | [_], _ => rfl)⟩
    d__law_refused := ⟨_, fd44, _, _, F44, He.glo_ok KX G (c.fact 98 (f := .glo "_law_refused") rfl), F44.bindsN (ps := ["thing"]) (fun _ _ _ _ _ _ us hl => match us, hl with | [_], _ => rfl)⟩
    d__law_spoilt := ⟨_, fd45, _, _, F45, He.glo_ok KX G (c.fact 99 (f := .glo "_law_spoilt") rfl), F45.bindsN (ps := ["feed", "document"]) (fun _ _ _ _ _ _ us hl => match us, hl with | [_, _], _ => rfl)⟩
    d__law_asked_two := ⟨_, fd46, _, _, F46, He.glo_ok KX G (c.fact 100 (f := .glo "_law_asked_two") rfl), F46.bindsN (ps := ["script"]) (fun _ _ _ _ _ _ us hl => match us, hl with | [_], _ => rfl)⟩
    d_law := ⟨_, fd47, _, _, F47, He.glo_ok KX G (c.fact 101 (f := .glo "law") rfl), F47.bindsN (ps := ["script"]) (fun _ _ _ _ _ _ us hl => match us, hl with | [_], _ => rfl)⟩
  }
theorem law_def {K : PySem.W.Frag} (c : He.SaysD fa fn K) : ∃ fd, FunD K "law" "law" (defArgs (top 61)) (defBody (top 61)) (defScope (top 61)) [] [] (He.ga K "law") fd := by
  obtain ⟨fd, F⟩ := c.def_ 47 (d := ⟨("law", none), "law", "law", defArgs (top 61), defBody (top 61), defScope (top 61), [], []⟩) rfl
  exact ⟨fd, F⟩
theorem law_glo {K : PySem.W.Frag} {h : Heap} {mg : Str → Option Value} (KX : K.In h) (G : h.Ns mainGlobals mg) (c : He.SaysD fa fn K) : mg "law" = some (.ref (He.ga K "law")) := He.glo_ok KX G (c.fact 101 (f := .glo "law") rfl)
abbrev R : PySem.W.OpenRow := PySem.W.OpenLaw.row PySem.Challenge.rw_lawfulpages_k63_cut_shapes_and_reach_by
abbrev hk : PySem.W.Hook := He.hookX 6 fa fn [] [] exB
def ob (s : PySem.W.SharedT) : He.AlX := He.obsX 6 fa fn [] [] exB (HandSHeadRun.getT s)
theorem ob_eq (s : PySem.W.SharedT) : ob s = hk.obs s.abs := He.obsX_eq (HandSHeadRun.getT_eq s)
theorem run (w : World) : HandSHeadRun.RunEq R (PySem.W.view R.prog [lawAt]) hk ob 6000 names w := by
  intro os
  kernel_rfl

end K63

set_option maxHeartbeats 0
open PySem PySem.W PySem.Calls PyProof.Rows
theorem PySem.Challenge.cw_lawfulpages_k63_cut_shapes_and_reach_by_holds : PySem.Challenge.rw_lawfulpages_k63_cut_shapes_and_reach_by.Holds := by
  w_on; o_law
  refine HandSHeadRun.head_any (r := OpenLaw.row PySem.Challenge.rw_lawfulpages_k63_cut_shapes_and_reach_by) (q := view (OpenLaw.row PySem.Challenge.rw_lawfulpages_k63_cut_shapes_and_reach_by).prog [K63.lawAt]) (H := K63.hk) (ob := K63.ob) (M := 6000) (loose := K63.names)
    (d := HandSHeadRun.topDef (OpenLaw.row PySem.Challenge.rw_lawfulpages_k63_cut_shapes_and_reach_by).prog K63.lawAt) (kwd := []) K63.ob_eq
    (by kernel_rfl) (fun s => by kernel_rfl) K63.run (by kernel_rfl) (by kernel_rfl) (by kernel_rfl) (by rfl) (by first | assumption | decide +kernel) (by decide +kernel) ⟨rfl, rfl, rfl, rfl, rfl, by decide +kernel⟩ ?hw ?hc
  case hw => w_witness2
  case hc =>
    refine KB.walk_ofEB (l := PySem.Challenge.rw_lawfulpages_k63_cut_shapes_and_reach_by) (n := 63) (k := 151) (x := "script") rfl (by decide) (by kernel_rfl) ⟨rfl, by decide, by decide⟩ ?F
    intro w mg fa h Y G hmg0
    obtain ⟨K, KX, c⟩ := Y
    have hmg : mg ("law" : PySem.Str) = some (.ref fa) := by
      have e : (HandSHeadRun.topDef (OpenLaw.row PySem.Challenge.rw_lawfulpages_k63_cut_shapes_and_reach_by).prog K63.lawAt).name = ("law" : PySem.Str) := by kernel_rfl
      rw [← e]
      exact hmg0
    have cd := c.t.d
    have T := K63.txt_of KX G cd c.more
    obtain ⟨fd, F⟩ := K63.law_def cd
    have e := hmg.symm.trans (K63.law_glo KX G cd)
    cases e
    refine ⟨K, fd, K63.spLaw K, KX, ?_, fun H a ns hl hb _ hS => ⟨a, ns, rfl, hS, hb, hl, fun _ => rfl⟩, fun base _ _ => ?_⟩
    · have b := L2.FunD.bindsA (ps := ["script"]) F fun _ _ _ _ _ _ us hl => match us, hl with | [_], _ => rfl
      exact fun s v => b s [v] rfl
    · exact KB.fn_body F K63.sc_law (fun vs H Q E h => by obtain ⟨_, _, rfl, _⟩ := h; rfl) (K63.lawB T)
#print axioms PySem.Challenge.cw_lawfulpages_k63_cut_shapes_and_reach_by_holds
end
end
