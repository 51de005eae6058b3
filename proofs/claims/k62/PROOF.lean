import PyProof.Rows.All
import Wide.All
import OpenK.AllK
import Wide.FinOn
import KE.KStateDown
import HandS.ForExc
import HandS.Dict
import HandS.WordsDict
import HandS.Defaults
import HandS.IsInst
import HandS.Style
import HandS.Wide
import HandS.WideBits
import HandS.EndBits
import HandS.Head0
import HandS.Head1
import HandS.Head2
import HandS.HeadEnd
import HandS.HeadHook1
import HandS.HeadHook2
import HandS.Steps
import HandS.Evl
import HandS.Zip
import HandS.Comp
import KE.KRevSl
import HandS.TryMany
import HandS.HeadHook4
import PySem.Challenge.RW_lawfulpages_k62_joined_shapes_and_rows_o
set_option Elab.async false
set_option linter.all false
set_option maxRecDepth 100000
set_option maxHeartbeats 4000000
namespace KB
open PySem PySem.Spec PyProof.Rows L2

/-! calls of the text's own defs, told by their names -/
structure Cal (P : Program) (w : World) (K : PySem.W.Frag) (mg : Str → Option Value) (base : Heap) (k : Nat) (x : Str) (sp : Sp) : Prop where
  ex : ∃ (f : Addr) (fd : FuncData) (ps : List Str), mg x = some (.ref f) ∧ PySem.W.keepIn K (.ref f) = true ∧ Binds K fd ps [] ∧
    FnOk P w K mg base (L2.CX P w) k f fd ps sp
structure Met (P : Program) (w : World) (K : PySem.W.Frag) (mg : Str → Option Value) (base : Heap) (k : Nat) (C : Addr) (m : Str) (sp : Sp) : Prop where
  cl : Cls K C
  ex : ∃ (f : Addr) (fd : FuncData) (ps : List Str), Meth K C m f ∧ Binds K fd ps [] ∧ FnOk P w K mg base (L2.CX P w) k f fd ps sp
structure Mak (P : Program) (w : World) (K : PySem.W.Frag) (mg : Str → Option Value) (base : Heap) (k : Nat) (x : Str) (C : Addr) (sp : Sp) : Prop where
  at_ : mg x = some (.ref C)
  ex : ∃ (f : Addr) (fd : FuncData) (ps : List Str), Mk K C f ∧ Binds K fd ps [] ∧ FnOk P w K mg base (L2.CX P w) k f fd ps sp

section
variable {X : Cx} {k j : Nat} {x m : Str} {sp : Sp} {W : WX} {p pos apos : Pos} {e o : Expr} {es : List Expr} {t : TA} {ta : TE} {C : Addr}
theorem pe_cal (c : Cal X.prog X.w X.K X.mg X.base k x sp) (hr : Room j X.A) (hk : k ≤ j) (tk : Takes X W) (ha : PA X (e :: es) t) (hg : Gl X x := by rfl)
    (hdb : (x == ("__debug__" : Str)) = false := by decide) (he : starEach (e :: es) X.env = (false, eval e X.env) :: starEach es X.env := by rfl)
    (hpl : (backTo pos (starEach es X.env)).any (·.1) = false := by rfl) :
    PE X (.Call (.Name x p) (e :: es) [] pos) (tCallS sp (WE W) t) := by
  obtain ⟨f, fd, ps, hm, hkp, hb, F⟩ := c.ex
  exact pe_callS F (hr.mono hk) hg hm hkp hb (fun σ => passAt tk σ) ha hdb he hpl
/-- how a method's call is read: the parts by computation -/
structure MF (X : Cx) (o : Expr) (m : Str) (apos : Pos) (e : Expr) (es : List Expr) (pos : Pos) (pl : Sem Bool) : Prop where
  h1 : starEach (e :: es) X.env =
    (false, eval e X.env) :: starEach es X.env
  h2 : (backTo pos (starEach es X.env)).any
    (·.1) = false
  h3 : eval (.Call (.Attribute o m apos) (e :: es) [] pos) X.env =
    eval o X.env >>= fun ov => standAt apos.atName >>= fun _ => holding [ov] (getMethod ov m pl) >>= fun r =>
      callWith pos r.1 r.2 (backTo pos (starEach (e :: es) X.env))
        (backToKw pos (keywordEach [] X.env))
theorem pe_met {pl : Sem Bool} (c : Met X.prog X.w X.K X.mg X.base k C m sp) (hr : Room j X.A) (hk : k ≤ j) (ho : PE X o ta) (ha : PA X (e :: es) t)
    (M : MF X o m apos e es pos pl := by exact ⟨by rfl, by rfl, by rfl⟩) : PE X (.Call (.Attribute o m apos) (e :: es) [] pos) (tMeth C m sp [] E0 ta t) := by
  obtain ⟨f, fd, ps, hm, hb, F⟩ := c.ex
  exact pe_meth ho c.cl hm F (hr.mono hk) hb .nil passL ha M.h1 M.h2 M.h3
theorem pe_mak (c : Mak X.prog X.w X.K X.mg X.base k x C sp) (hr : Room j X.A) (hk : k + 1 ≤ j) (ha : PA X (e :: es) t) (hg : Gl X x := by rfl)
    (hdb : (x == ("__debug__" : Str)) = false := by decide) (he : starEach (e :: es) X.env = (false, eval e X.env) :: starEach es X.env := by rfl)
    (hpl : (backTo pos (starEach es X.env)).any (·.1) = false := by rfl) :
    PE X (.Call (.Name x p) (e :: es) [] pos) (tMake C sp [] E0 t) := by
  obtain ⟨f, fd, ps, hm, hb, F⟩ := c.ex
  exact pe_make hm F (hr.mono hk) hg c.at_ hb .nil passL ha hdb he hpl
end

/-! a class of the text without an __init__ -/
structure Bare (K : PySem.W.Frag) (mg : Str → Option Value) (x : Str) (C : Addr) : Prop where
  at_ : mg x = some (.ref C)
  makes : PySem.W.makesIn K C = true
  ini : PySem.W.findIn K (.ref C) "__init__" = some (some (.builtin "object.__init__"))
  kp : PySem.W.keepIn K (.ref C) = true
def tBare (C : Addr) : TE := fun _ H Q => ∀ x dx, H x = none → H dx = none → dx ≠ x → Q (.ref x) (upd (upd H dx (.own x)) x (.ins C dx []))
theorem pe_bare {X : Cx} {x : Str} {C : Addr} {p pos : Pos} (b : Bare X.K X.mg x C) (hg : Gl X x := by rfl) (hdb : (x == ("__debug__" : Str)) = false := by decide) : PE X (.Call (.Name x p) [] [] pos) (tBare C) := by
  refine ⟨fun pins s σ H Q I h => ?_⟩
  refine wpAny_Call_Name_kw (ld_glob I hg b.at_ ?_ hdb)
  refine PySem.W.callWith_K0 I.kIn b.kp ?_
  have I2 := Inv.made (C := C) I
  have hq := h (s.heap.objs.size + 1) s.heap.objs.size (I.hok.fresh (Nat.le_succ _)) (I.hok.fresh (Nat.le_refl _)) (Nat.ne_of_lt (Nat.lt_succ_self _))
  have kin := I.kIn
  have Y := PySem.W.makes_of (M := model X.prog X.w) I2.kIn b.makes
  refine wpAny_call ?_
  obtain ⟨hh, g, d, t, os⟩ := s
  refine PySem.W.make_core (PySem.W.makes_of kin b.makes) (PySem.W.looks_findIn kin b.ini) (fun self => PySem.W.Looks.of_pure (PySem.W.oi_bind self)) (.inr ⟨rfl, rfl⟩) ?_
  have e2 : ((hh.push PySem.W.emptyDict).push (PySem.W.instObj C hh.objs.size)).get? (hh.objs.size + 1) = some (PySem.W.instObj C hh.objs.size) := by
    have z := Heap.get?_push_size (hh.push PySem.W.emptyDict) (o := PySem.W.instObj C hh.objs.size) rfl
    rwa [Heap.size_push] at z
  have l1 : PySem.W.Looks (model X.prog X.w) ((hh.push PySem.W.emptyDict).push (PySem.W.instObj C hh.objs.size)) (typeOf (.ref (hh.objs.size + 1))) (.ref C) :=
    (PySem.W.Looks.ld e2).andThen .now
  refine codeAny_call_builtin PySem.W.oi_plain PySem.W.entry_oi ?_
  show wpAny _ _ (checkBuiltinCall "object.__init__" ⟨[.ref (hh.objs.size + 1)], []⟩) _ _ _
  refine PySem.W.check_slot (i := "object.__init__") (owner := "object") (n := "__init__") (self := .ref (hh.objs.size + 1)) (rest := []) (kw := []) PySem.W.oi_kind PySem.W.oi_split (l1.andThen Y.top) (PySem.W.oi_args _) ?_
  show wpAny _ _ (Builtin.«object.__init__» ⟨[.ref (hh.objs.size + 1)], []⟩) _ _ _
  rw [PySem.W.oi_run]
  refine wpAny_pure ⟨rfl, ?_⟩
  exact ⟨.ref (hh.objs.size + 1), _, I2, rfl, hq⟩

/-! a def of the text by the head's facts -/
section
variable {P : Program} {w : World} {K : PySem.W.Frag} {mg : Str → Option Value} {base : Heap}
/-- its body keeps the promise: what is to be shown of it -/
def Body (P : Program) (w : World) (K : PySem.W.Frag) (mg : Str → Option Value) (base : Heap) (k : Nat) (N : List Str) (qual : Str) (sc : Scope) (body : List Stmt) (sp : Sp) : Prop :=
  ∀ (f : Addr) (cdv : Value) (A : Around) (outer : List Env) (s : Shared) (H : Hp) (vs : List V) (Q : VK) (E : XK), Room k (A.deeper (envOfC qual sc s.heap.objs.size f cdv)) → sp vs H Q E →
    ∃ t, PSs (cxOf (L2.CX P w) P w K mg base N qual sc f cdv A outer s H E) body t ∧ t { nx := fun _ H' => Q .non H', rt := Q } (start N vs) H
theorem fn_body {x qual : Str} {params : Arguments} {body : List Stmt} {sc : Scope} {dvs : List V} {kws : List (Str × V)} {f : Addr} {fd : FuncData} {N ps : List Str} {k : Nat} {sp : Sp}
    (F : FunD K x qual params body sc dvs kws f fd) (S : FnScope N ps sc) (len : ∀ vs H Q E, sp vs H Q E → vs.length = ps.length) (B : Body P w K mg base k N qual sc body sp) :
    FnOk P w K mg base (L2.CX P w) (k + 1) f fd ps sp := F.ok S len fun cdv A outer s H vs Q E hr h => B f cdv A outer s H vs Q E hr h
/-- a parameter list without defaults binds -/
def Plain (ps : List Str) (x qual : Str) (params : Arguments) (body : List Stmt) (sc : Scope) : Prop :=
  ∀ (kV doc pm : Value) (an : Option Addr) (cdv ct : Value) (us : List Value), us.length = ps.length → bindArgs (PySem.W.fnOf x qual params body sc .none kV doc pm an cdv ct) ⟨us, []⟩ = pure (ps.zip us)
end

/-! the end -/
theorem walk_ofEB {l : PySem.W.OpenLaw} {n k : Nat} {q : Program} {loose : List Str} {XP : (Str → Option Value) → Heap → Prop} {YP : World → Heap → Prop} {d : DefRec} {x : Str}
    (hn : l.most = some n) (hn2 : n ≤ sizeLine) (hdf : d.params.defaults = []) (hr : Room k callerA)
    (F : ∀ (w : World) (mg : Str → Option Value) (fa : Addr) (h : Heap), YP w h → h.Ns mainGlobals mg → mg d.name = some (.ref fa) →
      ∃ (K : PySem.W.Frag) (fd : FuncData) (sp : Sp), K.In h ∧ (∀ (s : Shared) (u : Value), BindsTo s fd ⟨[u], []⟩ [(x, u)]) ∧
        (∀ (H : Hp) (a : Addr) (ns : List Int), ns.length ≤ n → (∀ z ∈ ns, Builtin.Int.intBits z ≤ 1048576) → Only H → SqL K H a (ns.map V.int) → sp [.ref a] H (fun v _ => v = .bl true) fun _ _ _ => False) ∧
        ∀ base : Heap, K.In base → base.Ns mainGlobals mg → FnOk l.prog w K mg base (L2.CX l.prog w) k fa fd [x] sp) :
    PySem.W.WalkO q loose XP YP l.row.toRowW d [] (fun f vs => PySem.call f vs) := by
  refine Att.attach_callB hn hdf ?_
  intro w s₀ s₁ mg mb fa o pm cd doc a vs ns G Y ho hd hcd hmg hobj hints hlen hbits hg
  obtain ⟨K, fd, sp, KX, hb, hsp, hF⟩ := F w mg fa _ Y G.T.g hmg
  refine law_call KX G.T.g G.T.b G.T.builtins G.T.nolimit hg hobj hints (Nat.le_trans hlen hn2) hr hF hb (fun H hO hS => hsp H a ns hlen hbits hO hS) ?_
  intro H e s' z
  obtain ⟨_, _, _, _, _, _, _, _, _, _, _, _, y⟩ := z
  exact y

/-! values' types, for isinstance with a built-in class -/
def tyN (H : Hp) : V → Option String
  | .non => some "NoneType"
  | .bl _ => some "bool"
  | .int _ => some "int"
  | .str _ => some "str"
  | .ref a => match H a with
    | some (.lst _) => some "list"
    | some (.tup _) => some "tuple"
    | some (.dK _) => some "dict"
    | some (.dT _) => some "dict"
    | some (.frz _ (.lst _)) => some "list"
    | _ => none
  | _ => none
theorem tyN_ok {K : PySem.W.Frag} {H : Hp} {x : V} {n : String} (h : tyN H x = some n) : TyX K H x (.type n) := by
  cases x with
  | non => cases h; exact .base .non
  | bl b => cases h; exact .base (.bl b)
  | int i => cases h; exact .base (.int i)
  | str x => cases h; exact .base (.str x)
  | ref a =>
    have h1 : (match H a with
      | some (.lst _) => some "list"
      | some (.tup _) => some "tuple"
      | some (.dK _) => some "dict"
      | some (.dT _) => some "dict"
      | some (.frz _ (.lst _)) => some "list"
      | _ => none) = some n := h
    split at h1
    · rename_i e; cases h1; exact .base (.lst e)
    · rename_i e; cases h1; exact .base (.tup e)
    · rename_i e; cases h1; exact .base (.dK e)
    · rename_i e; cases h1; exact .base (.dT e)
    · rename_i e; cases h1; exact .base (.frz e)
    · cases h1
  | _ => cases h
def rIsN1 : List V → Hp → VK → Prop := fun xs H Q => ∃ (x : V) (T n : String) (b : Bool), xs = [x, .ty T] ∧ tyN H x = some n ∧ kitB n T = some b ∧ Q (.bl b) H
theorem call_isN1 {X : Cx} : CallR X (.builtin "isinstance") rIsN1 := by
  intro pins s σ H xs us Q I r h
  obtain ⟨x, T, n, b, e, h1, h2, q⟩ := h
  exact call_isi pins s σ H xs us Q I r ⟨x, .ty T, .type n, .type T, b, e, .ty T, tyN_ok h1, kit_ty h2, q⟩
/-- a constant of the module that is an int -/
theorem pe_gint {X : Cx} {x : Str} {i : Int} {pos : Pos} (hm : ∃ t, X.mg x = some (.int i t)) (hg : Gl X x := by rfl) (hd : (x == ("__debug__" : Str)) = false := by decide) : PE X (.Name x pos) (tC (.int i)) := by
  obtain ⟨t, hm⟩ := hm
  exact pe_glob hg hm ⟨t, rfl⟩ hd
/-- an own exception class over ValueError -/
structure ExcC (K : PySem.W.Frag) (mg : Str → Option Value) (x : Str) (C : Addr) : Prop where
  at_ : mg x = some (.ref C)
  ex : PySem.W.excIn K C He.veBase "ValueError.__new__" = true
  kp : PySem.W.keepIn K (.ref C) = true
  sub : PySem.W.subIn K (.ref C) (.type "BaseException") = some true
  ty : PySem.W.typeIn K (.ref C) = some (.type "type")
theorem ps_raiseX {X : Cx} {W : WX} {x m : Str} {C : Addr} {j : Nat} {p p2 pos pos' : Pos} (c : ExcC X.K X.mg x C) (tk : Takes X W) (hc : X.calm = true := by rfl) (hg : Gl X x := by rfl) (hdb : (x == ("__debug__" : Str)) = false := by decide) :
    PS X (.Raise (some (.Call (.Name x p) [.Constant (.str m) j p2] [] pos)) none pos') (fun _ σ H => W (.ref C) none σ H) :=
  ps_raise hc tk (pmk_own PySem.F.excBase_ValueError c.ex c.at_ c.kp (raises_own c.sub c.ty) hg hdb)
theorem pe_ty {X : Cx} {x : Str} {pos : Pos} (n : String) (hm : X.mg x = none) (hv : bootBuiltins x = some (.type n) := by decide +kernel) (hg : Gl X x := by rfl) (hn : x ≠ "__name__" := by decide) (hd : (x == ("__debug__" : Str)) = false := by decide) :
    PE X (.Name x pos) (tC (.ty n)) := pe_bltn hg hm hv rfl hn hd

/-! defs as they stand behind the top; a call's promise by the body's -/
structure DefT (K : PySem.W.Frag) (mg : Str → Option Value) (x : Str) (st : Stmt) (ps : List Str) : Prop where
  ex : ∃ (f : Addr) (fd : FuncData) (dvs : List V) (kws : List (Str × V)), FunD K x x (defArgs st) (defBody st) (defScope st) dvs kws f fd ∧ mg x = some (.ref f) ∧ Binds K fd ps []
structure MetT (K : PySem.W.Frag) (C : Addr) (m qual : Str) (st : Stmt) (ps : List Str) : Prop where
  ex : ∃ (f : Addr) (fd : FuncData) (dvs : List V) (kws : List (Str × V)), FunD K m qual (defArgs st) (defBody st) (defScope st) dvs kws f fd ∧ Meth K C m f ∧ Binds K fd ps []
structure MakT (K : PySem.W.Frag) (mg : Str → Option Value) (x : Str) (C : Addr) (qual : Str) (st : Stmt) (ps : List Str) : Prop where
  at_ : mg x = some (.ref C)
  ex : ∃ (f : Addr) (fd : FuncData) (dvs : List V) (kws : List (Str × V)), FunD K "__init__" qual (defArgs st) (defBody st) (defScope st) dvs kws f fd ∧ Mk K C f ∧ Binds K fd ps []
def spNo : Sp := fun _ _ _ _ => False
def spPre (sp : Nat → Sp) : Nat → Sp
  | 0 => spNo
  | n + 1 => sp n
section
variable {P : Program} {w : World} {K : PySem.W.Frag} {mg : Str → Option Value} {base : Heap} {x m qual : Str} {C : Addr} {st : Stmt} {ps N : List Str} {k : Nat}
theorem DefT.cal {sp : Sp} (d : DefT K mg x st ps) (S : FnScope N ps (defScope st)) (len : ∀ vs H Q E, sp vs H Q E → vs.length = ps.length)
    (B : Body P w K mg base k N x (defScope st) (defBody st) sp) : Cal P w K mg base (k + 1) x sp := by
  obtain ⟨f, fd, dvs, kws, F, h1, h2⟩ := d.ex
  exact ⟨f, fd, ps, h1, F.kp, h2, fn_body F S len B⟩
theorem DefT.no (d : DefT K mg x st ps) : Cal P w K mg base k x spNo := by
  obtain ⟨f, fd, dvs, kws, F, h1, h2⟩ := d.ex
  exact ⟨f, fd, ps, h1, F.kp, h2, ⟨fun _ _ _ _ z => z.elim, fun _ _ _ _ _ _ _ _ _ _ _ _ _ z => z.elim⟩⟩
theorem MetT.met {sp : Sp} (d : MetT K C m qual st ps) (c : Cls K C) (S : FnScope N ps (defScope st)) (len : ∀ vs H Q E, sp vs H Q E → vs.length = ps.length)
    (B : Body P w K mg base k N qual (defScope st) (defBody st) sp) : Met P w K mg base (k + 1) C m sp := by
  obtain ⟨f, fd, dvs, kws, F, h1, h2⟩ := d.ex
  exact ⟨c, f, fd, ps, h1, h2, fn_body F S len B⟩
theorem MakT.mak {sp : Sp} (d : MakT K mg x C qual st ps) (S : FnScope N ps (defScope st)) (len : ∀ vs H Q E, sp vs H Q E → vs.length = ps.length)
    (B : Body P w K mg base k N qual (defScope st) (defBody st) sp) : Mak P w K mg base (k + 1) x C sp := by
  obtain ⟨f, fd, dvs, kws, F, h1, h2⟩ := d.ex
  exact ⟨d.at_, f, fd, ps, h1, h2, fn_body F S len B⟩
theorem Cal.mono {sp : Sp} {j : Nat} (c : Cal P w K mg base j x sp) (h : j ≤ k) : Cal P w K mg base k x sp := by
  obtain ⟨f, fd, ps, h1, h2, h3, F⟩ := c.ex
  exact ⟨f, fd, ps, h1, h2, h3, F.mono h⟩
theorem Cal.imp {sp sp' : Sp} (c : Cal P w K mg base k x sp) (h : ∀ vs H Q E, sp' vs H Q E → sp vs H Q E) : Cal P w K mg base k x sp' := by
  obtain ⟨f, fd, ps, h1, h2, h3, F⟩ := c.ex
  exact ⟨f, fd, ps, h1, h2, h3, F.imp h⟩
/-- a def that calls itself: by the promise of one less deep; c: what else it calls -/
theorem DefT.rec_ {sp : Nat → Sp} (d : DefT K mg x st ps) (S : FnScope N ps (defScope st)) (c : Nat) (len : ∀ n vs H Q E, sp n vs H Q E → vs.length = ps.length)
    (B : ∀ n, Cal P w K mg base (n + c) x (spPre sp n) → Body P w K mg base (n + c) N x (defScope st) (defBody st) (sp n)) : ∀ n, Cal P w K mg base (n + c + 1) x (sp n) := by
  intro n
  induction n with
  | zero => exact d.cal S (len 0) (B 0 (d.no (k := 0 + c)))
  | succ n ih => exact d.cal S (len (n + 1)) (B (n + 1) (ih.mono (by omega)))
/-- how a def's parameters are bound, from its row -/
theorem defT_of {d : He.DefD} {fd : FuncData} (hx : d.name = x) (hq : d.qual = x) (ha : d.params = defArgs st) (hb : d.body = defBody st) (hs : d.scope = defScope st) (h0 : d.dfl = []) (h1 : d.kwd = [])
    (F : FunD K d.name d.qual d.params d.body d.scope (d.dvs K) (d.kws K) (He.fAd K d.at_) fd) (hm : mg x = some (.ref (He.fAd K d.at_)))
    (pl : Plain ps x x (defArgs st) (defBody st) (defScope st)) : DefT K mg x st ps := by
  rw [hx, hq, ha, hb, hs] at F
  have e1 : d.dvs K = [] := by unfold He.DefD.dvs; rw [h0]; rfl
  have e2 : d.kws K = [] := by unfold He.DefD.kws; rw [h1]; rfl
  rw [e1, e2] at F
  exact ⟨_, _, [], [], F, hm, F.bindsN pl⟩
end
end KB

set_option maxHeartbeats 4000000
/-! readings, one step at a time -/
namespace KB
open PySem PySem.Spec PyProof.Rows L2

theorem Same.new {H : Hp} {p : Addr} {o : HO} (h : H p = none) : Same H (upd H p o) := fun b u e => by rw [upd_ne (ne_of_none e h)]; exact e
theorem Same.upd {H H' : Hp} {p : Addr} {o : HO} (s : Same H H') (h : H p = none) : Same H (upd H' p o) := fun b u e => by rw [upd_ne (ne_of_none e h)]; exact s b u e

/-! named readings of rules that have none -/
def rLenK (K : PySem.W.Frag) : List V → Hp → VK → Prop := fun xs H Q => ∃ x n, xs = [x] ∧ LenV K x H n ∧ Q (.int n) H
theorem call_lenK {X : Cx} : CallR X (.builtin "len") (rLenK X.K) := call_len
def rMax2 : List V → Hp → VK → Prop := fun xs H Q => ∃ i j, xs = [.int i, .int j] ∧ Q (.int (if j > i then j else i)) H
theorem call_max2K {X : Cx} (hc : X.calm = true) : CallR X (.builtin "max") rMax2 := call_max2 hc
def rMin2 : List V → Hp → VK → Prop := fun xs H Q => ∃ i j, xs = [.int i, .int j] ∧ Q (.int (if j < i then j else i)) H
theorem call_min2K {X : Cx} (hc : X.calm = true) : CallR X (.builtin "min") rMin2 := call_min2 hc
def rAbs : List V → Hp → VK → Prop := fun xs H Q => ∃ i, xs = [.int i] ∧ Q (.int (if i < 0 then -i else i)) H
theorem call_absK {X : Cx} : CallR X (.builtin "abs") rAbs := call_abs
def rInt1 : List V → Hp → VK → Prop := fun xs H Q => (∃ i, xs = [.int i] ∧ Q (.int i) H) ∨ ∃ k, xs = [.bl k] ∧ Q (.int (if k then 1 else 0)) H
theorem call_int1K {X : Cx} : CallR X (.type "int") rInt1 := call_int1

section
variable {σ : L2.St} {H : Hp} {Q : VK} {D : Ends} {v x y : V} {i j : Nat} {te ta tb tc tv : TE} {t u : TS} {tt tu : TT} {tr : TA} {K : PySem.W.Frag} {r r' : R2}
  {QB : Bool → Hp → Prop} {QA : List V → Hp → Prop} {g : TG} {a C dx p : Addr} {fs : List (Str × V)} {f m : Str} {xs vs : List V} {n k : Int} {b c : Bool}
theorem i_var (h : σ[i]? = some (some v)) (q : Q v H) : tVar i σ H Q := ⟨v, h, q⟩
theorem i_c (q : Q v H) : tC v σ H Q := q
theorem i_op (q : ta σ H fun x H1 => tb σ H1 fun y H2 => r x y H2 Q) : tOp r ta tb σ H Q := q
theorem i_un {ru : V → Hp → VK → Prop} (q : ta σ H fun x H1 => ru x H1 Q) : tUn ru ta σ H Q := q
theorem i_rI0 {gg : Int → Int → V} (q : Q (gg n k) H) : rI0 gg (.int n) (.int k) H Q := ⟨n, k, rfl, rfl, q⟩
theorem i_rI {P : Int → Int → Prop} {gg : Int → Int → V} (hc : P n k) (q : Q (gg n k) H) : rI P gg (.int n) (.int k) H Q := ⟨n, k, rfl, rfl, hc, q⟩
theorem i_rU {gg : Int → V} (q : Q (gg n) H) : rU gg (.int n) H Q := ⟨n, rfl, q⟩
theorem i_eqI (q : Q (.bl (decide (n = k))) H) : rEq (.int n) (.int k) H Q := ⟨rfl, by
  have e : decide (V.int n = V.int k) = decide (n = k) := by rw [dec_int, Bool.beq_eq_decide_eq]
  rw [e]; exact q⟩
theorem i_neI (q : Q (.bl (!decide (n = k))) H) : rNe (.int n) (.int k) H Q := ⟨rfl, by
  have e : decide (V.int n = V.int k) = decide (n = k) := by rw [dec_int, Bool.beq_eq_decide_eq]
  rw [e]; exact q⟩
theorem i_isN0 (q : Q (.bl true) H) : rIsN .non .non H Q := ⟨rfl, by simpa using q⟩
theorem i_isNr (q : Q (.bl false) H) : rIsN (.ref a) .non H Q := ⟨rfl, by simpa using q⟩
theorem i_isNi (q : Q (.bl false) H) : rIsN (.int n) .non H Q := ⟨rfl, by simpa using q⟩
theorem i_isNb (q : Q (.bl false) H) : rIsN (.bl b) .non H Q := ⟨rfl, by simpa using q⟩
theorem i_notN0 (q : Q (.bl false) H) : rNotN .non .non H Q := ⟨rfl, by simpa using q⟩
theorem i_notNr (q : Q (.bl true) H) : rNotN (.ref a) .non H Q := ⟨rfl, by simpa using q⟩
theorem i_notNi (q : Q (.bl true) H) : rNotN (.int n) .non H Q := ⟨rfl, by simpa using q⟩
theorem i_isB (q : Q (.bl (decide (b = c))) H) : rIsB (.bl b) (.bl c) H Q := ⟨b, c, rfl, rfl, q⟩
theorem i_notB (q : Q (.bl (!decide (b = c))) H) : rNotB (.bl b) (.bl c) H Q := ⟨b, c, rfl, rfl, q⟩
theorem i_test (q : te σ H fun x H' => ∃ k, x = .bl k ∧ QB k H') : tTest te σ H QB := q
theorem i_B (q : te σ H fun x H' => ∃ k, x = .bl k ∧ QB k H') : tB te σ H QB := q
theorem i_bl {R : Bool → Prop} (h : R b) : ∃ k, V.bl b = V.bl k ∧ R k := ⟨b, rfl, h⟩
theorem i_and (q : tt σ H fun c H1 => if c = true then tu σ H1 QB else QB false H1) : tAnd tt tu σ H QB := q
theorem i_or (q : tt σ H fun c H1 => if c = true then QB true H1 else tu σ H1 QB) : tOr tt tu σ H QB := q
theorem i_not (q : tt σ H fun c H1 => QB (!c) H1) : tNot tt σ H QB := q
theorem i_andV (q : ta σ H fun x H1 => ∃ k, x = .bl k ∧ if k = true then tb σ H1 Q else Q (.bl false) H1) : tAndV ta tb σ H Q := q
theorem i_orV (q : ta σ H fun x H1 => ∃ k, x = .bl k ∧ if k = true then Q (.bl true) H1 else tb σ H1 Q) : tOrV ta tb σ H Q := q
theorem i_notV (q : ta σ H fun x H1 => ∃ k, x = .bl k ∧ Q (.bl (!k)) H1) : tNotV ta σ H Q := q
theorem i_if (q : tt σ H fun c H1 => if c = true then ta σ H1 Q else tb σ H1 Q) : tIf tt ta tb σ H Q := q
theorem i_nil (q : QA [] H) : tNil σ H QA := q
theorem i_cons (q : te σ H fun x H1 => tr σ H1 fun xs H2 => QA (x :: xs) H2) : tCons te tr σ H QA := q
theorem i_tup (q : tr σ H fun xs H1 => xs.length ≤ sizeLine ∧ ∀ p, H1 p = none → Q (.ref p) (upd H1 p (.tup xs))) : tTup tr σ H Q := q
theorem i_lst (q : tr σ H fun xs H1 => xs.length ≤ sizeLine ∧ ∀ p, H1 p = none → Q (.ref p) (upd H1 p (.lst xs))) : tLst tr σ H Q := q
theorem i_call {sp : Sp} {E : L2.St → XK} (q : tr σ H fun vs H1 => sp vs H1 Q (E σ)) : tCallS sp E tr σ H Q := q
theorem i_CB {rr : List V → Hp → VK → Prop} (q : tr σ H fun vs H1 => rr vs H1 Q) : tCB rr tr σ H Q := q
theorem i_lenL (h : SqL K H p xs) (q : Q (.int (xs.length : Nat)) H) : rLenK K [.ref p] H Q := ⟨_, _, rfl, .inl ⟨_, h, rfl⟩, q⟩
theorem i_lenT (h : SqT K H p xs) (q : Q (.int (xs.length : Nat)) H) : rLenK K [.ref p] H Q := ⟨_, _, rfl, .inr ⟨_, h, rfl⟩, q⟩
theorem i_max2 (q : Q (.int (max n k)) H) : rMax2 [.int n, .int k] H Q := ⟨n, k, rfl, by
  have e : (if k > n then k else n) = max n k := by omega
  rw [e]; exact q⟩
theorem i_min2 (q : Q (.int (min n k)) H) : rMin2 [.int n, .int k] H Q := ⟨n, k, rfl, by
  have e : (if k < n then k else n) = min n k := by omega
  rw [e]; exact q⟩
theorem i_abs (q : Q (.int (if n < 0 then -n else n)) H) : rAbs [.int n] H Q := ⟨n, rfl, q⟩
theorem i_int1 (q : Q (.int n) H) : rInt1 [.int n] H Q := .inl ⟨n, rfl, q⟩
theorem i_inst {T nn : String} (h1 : tyN H x = some nn) (h2 : kitB nn T = some b) (q : Q (.bl b) H) : rIsN1 [x, .ty T] H Q := ⟨x, T, nn, b, rfl, h1, h2, q⟩
theorem i_ixL (h : SqL K H p xs) (ha : atI xs n = some v) (q : Q v H) : rIxL K (.ref p) (.int n) H Q := ⟨p, xs, n, v, rfl, rfl, h, ha, q⟩
theorem i_ixT (h : SqT K H p xs) (ha : atI xs n = some v) (q : Q v H) : rIxT K (.ref p) (.int n) H Q := ⟨p, xs, n, v, rfl, rfl, h, ha, q⟩
theorem i_ixSL (h : SqL K H p xs) (ha : atI xs n = some v) (q : Q v H) : rIx K (.ref p) (.int n) H Q := .inl ⟨p, xs, n, v, rfl, rfl, h, ha, q⟩
theorem i_ixST (h : SqT K H p xs) (ha : atI xs n = some v) (q : Q v H) : rIx K (.ref p) (.int n) H Q := .inr (.inl ⟨p, xs, n, v, rfl, rfl, h, ha, q⟩)
theorem i_fld (q : ta σ H fun x H1 => ∃ a C dx fs v, x = .ref a ∧ H1 a = some (.ins C dx fs) ∧ Cls K C ∧ NoAttr K C f ∧ fs.lookup f = some v ∧ Q v H1) : tFld K ta f σ H Q := q
theorem i_fldR {Q : V → Prop} (h : H a = some (.ins C dx fs)) (c : Cls K C) (na : NoAttr K C f) (hl : fs.lookup f = some v) (q : Q v) :
    ∃ (a' : Addr) (C' : Addr) (dx' : Addr) (fs' : List (Str × V)) (v' : V), V.ref a = .ref a' ∧ H a' = some (.ins C' dx' fs') ∧ Cls K C' ∧ NoAttr K C' f ∧ fs'.lookup f = some v' ∧ Q v' := ⟨a, C, dx, fs, v, rfl, h, c, na, hl, q⟩
theorem i_meth {sp : Sp} {dvs : List V} {E : XK} (q : ta σ H fun x H1 => ∃ a dx fs, x = .ref a ∧ H1 a = some (.ins C dx fs) ∧ fs.lookup m = none ∧ tr σ H1 fun vs H2 => sp (x :: (vs ++ dvs)) H2 Q E) : tMeth C m sp dvs E ta tr σ H Q := q
theorem i_make {sp : Sp} {dvs : List V} {E : XK} (q : tr σ H fun vs H1 => ∀ x dx, H1 x = none → H1 dx = none → dx ≠ x → sp (.ref x :: (vs ++ dvs)) (upd (upd H1 dx (.own x)) x (.ins C dx [])) (fun v H2 => v = .non ∧ Q (.ref x) H2) E) : tMake C sp dvs E tr σ H Q := q
theorem i_bits (q : te σ H fun x H1 => ∃ i, x = .int i ∧ Q (.int (Builtin.Int.intBits i : Nat)) H1) : tBits te σ H Q := q
theorem i_int {R : Int → Prop} (h : R n) : ∃ i, V.int n = V.int i ∧ R i := ⟨n, rfl, h⟩
/-! statements -/
theorem i_seq (q : t { D with nx := u D } σ H) : tSeq t u D σ H := q
theorem i_nx {N : L2.St → Hp → Prop} {B C : L2.St → Hp → Prop} {R : VK} (q : N σ H) : Ends.nx (Ends.mk N R B C) σ H := q
theorem i_rt {N : L2.St → Hp → Prop} {B C : L2.St → Hp → Prop} {R : VK} (q : R v H) : Ends.rt (Ends.mk N R B C) v H := q
theorem i_bk {N : L2.St → Hp → Prop} {B C : L2.St → Hp → Prop} {R : VK} (q : B σ H) : Ends.bk (Ends.mk N R B C) σ H := q
theorem i_ct {N : L2.St → Hp → Prop} {B C : L2.St → Hp → Prop} {R : VK} (q : C σ H) : Ends.ct (Ends.mk N R B C) σ H := q
theorem i_next (q : D.nx σ H) : tNext D σ H := q
theorem i_brk (q : D.bk σ H) : tBreak D σ H := q
theorem i_cnt (q : D.ct σ H) : tCont D σ H := q
theorem i_drop (q : te σ H fun _ H1 => D.nx σ H1) : tDrop te D σ H := q
theorem i_ret (q : te σ H fun v H1 => D.rt v H1) : tRet te D σ H := q
theorem i_ifS (q : tt σ H fun b H1 => if b = true then t D σ H1 else u D σ H1) : tIfS tt t u D σ H := q
theorem i_asg (q : te σ H fun x H1 => g x σ H1 fun s h => D.nx s h) : tAsg te g D σ H := q
theorem i_gname {R : L2.St → Hp → Prop} (q : R (σ.set i (some v)) H) : gName i v σ H R := q
theorem i_par (q : tr σ H fun vs H1 => ∃ v w, vs = [v, w] ∧ D.nx ((σ.set i (some v)).set j (some w)) H1) : tPar i j tr D σ H := q
theorem i_two {R : V → V → Prop} (q : R x y) : ∃ v w, [x, y] = [v, w] ∧ R v w := ⟨x, y, rfl, q⟩
theorem i_par3 {l : Nat} (q : tr σ H fun vs H1 => ∃ u v w, vs = [u, v, w] ∧ D.nx (((σ.set i (some u)).set j (some v)).set l (some w)) H1) : tPar3 i j l tr D σ H := q
theorem i_three {z : V} {R : V → V → V → Prop} (q : R x y z) : ∃ u v w, [x, y, z] = [u, v, w] ∧ R u v w := ⟨x, y, z, rfl, q⟩
theorem i_sub {ti : TE} {ts : TSet} {R : L2.St → Hp → Prop} (q : ta σ H fun o H1 => ti σ H1 fun z H2 => ts o z v H2 fun H3 => R σ H3) : gSub ta ti ts v σ H R := q
theorem i_setL {R : Hp → Prop} (h : H p = some (.lst xs)) (hk : ixN xs.length k = some j) (q : R (upd H p (.lst (xs.set j v)))) : rSetL (.ref p) (.int k) v H R := ⟨p, xs, k, j, rfl, rfl, h, hk, q⟩
theorem i_sfld (q : tv σ H fun y H1 => ta σ H1 fun x H2 => ∃ a C dx fs, x = .ref a ∧ H2 a = some (.ins C dx fs) ∧ Cls K C ∧ NoAttr K C f ∧ fs.length < 1000 ∧ D.nx σ (upd H2 a (.ins C dx (putF f y fs)))) : sFld K ta tv f D σ H := q
theorem i_BM {T : String} {rr : V → List V → Hp → VK → Prop} (q : te σ H fun x H1 => tyV K T x H1 ∧ tr σ H1 fun xs H2 => rr x xs H2 Q) : tBM K T rr te tr σ H Q := q
/-! tests that are known, or not -/
theorem i_T {A B : Prop} (q : A) : if true = true then A else B := iteT q
theorem i_F {A B : Prop} (q : B) : if false = true then A else B := iteF q
theorem i_dec {P A B : Prop} [Decidable P] (h1 : P → A) (h2 : ¬P → B) : if decide P = true then A else B := by
  by_cases h : P
  · rw [if_pos (decide_eq_true h)]; exact h1 h
  · rw [if_neg (by rw [decide_eq_false h]; decide)]; exact h2 h
theorem i_ndec {P A B : Prop} [Decidable P] (h1 : ¬P → A) (h2 : P → B) : if (!decide P) = true then A else B := by
  by_cases h : P
  · rw [if_neg (by rw [decide_eq_true h]; decide)]; exact h2 h
  · rw [if_pos (by rw [decide_eq_false h]; decide)]; exact h1 h
theorem i_decT {P A B : Prop} [Decidable P] (h : P) (q : A) : if decide P = true then A else B := i_dec (fun _ => q) fun z => absurd h z
theorem i_decF {P A B : Prop} [Decidable P] (h : ¬P) (q : B) : if decide P = true then A else B := i_dec (fun z => absurd z h) fun _ => q
theorem i_bool {A B : Prop} (h1 : b = true → A) (h2 : b = false → B) : if b = true then A else B := by
  cases b with
  | true => exact iteT (h1 rfl)
  | false => exact iteF (h2 rfl)
end
theorem i_start {t : TS} {D : Ends} {N : List Str} {vs : List V} {H : Hp} (σ : L2.St) (e : L2.start N vs = σ) (q : t D σ H) : t D (L2.start N vs) H := by rw [e]; exact q
theorem i_while {c : TT} {tb : TS} {D : Ends} {σ : L2.St} {H : Hp} (W : Nat → L2.St → Hp → Prop) (m₀ : Nat) (w₀ : W m₀ σ H)
    (turn : ∀ m σ H, W m σ H → c σ H fun b H1 => if b = true then tb { D with nx := fun s h => ∃ m', m' < m ∧ W m' s h, ct := fun s h => ∃ m', m' < m ∧ W m' s h, bk := D.nx } σ H1 else D.nx σ H1)
    (mono : ∀ σ H Q Q', (∀ b H1, Q b H1 → Q' b H1) → c σ H Q → c σ H Q') : tWhile c tb D σ H := by
  refine ⟨W, ⟨m₀, w₀⟩, fun m σ H w => mono σ H _ _ (fun b H1 q => ?_) (turn m σ H w)⟩
  cases b with
  | true => exact ⟨_, fun _ _ z => z, q⟩
  | false => exact q
/-- the same with the test's own readings -/
theorem i_whileR {c : TT} {tb : TS} {D : Ends} {σ : L2.St} {H : Hp} (W : Nat → L2.St → Hp → Prop) (m₀ : Nat) (w₀ : W m₀ σ H)
    (turn : ∀ m σ H, W m σ H → c σ H fun b H1 => if b = true then ∃ N : L2.St → Hp → Prop, (∀ s h, N s h → ∃ m', m' < m ∧ W m' s h) ∧ tb { D with nx := N, ct := N, bk := D.nx } σ H1 else D.nx σ H1) :
    tWhile c tb D σ H := ⟨W, ⟨m₀, w₀⟩, turn⟩
theorem i_more {W : Nat → L2.St → Hp → Prop} {tb : TS} {D : Ends} {σ : L2.St} {H1 : Hp} {m : Nat}
    (q : tb { D with nx := fun s h => ∃ m', m' < m ∧ W m' s h, ct := fun s h => ∃ m', m' < m ∧ W m' s h, bk := D.nx } σ H1) :
    ∃ N : L2.St → Hp → Prop, (∀ s h, N s h → ∃ m', m' < m ∧ W m' s h) ∧ tb { D with nx := N, ct := N, bk := D.nx } σ H1 := ⟨_, fun _ _ z => z, q⟩
theorem i_isNx {v : V} {H : Hp} {Q : VK} (h : v ≠ .non) (q : Q (.bl false) H) : rIsN v .non H Q := ⟨rfl, by rw [decide_eq_false h]; exact q⟩
theorem i_notNx {v : V} {H : Hp} {Q : VK} (h : v ≠ .non) (q : Q (.bl true) H) : rNotN v .non H Q := ⟨rfl, by rw [decide_eq_false h]; exact q⟩
theorem tyN_tup {H : Hp} {a : Addr} {xs : List V} (h : H a = some (.tup xs)) : tyN H (.ref a) = some "tuple" := by simp only [tyN, h]
theorem tyN_lst {H : Hp} {a : Addr} {xs : List V} (h : H a = some (.lst xs)) : tyN H (.ref a) = some "list" := by simp only [tyN, h]
theorem i_gtup {K : PySem.W.Frag} {n : Nat} {t : TGs} {v : V} {σ : L2.St} {H : Hp} {R : L2.St → Hp → Prop} (q : ∃ a xs, v = .ref a ∧ SqT K H a xs ∧ xs.length = n ∧ t xs σ H R) : gTup K n t v σ H R := q
theorem i_gcons {t : TG} {u : TGs} {v : V} {vs : List V} {σ : L2.St} {H : Hp} {R : L2.St → Hp → Prop} (q : t v σ H fun s h => u vs s h R) : gCons t u (v :: vs) σ H R := ⟨v, vs, rfl, q⟩
theorem i_gnil {σ : L2.St} {H : Hp} {R : L2.St → Hp → Prop} (q : R σ H) : gNil [] σ H R := ⟨rfl, q⟩
theorem i_sl {r : V → Option Int → Option Int → Hp → VK → Prop} {te : TE} {tl th : TO} {σ : L2.St} {H : Hp} {Q : VK} (q : te σ H fun x H1 => tl σ H1 fun l H2 => th σ H2 fun u H3 => r x l u H3 Q) : tSl r te tl th σ H Q := q
theorem i_nopart {σ : L2.St} {H : Hp} {R : Option Int → Hp → Prop} (q : R none H) : tNoPart σ H R := q
theorem i_part {te : TE} {σ : L2.St} {H : Hp} {R : Option Int → Hp → Prop} (q : te σ H fun x H1 => ∃ i, x = .int i ∧ R (some i) H1) : tPart te σ H R := q
theorem i_for {wi : TI} {g : TG} {tb : TS} {D : Ends} {σ : L2.St} {H : Hp} (q : wi σ H fun J H1 => ∃ W : Nat → Nat → L2.St → Hp → Prop, (∃ m, W 0 m σ H1) ∧ ∀ i m σ H, W i m σ H →
    (J.stop i H ∧ D.nx σ H) ∨ (J.go i H ∧ ∃ N : L2.St → Hp → Prop, (∀ σ' H', N σ' H' → ∃ m', m' < m ∧ W (i + 1) m' σ' H') ∧ ∀ x H', J.yld i H x H' → g x σ H' fun σ2 H2 => tb { D with nx := N, ct := N, bk := D.nx } σ2 H2)) :
    tFor wi g tb D σ H := q
theorem i_iR1 {ta : TA} {σ : L2.St} {H : Hp} {R : _} (q : ta σ H fun vs H1 => ∃ j : Int, vs = [.int j] ∧ -(2 ^ 62) ≤ j ∧ j < 2 ^ 62 ∧ R (Itr 0 j.toNat) H1) : iRng1 ta σ H R := q
theorem i_iR2 {ta : TA} {σ : L2.St} {H : Hp} {R : _} (q : ta σ H fun vs H1 => ∃ i j : Int, vs = [.int i, .int j] ∧ (-(2 ^ 62) ≤ i ∧ i < 2 ^ 62 ∧ -(2 ^ 62) ≤ j ∧ j < 2 ^ 62) ∧ R (Itr i (j - i).toNat) H1) : iRng2 ta σ H R := q
theorem i_iL {K : PySem.W.Frag} {tl : TE} {σ : L2.St} {H : Hp} {R : _} (q : tl σ H fun x H1 => ∃ a, x = .ref a ∧ (∃ xs, SqL K H1 a xs) ∧ R (Itl K a) H1) : iList K tl σ H R := q
theorem i_iT {K : PySem.W.Frag} {tl : TE} {σ : L2.St} {H : Hp} {R : _} (q : tl σ H fun x H1 => ∃ a, x = .ref a ∧ (∃ xs, SqT K H1 a xs) ∧ R (Itt K a) H1) : iTup K tl σ H R := q
/-! new objects, told by what they leave -/
theorem laid {H H1 : Hp} {p : Addr} {o : HO} (e : L2.upd H p o = H1) (h : H p = none) : Same H H1 ∧ H1 p = some o := by
  subst e
  exact ⟨Same.new h, upd_same⟩
theorem i_app {l : Addr} {xs : List V} {y : V} {H : Hp} {Q : VK} (h : H l = some (.lst xs)) (hz : xs.length < sizeLine) (q : Q .non (L2.upd H l (.lst (xs ++ [y])))) : rAppend (.ref l) [y] H Q := ⟨l, xs, y, rfl, rfl, h, hz, q⟩
theorem i_tyL {K : PySem.W.Frag} {p : Addr} {xs : List V} {H : Hp} {R : Prop} (h : SqL K H p xs) (q : R) : tyV K "list" (.ref p) H ∧ R := ⟨.inl ⟨rfl, _, h⟩, q⟩
/-! dicts -/
theorem i_dnotin {ty td : TE} {σ : L2.St} {H : Hp} {Q : VK} (q : ty σ H fun y H1 => td σ H1 fun x H2 => ∃ a o, x = .ref a ∧ DGet H2 a y o ∧ Q (.bl (!o.isSome)) H2) : tDNotIn ty td σ H Q := q
theorem i_din {ty td : TE} {σ : L2.St} {H : Hp} {Q : VK} (q : ty σ H fun y H1 => td σ H1 fun x H2 => ∃ a o, x = .ref a ∧ DGet H2 a y o ∧ Q (.bl o.isSome) H2) : tDIn ty td σ H Q := q
theorem i_dget {ty td : TE} {σ : L2.St} {H : Hp} {Q : VK} (q : td σ H fun x H1 => ty σ H1 fun y H2 => ∃ a v, x = .ref a ∧ DGet H2 a y (some v) ∧ Q v H2) : tDGet td ty σ H Q := q
theorem i_dput {ty td tv : TE} {D : Ends} {σ : L2.St} {H : Hp} (q : tv σ H fun v H1 => td σ H1 fun x H2 => ty σ H2 fun y H3 => ∃ a H4, x = .ref a ∧ DPut H3 a y v H4 ∧ D.nx σ H4) : sDPut td ty tv D σ H := q
theorem i_disp {trs : List (TE × TE)} {σ : L2.St} {H : Hp} {Q : VK} (q : ∀ p, H p = none → tPairs trs σ (L2.upd H p (.dK [])) fun ps H2 => H2 p = some (.dK []) ∧ ∃ kvs : List (Key × V), ps = kvs.map (fun kv => (kV kv.1, kv.2)) ∧ kvs.length ≤ 15 ∧ Q (.ref p) (L2.upd H2 p (.dK (mergeK [] kvs)))) : tDisp trs σ H Q := q
theorem i_pcons {tk tv : TE} {r : List (TE × TE)} {σ : L2.St} {H : Hp} {Q : List (V × V) → Hp → Prop} (q : tk σ H fun x H1 => tv σ H1 fun y H2 => tPairs r σ H2 fun ps H3 => Q ((x, y) :: ps) H3) : tPairs ((tk, tv) :: r) σ H Q := q
theorem i_pnil {σ : L2.St} {H : Hp} {Q : List (V × V) → Hp → Prop} (q : Q [] H) : tPairs [] σ H Q := q
theorem i_cut {t u : TS} {D : Ends} {σ : L2.St} {H : Hp} (M : L2.St → Hp → Prop) (q : t { D with nx := M } σ H) (k : ∀ s h, M s h → u D s h) : Evl.tCut t u D σ H := ⟨M, q, k⟩
end KB

set_option maxHeartbeats 4000000
namespace KB
open PySem PySem.Spec PyProof.Rows L2
/-! further rules -/
/-- xs[lo:hi] = a list -/
def gSlc (to tl th : TE) : TG := fun v σ H R => to σ H fun o H1 => tl σ H1 fun x H2 => th σ H2 fun y H3 =>
  ∃ (l b : Addr) (xs ys : List V) (a c : Nat), o = .ref l ∧ v = .ref b ∧ x = .int a ∧ y = .int c ∧ H3 l = some (.lst xs) ∧ H3 b = some (.lst ys) ∧ l ≠ b ∧ a ≤ c ∧ c ≤ xs.length ∧
    xs.length + ys.length ≤ sizeLine ∧ R σ (L2.upd H3 l (.lst (xs.take a ++ ys ++ xs.drop c)))
theorem pg_slc {X : Cx} {o lo hi : Expr} {to tl th : TE} {p2 pos : Pos} (ho : PE X o to) (hl : PE X lo tl) (hh : PE X hi th) : PG X (.Subscript o (.Slice (some lo) (some hi) none p2) pos) (gSlc to tl th) := by
  refine ⟨fun pins s σ H v u Q I r h => ?_⟩
  rw [PySem.arm_assign_Subscript]
  refine wpAny_bind (wpAny_holding (thn (ho.run pins s σ H _ I h) fun ov s1 ⟨x, H1, I1, r1, q1⟩ => ?_))
  refine wpAny_bind (wpAny_holding (wpAny_Slice ?_))
  refine thn (hl.run pins s1 σ H1 _ I1 q1) fun vl s2 ⟨y, H2, I2, r2, q2⟩ => ?_
  refine thn (hh.run pins s2 σ H2 _ I2 q2) fun vu s3 ⟨z, H3, I3, r3, q3⟩ => ?_
  rw [evalPart_none]
  refine wpAny_pure ?_
  obtain ⟨l, b, xs, ys, a, c, e1, e2, e3, e4, hL, hB, hne, hac, hc, hz, q⟩ := q3
  subst e1; subst e2; subst e3; subst e4
  cases r1
  cases r
  have I4 : Inv X pins σ H3 { s3 with heap := s3.heap.push { cls := .type "slice", data := .fields #[vl, vu, .none] } } := I3.kept (t' := s3.toks) fun b ob q => Heap.get?_push_of_some _ q
  show wpAny (model X.prog X.w) X.A _ _ X.xe { s3 with heap := s3.heap.push { cls := .type "slice", data := .fields #[vl, vu, .none] } }
  refine wpAny_bind (wpAny_standAt (wpAny_bind (wpAny_holding ?_)))
  refine set_slice I4 hL hB hne (Heap.IsSliceOf.new ..) r2 r3 (by omega) (by omega) (by omega) hz fun s5 I5 => ?_
  exact wpAny_release ⟨σ, _, I5, by simpa using q⟩
theorem i_slc {to tl th : TE} {v : V} {σ : L2.St} {H : Hp} {R : L2.St → Hp → Prop} (q : to σ H fun o H1 => tl σ H1 fun x H2 => th σ H2 fun y H3 =>
  ∃ (l b : Addr) (xs ys : List V) (a c : Nat), o = .ref l ∧ v = .ref b ∧ x = .int a ∧ y = .int c ∧ H3 l = some (.lst xs) ∧ H3 b = some (.lst ys) ∧ l ≠ b ∧ a ≤ c ∧ c ≤ xs.length ∧
    xs.length + ys.length ≤ sizeLine ∧ R σ (L2.upd H3 l (.lst (xs.take a ++ ys ++ xs.drop c)))) : gSlc to tl th v σ H R := q
end KB
namespace KB
open PySem PySem.Spec PyProof.Rows L2
theorem i_eqS {a b : Str} {H : Hp} {Q : VK} (q : Q (.bl (decide (a = b))) H) : rEq (.str a) (.str b) H Q := ⟨rfl, by
  have e : decide (V.str a = V.str b) = decide (a = b) := by
    by_cases h : a = b
    · subst h; simp
    · rw [decide_eq_false h, decide_eq_false (fun z => h (V.str.inj z))]
  rw [e]; exact q⟩
theorem i_neS {a b : Str} {H : Hp} {Q : VK} (q : Q (.bl (!decide (a = b))) H) : rNe (.str a) (.str b) H Q := ⟨rfl, by
  have e : decide (V.str a = V.str b) = decide (a = b) := by
    by_cases h : a = b
    · subst h; simp
    · rw [decide_eq_false h, decide_eq_false (fun z => h (V.str.inj z))]
  rw [e]; exact q⟩
end KB
namespace KB
open PySem PySem.Spec PyProof.Rows L2
/-- an expression at which the reading halts, to be met by a told promise -/
def tHold (te : TE) : TE := te
theorem pe_hold {X : Cx} {e : Expr} {te : TE} (h : PE X e te) : PE X e (tHold te) := h
theorem i_hold {te : TE} {σ : L2.St} {H : Hp} {Q : VK} (M : V → Hp → Prop) (q : ∀ Q' : VK, (∀ x H', M x H' → Q' x H') → te σ H Q') (k : ∀ x H', M x H' → Q x H') : tHold te σ H Q := q Q k
end KB

set_option maxHeartbeats 4000000
namespace KB
open PySem PySem.Spec PyProof.Rows L2
/-! xs[:0:-1] of a list that is not empty -/
theorem rev1_pick (vs : List Value) (h : vs ≠ []) : slicePick vs.toArray none (some 0) (some (-1)) = (vs.drop 1).reverse.toArray := by
  obtain ⟨m, hm⟩ : ∃ m, vs.length = m + 1 := ⟨vs.length - 1, by have := List.length_pos_iff.mpr h; omega⟩
  unfold slicePick
  have eb : sliceBounds none (some 0) (some (-1)) vs.toArray.size = ((m : Int), 0, -1) := by
    rw [List.size_toArray, hm]
    simp [sliceBounds]
    omega
  rw [eb]
  show ((sliceRange (m : Int) 0 (-1)).filterMap (vs.toArray[·]?)).toArray = _
  have er : sliceRange (m : Int) 0 (-1) = ((List.range m).map (1 + ·)).reverse := by
    rw [← List.map_reverse, ← PySem.W.krv_range m, List.map_map]
    unfold sliceRange
    have h1 : ¬ ((-1 : Int) > 0) := by decide
    by_cases hz : (m : Int) > 0
    · have e : ((m : Int) - 0 - -1 - 1) / (- -1) = (m : Int) := by
        rw [show (- -1 : Int) = 1 by decide, Int.ediv_one]
        omega
      simp only [h1, if_false, hz, if_true, e, Int.toNat_natCast]
      apply List.map_congr_left
      intro k hk
      have := List.mem_range.mp hk
      simp only [Function.comp]
      omega
    · have e : m = 0 := by omega
      subst e
      rfl
  rw [er, List.filterMap_reverse, pick_run vs.toArray 1 m]
  rw [List.take_of_length_le (by rw [List.length_drop]; simp; omega)]
def tRev1 (K : PySem.W.Frag) (te : TE) : TE := fun σ H Q => te σ H fun x H1 => ∃ a xs, x = .ref a ∧ SqL K H1 a xs ∧ xs ≠ [] ∧ ∀ p, H1 p = none → Q (.ref p) (L2.upd H1 p (.lst (xs.drop 1).reverse))
theorem pe_rev1 {X : Cx} {e : Expr} {te : TE} {k k0 : Nat} {p0 p1 p2 p3 pos : Pos} (he : PE X e te) :
    PE X (.Subscript e (.Slice none (some (.Constant (.int 0) k0 p0)) (some (.UnaryOp .USub (.Constant (.int 1) k p1) p2)) p3) pos) (tRev1 X.K te) := by
  refine ⟨fun pins s σ H Q I h => Subscript_ (thn (he.run pins s σ H _ I h) fun v s1 ⟨x, H1, I1, r1, a, xs, ex, hx, hne, q⟩ => ?_)⟩
  subst ex
  cases r1
  have hst : PO X (some (.UnaryOp .USub (.Constant (.int 1) k p1) p2)) (tPart (tUn (rU fun i => .int (-i)) (tC (.int 1)))) := po_some (pe_un un_neg pe_int)
  have hz0 : PO X (some (.Constant (.int 0) k0 p0)) (tPart (tC (.int 0))) := po_some pe_int
  refine wpAny_Slice (thn (po_none.run pins s1 σ H1 (fun o H2 => o = none ∧ H2 = H1) I1 ⟨rfl, rfl⟩) fun vl s2 ⟨l, H2, I2, pl, el, e2⟩ => ?_)
  subst el e2
  refine thn (hz0.run pins s2 σ H2 (fun o H3 => o = some 0 ∧ H3 = H2) I2 ⟨0, rfl, rfl, rfl⟩) fun vu s3 ⟨u, H3, I3, pu, eu, e3⟩ => ?_
  subst eu e3
  refine thn (hst.run pins s3 σ H3 (fun o H4 => o = some (-1) ∧ H4 = H3) I3 ⟨1, rfl, -1, rfl, rfl, rfl⟩) fun vs s4 ⟨o, H4, I4, ps, eo, e4⟩ => ?_
  subst eo e4
  generalize hob : ({ cls := .type "slice", data := .fields #[vl, vu, vs] } : Obj) = ob
  have I5 : Inv X pins σ H4 { s4 with heap := s4.heap.push ob } := I4.kept (t' := s4.toks) fun b o' q => Heap.get?_push_of_some _ q
  obtain ⟨its, r, ht, hz⟩ := I5.list hx
  have hlen := r.length
  subst hob
  show wpAny (model X.prog X.w) X.A (subscriptTail e (.Slice none (some (.Constant (.int 0) k0 p0)) (some (.UnaryOp .USub (.Constant (.int 1) k p1) p2)) p3) (.ref a) (.ref s4.heap.objs.size)) (EP X pins σ Q) X.xe _
  refine tail_any (ops := [.ref a, .ref s4.heap.objs.size]) ht.isList.typeIs (PySem.slot_list_getitem.lookup) ?_ (by with_unfolding_all rfl)
  refine wpAny_getItem_list_slice ht.isList (Heap.IsSliceOf.new _ vl vu vs) pl pu ps (by decide) ?_ (by rw [List.size_toArray]; omega)
  have hne' : its ≠ [] := fun z => by
    subst z
    exact hne (List.eq_nil_of_length_eq_zero hlen)
  rw [rev1_pick its hne']
  have rd : Vals (xs.drop 1).reverse (its.drop 1).reverse := (r.drop 1).reverse
  refine ⟨.ref _, _, I5.laid (t' := s4.toks) (o := .lst (xs.drop 1).reverse) (fun b o' q => Heap.get?_push_of_some _ q) (Nat.le_refl _) ?_, rfl, q _ (I5.hok.fresh (Nat.le_refl _))⟩
  exact ⟨by rw [List.length_reverse, List.length_drop]; omega, _, 0, rd, Heap.get?_push_size _ rfl⟩
theorem i_rev1 {K : PySem.W.Frag} {te : TE} {σ : L2.St} {H : Hp} {Q : VK} (q : te σ H fun x H1 => ∃ a xs, x = .ref a ∧ SqL K H1 a xs ∧ xs ≠ [] ∧ ∀ p, H1 p = none → Q (.ref p) (L2.upd H1 p (.lst (xs.drop 1).reverse))) : tRev1 K te σ H Q := q
theorem i_zip {K : PySem.W.Frag} {ta : TA} {σ : L2.St} {H : Hp} {R : It → Hp → Prop} (q : ta σ H fun vs H1 => ∃ a b xs ys, vs = [.ref a, .ref b] ∧ SqL K H1 a xs ∧ SqL K H1 b ys ∧ R (Itz K a b) H1) : iZip K ta σ H R := q
end KB

/-! shapes: plain mathematics -/
namespace KM
inductive Sh where
  | one
  | two (l r : Sh)
  deriving DecidableEq
def wid : Sh → Nat
  | .one => 1
  | .two l r => wid l + wid r
def hei : Sh → Nat
  | .one => 0
  | .two l r => 1 + max (hei l) (hei r)
def bal : Sh → Prop
  | .one => True
  | .two l r => bal l ∧ bal r ∧ hei l ≤ hei r + 1 ∧ hei r ≤ hei l + 1
theorem wid_pos : ∀ s : Sh, 1 ≤ wid s
  | .one => Nat.le_refl 1
  | .two l r => by have := wid_pos l; simp only [wid]; omega
/-- the least width of a height -/
def L : Nat → Nat
  | 0 => 1
  | 1 => 2
  | n + 2 => L (n + 1) + L n
theorem L_pos : ∀ n, 1 ≤ L n
  | 0 => by decide
  | 1 => by decide
  | n + 2 => by have := L_pos (n + 1); simp only [L]; omega
theorem L_lt : ∀ n, L n < L (n + 1)
  | 0 => by decide
  | n + 1 => by have := L_pos n; simp only [L]; omega
theorem L_mono {m n : Nat} (h : m ≤ n) : L m ≤ L n := by
  induction h with
  | refl => exact Nat.le_refl _
  | step _ ih => exact Nat.le_trans ih (Nat.le_of_lt (L_lt _))
theorem L_le_pow : ∀ n, L n ≤ 2 ^ n
  | 0 => by decide
  | 1 => by decide
  | n + 2 => by
    have h1 := L_le_pow (n + 1)
    have h2 := L_le_pow n
    have e : 2 ^ (n + 2) = 2 * (2 * 2 ^ n) := by rw [Nat.pow_succ, Nat.pow_succ]; omega
    have e1 : 2 ^ (n + 1) = 2 * 2 ^ n := by rw [Nat.pow_succ]; omega
    simp only [L]; omega
/-- the tallest height of a width -/
def Tl (w h : Nat) : Prop := (h = 0 ∨ L h ≤ w) ∧ w < L (h + 1)
theorem Tl.inj {w a b : Nat} (x : Tl w a) (y : Tl w b) : a = b := by
  obtain ⟨xa, xb⟩ := x
  obtain ⟨ya, yb⟩ := y
  rcases Nat.lt_trichotomy a b with h | h | h
  · have := L_mono (show a + 1 ≤ b by omega)
    rcases ya with e | e <;> omega
  · exact h
  · have := L_mono (show b + 1 ≤ a by omega)
    rcases xa with e | e <;> omega
theorem L_21 : L 21 = 28657 := by decide +kernel
theorem Tl.le {w h : Nat} (x : Tl w h) (hw : w ≤ 20000) : h ≤ 20 := by
  obtain ⟨xa, _⟩ := x
  rcases Nat.lt_or_ge h 21 with q | q
  · omega
  · have := L_mono q
    rw [L_21] at this
    rcases xa with e | e <;> omega
theorem Tl.ex (w : Nat) : ∃ h, Tl w h := by
  have big : ∀ n, n < L n := by
    intro n
    induction n with
    | zero => decide
    | succ n ih => have := L_lt n; omega
  have go : ∀ n h, w < L (h + n) → (h = 0 ∨ L h ≤ w) → ∃ h, Tl w h := by
    intro n
    induction n with
    | zero =>
      intro h a b
      rcases b with e | e
      · subst e
        exact ⟨0, .inl rfl, by have := L_lt 0; simp only [Nat.add_zero] at a; omega⟩
      · simp only [Nat.add_zero] at a; omega
    | succ n ih =>
      intro h a b
      by_cases c : w < L (h + 1)
      · exact ⟨h, b, c⟩
      · exact ih (h + 1) (by rw [show h + 1 + n = h + (n + 1) by omega]; exact a) (.inr (by omega))
  exact go (w + 1) 0 (by have := big (w + 1); simp only [Nat.zero_add]; omega) (.inl rfl)
/-- a width fits a height -/
def Fit (w h : Nat) : Prop := L h ≤ w ∧ w ≤ 2 ^ h
theorem L_pow1 : ∀ n, L (n + 1) ≤ 2 ^ n + 1
  | 0 => by decide
  | 1 => by decide
  | n + 2 => by
    have h1 := L_pow1 (n + 1)
    have h2 := L_pow1 n
    have e : 2 ^ (n + 2) = 2 * (2 * 2 ^ n) := by rw [Nat.pow_succ, Nat.pow_succ]; omega
    have e1 : 2 ^ (n + 1) = 2 * 2 ^ n := by rw [Nat.pow_succ]; omega
    have e3 : 1 ≤ 2 ^ n := Nat.one_le_two_pow
    have e4 : L (n + 2 + 1) = L (n + 1 + 1) + L (n + 1) := rfl
    omega
theorem Tl.fit {w h : Nat} (x : Tl w h) (hw : 1 ≤ w) : Fit w h := by
  obtain ⟨xa, xb⟩ := x
  have := L_pow1 h
  refine ⟨?_, by omega⟩
  rcases xa with e | e
  · subst e; exact hw
  · exact e
/-- twice the least width, less one, is let by the two next lower heights -/
theorem L_half : ∀ n, 2 * L (n + 1) ≤ 2 ^ (n + 1) + 2 ^ n + 1
  | 0 => by decide
  | 1 => by decide
  | n + 2 => by
    have h1 := L_half (n + 1)
    have h2 := L_half n
    have e : 2 ^ (n + 2 + 1) = 2 * (2 * (2 * 2 ^ n)) := by rw [Nat.pow_succ, Nat.pow_succ, Nat.pow_succ]; omega
    have e0 : 2 ^ (n + 2) = 2 * (2 * 2 ^ n) := by rw [Nat.pow_succ, Nat.pow_succ]; omega
    have e1 : 2 ^ (n + 1) = 2 * 2 ^ n := by rw [Nat.pow_succ]; omega
    have e3 : 1 ≤ 2 ^ n := Nat.one_le_two_pow
    have e4 : L (n + 2 + 1) = L (n + 1 + 1) + L (n + 1) := rfl
    omega
/-- one of the first two ways is there -/
theorem way_there {w h : Nat} (f : Fit w (h + 1)) :
    (L h ≤ 2 ^ h ∧ L h + L h ≤ w ∧ w ≤ 2 ^ h + 2 ^ h) ∨ (∃ g, h = g + 1 ∧ L h + L g ≤ w ∧ w ≤ 2 ^ h + 2 ^ g) := by
  obtain ⟨a, b⟩ := f
  have e1 : 2 ^ (h + 1) = 2 ^ h + 2 ^ h := by rw [Nat.pow_succ]; omega
  by_cases c : L h + L h ≤ w
  · exact .inl ⟨L_le_pow h, c, by omega⟩
  · right
    cases h with
    | zero => simp only [L] at a c; omega
    | succ g =>
      refine ⟨g, rfl, a, ?_⟩
      have := L_half g
      omega
/-! even shapes -/
def evS (n : Nat) : Sh := if h : n ≤ 1 then .one else .two (evS ((n + 1) / 2)) (evS (n / 2))
theorem evS_1 {n : Nat} (h : n ≤ 1) : evS n = .one := by rw [evS, dif_pos h]
theorem evS_2 {n : Nat} (h : ¬ n ≤ 1) : evS n = .two (evS ((n + 1) / 2)) (evS (n / 2)) := by rw [evS, dif_neg h]
theorem evS_wid : ∀ n, 1 ≤ n → wid (evS n) = n := by
  intro n
  induction n using Nat.strongRecOn with
  | _ n ih =>
    intro h
    by_cases c : n ≤ 1
    · rw [evS_1 c]; simp only [wid]; omega
    · rw [evS_2 c]; simp only [wid]
      rw [ih _ (by omega) (by omega), ih _ (by omega) (by omega)]; omega
/-- how many bits -/
def bits (n : Nat) : Nat := if h : n = 0 then 0 else 1 + bits (n / 2)
theorem bits_0 : bits 0 = 0 := by rw [bits, dif_pos rfl]
theorem bits_s {n : Nat} (h : n ≠ 0) : bits n = 1 + bits (n / 2) := by rw [bits, dif_neg h]
theorem bits_mono : ∀ n m, m ≤ n → bits m ≤ bits n := by
  intro n
  induction n using Nat.strongRecOn with
  | _ n ih =>
    intro m h
    by_cases c : m = 0
    · subst c; rw [bits_0]; omega
    · rw [bits_s c, bits_s (show n ≠ 0 by omega)]
      have := ih (n / 2) (by omega) (m / 2) (by omega)
      omega
theorem bits_succ : ∀ n, bits (n + 1) ≤ bits n + 1 := by
  intro n
  induction n using Nat.strongRecOn with
  | _ n ih =>
    by_cases c : n = 0
    · subst c; decide +kernel
    · rw [bits_s c, bits_s (show n + 1 ≠ 0 by omega)]
      by_cases d : (n + 1) / 2 = n / 2
      · rw [d]; omega
      · rw [show (n + 1) / 2 = n / 2 + 1 by omega]
        have := ih (n / 2) (by omega)
        omega
theorem bits_log (n : Nat) (h : n ≠ 0) : bits n = n.log2 + 1 := by
  induction n using Nat.strongRecOn with
  | _ n ih =>
    rw [bits_s h]
    by_cases c : n / 2 = 0
    · have e : n = 1 := by omega
      subst e; decide +kernel
    · rw [ih _ (by omega) c, Nat.log2_def n, if_pos (show 2 ≤ n by omega)]; omega
theorem evS_hei : ∀ n, 1 ≤ n → hei (evS n) = bits (n - 1) ∧ bal (evS n) := by
  intro n
  induction n using Nat.strongRecOn with
  | _ n ih =>
    intro h
    by_cases c : n ≤ 1
    · rw [evS_1 c, show n - 1 = 0 by omega, bits_0]; exact ⟨rfl, trivial⟩
    · rw [evS_2 c]
      obtain ⟨a1, a2⟩ := ih ((n + 1) / 2) (by omega) (by omega)
      obtain ⟨b1, b2⟩ := ih (n / 2) (by omega) (by omega)
      have m := bits_mono ((n + 1) / 2 - 1) (n / 2 - 1) (by omega)
      have s : bits ((n + 1) / 2 - 1) ≤ bits (n / 2 - 1) + 1 := by
        by_cases d : (n + 1) / 2 - 1 = n / 2 - 1
        · rw [d]; omega
        · rw [show (n + 1) / 2 - 1 = n / 2 - 1 + 1 by omega]; exact bits_succ _
      simp only [hei, bal]
      rw [a1, b1, bits_s (show n - 1 ≠ 0 by omega), show (n - 1) / 2 = (n + 1) / 2 - 1 by omega]
      exact ⟨by omega, a2, b2, by omega, by omega⟩
theorem evS_low {n : Nat} (h : 1 ≤ n) (h2 : n ≤ 20000) : hei (evS n) ≤ 15 := by
  rw [(evS_hei n h).1]
  have := bits_mono 19999 (n - 1) (by omega)
  rw [show bits 19999 = 15 by decide +kernel] at this
  exact this
/-! the height of a balanced shape, by the program's way -/
def bh : Sh → Int
  | .one => 0
  | .two l r => if min (bh l) (bh r) < 0 ∨ 1 < (if bh l - bh r < 0 then -(bh l - bh r) else bh l - bh r) then -1 else 1 + max (bh l) (bh r)
theorem bh_is : ∀ s : Sh, (bal s → bh s = (hei s : Int)) ∧ (¬ bal s → bh s = -1)
  | .one => ⟨fun _ => rfl, fun h => absurd trivial h⟩
  | .two l r => by
    obtain ⟨l1, l2⟩ := bh_is l
    obtain ⟨r1, r2⟩ := bh_is r
    constructor
    · rintro ⟨a, b, c, d⟩
      simp only [bh, hei]
      rw [l1 a, r1 b, if_neg (by split <;> omega)]
      omega
    · intro h
      simp only [bh]
      by_cases a : bal l
      · by_cases b : bal r
        · rw [l1 a, r1 b]
          refine if_pos ?_
          by_cases c : hei l ≤ hei r + 1
          · by_cases d : hei r ≤ hei l + 1
            · exact absurd ⟨a, b, c, d⟩ h
            · right; split <;> omega
          · right; split <;> omega
        · rw [r2 b]; exact if_pos (.inl (by omega))
      · rw [l2 a]; exact if_pos (.inl (by omega))
theorem bh_nonneg {s : Sh} : 0 ≤ bh s ↔ bal s := by
  obtain ⟨a, b⟩ := bh_is s
  constructor
  · intro h
    by_cases c : bal s
    · exact c
    · rw [b c] at h; omega
  · intro h; rw [a h]; omega
end KM
namespace KM
/-! anything, looked at as a shape -/
inductive GS where
  | one
  | two (l r : GS)
  | bad
def wIn : Nat → GS → Nat
  | _, .one => 1
  | _, .bad => 0
  | 0, .two _ _ => 0
  | m + 1, .two l r => if wIn m l = 0 ∨ wIn m r = 0 ∨ 20000 < wIn m l + wIn m r then 0 else wIn m l + wIn m r
def Sh.g : Sh → GS
  | .one => .one
  | .two l r => .two l.g r.g
theorem wIn_sh : ∀ (s : Sh) (m : Nat), hei s ≤ m → wid s ≤ 20000 → wIn m s.g = wid s
  | .one, m, _, _ => by cases m <;> rfl
  | .two l r, 0, h, _ => by simp only [hei] at h; omega
  | .two l r, m + 1, h, h2 => by
    simp only [hei] at h
    simp only [wid] at h2
    simp only [Sh.g, wIn, wid]
    have := wid_pos l
    have := wid_pos r
    rw [wIn_sh l m (by omega) (by omega), wIn_sh r m (by omega) (by omega), if_neg (by omega)]
end KM
namespace KM
def owid : Option Sh → Nat
  | none => 0
  | some t => wid t
def ohei : Option Sh → Nat
  | none => 0
  | some t => hei t
end KM

/-! joined, cut, with a child more, with one less: plain mathematics -/
namespace KM
def epR (l i o : Sh) : Sh := if hei i ≤ hei o then .two (.two l i) o else match i with
  | .two a b => .two (.two l a) (.two b o)
  | .one => .two (.two l i) o
def epL (o i r : Sh) : Sh := if hei i ≤ hei o then .two o (.two i r) else match i with
  | .two a b => .two (.two o a) (.two b r)
  | .one => .two o (.two i r)
def ep (l r : Sh) : Sh :=
  if hei l + 1 < hei r then (match r with
    | .two i o => epR l i o
    | .one => .two l r)
  else if hei r + 1 < hei l then (match l with
    | .two o i => epL o i r
    | .one => .two l r)
  else .two l r
/-- what a putting together of two keeps: balance, the width, the height up to one more -/
structure Good (t : Sh) (w lo hi : Nat) : Prop where
  b : bal t
  w : wid t = w
  lo : lo ≤ hei t
  hi : hei t ≤ hi
theorem ep_r {l i o : Sh} (h : hei l + 1 < hei (.two i o)) : ep l (.two i o) = epR l i o := by unfold ep; rw [if_pos h]
theorem ep_l {o i r : Sh} (h1 : ¬ hei (.two o i) + 1 < hei r) (h2 : hei r + 1 < hei (.two o i)) : ep (.two o i) r = epL o i r := by unfold ep; rw [if_neg h1, if_pos h2]
theorem ep_e {l r : Sh} (h1 : ¬ hei l + 1 < hei r) (h2 : ¬ hei r + 1 < hei l) : ep l r = .two l r := by unfold ep; rw [if_neg h1, if_neg h2]
theorem ep_good {l r : Sh} (hl : bal l) (hr : bal r) (d1 : hei l ≤ hei r + 2) (d2 : hei r ≤ hei l + 2) :
    Good (ep l r) (wid l + wid r) (max (hei l) (hei r)) (max (hei l) (hei r) + 1) ∧ (hei l ≤ hei r + 1 → hei r ≤ hei l + 1 → hei (ep l r) = 1 + max (hei l) (hei r)) := by
  unfold ep
  by_cases c1 : hei l + 1 < hei r
  · rw [if_pos c1]
    cases r with
    | one => simp only [hei] at c1; omega
    | two i o =>
      obtain ⟨b1, b2, b3, b4⟩ := hr
      simp only [hei] at c1 d1 d2
      show Good (epR l i o) _ _ _ ∧ _
      unfold epR
      by_cases c2 : hei i ≤ hei o
      · rw [if_pos c2]
        refine ⟨⟨?_, ?_, ?_, ?_⟩, fun _ z => ?_⟩
        · simp only [bal, hei]; exact ⟨⟨hl, b1, by omega, by omega⟩, b2, by omega, by omega⟩
        · simp only [wid]; omega
        · simp only [hei]; omega
        · simp only [hei]; omega
        · simp only [hei] at z; omega
      · rw [if_neg c2]
        cases i with
        | one => simp only [hei] at c2; omega
        | two a b =>
          obtain ⟨a1, a2, a3, a4⟩ := b1
          simp only [hei] at c1 c2 d1 d2 b3 b4
          refine ⟨⟨?_, ?_, ?_, ?_⟩, fun _ z => ?_⟩
          · simp only [bal, hei]; exact ⟨⟨hl, a1, by omega, by omega⟩, ⟨a2, b2, by omega, by omega⟩, by omega, by omega⟩
          · simp only [wid]; omega
          · simp only [hei]; omega
          · simp only [hei]; omega
          · simp only [hei] at z; omega
  · rw [if_neg c1]
    by_cases c3 : hei r + 1 < hei l
    · rw [if_pos c3]
      cases l with
      | one => simp only [hei] at c3; omega
      | two o i =>
        obtain ⟨b1, b2, b3, b4⟩ := hl
        simp only [hei] at c1 c3 d1 d2
        show Good (epL o i r) _ _ _ ∧ _
        unfold epL
        by_cases c2 : hei i ≤ hei o
        · rw [if_pos c2]
          refine ⟨⟨?_, ?_, ?_, ?_⟩, fun z _ => ?_⟩
          · simp only [bal, hei]; exact ⟨b1, ⟨b2, hr, by omega, by omega⟩, by omega, by omega⟩
          · simp only [wid]; omega
          · simp only [hei]; omega
          · simp only [hei]; omega
          · simp only [hei] at z; omega
        · rw [if_neg c2]
          cases i with
          | one => simp only [hei] at c2; omega
          | two a b =>
            obtain ⟨a1, a2, a3, a4⟩ := b2
            simp only [hei] at c1 c2 c3 d1 d2 b3 b4
            refine ⟨⟨?_, ?_, ?_, ?_⟩, fun z _ => ?_⟩
            · simp only [bal, hei]; exact ⟨⟨b1, a1, by omega, by omega⟩, ⟨a2, hr, by omega, by omega⟩, by omega, by omega⟩
            · simp only [wid]; omega
            · simp only [hei]; omega
            · simp only [hei]; omega
            · simp only [hei] at z; omega
    · rw [if_neg c3]
      refine ⟨⟨?_, ?_, ?_, ?_⟩, fun _ _ => ?_⟩
      · simp only [bal]; exact ⟨hl, hr, by omega, by omega⟩
      · simp only [wid]
      · simp only [hei]; omega
      · simp only [hei]; omega
      · simp only [hei]
/-- joined -/
def jn (l r : Sh) : Sh :=
  if h1 : hei r + 1 < hei l then (match l, h1 with
    | .two f la, _ => ep f (jn la r)
    | .one, _ => .two l r)
  else if h2 : hei l + 1 < hei r then (match r, h2 with
    | .two f la, _ => ep (jn l f) la
    | .one, _ => .two l r)
  else .two l r
termination_by hei l + hei r
decreasing_by
  · simp only [hei]; omega
  · simp only [hei]; omega
theorem jn_l {f la r : Sh} (h : hei r + 1 < hei (.two f la)) : jn (.two f la) r = ep f (jn la r) := by rw [jn, dif_pos h]
theorem jn_r {l f la : Sh} (h1 : ¬ hei (.two f la) + 1 < hei l) (h : hei l + 1 < hei (.two f la)) : jn l (.two f la) = ep (jn l f) la := by rw [jn, dif_neg h1, dif_pos h]
theorem jn_e {l r : Sh} (h1 : ¬ hei r + 1 < hei l) (h2 : ¬ hei l + 1 < hei r) : jn l r = .two l r := by rw [jn, dif_neg h1, dif_neg h2]
theorem jn_good : ∀ (n : Nat) (l r : Sh), hei l + hei r ≤ n → bal l → bal r → Good (jn l r) (wid l + wid r) (max (hei l) (hei r)) (max (hei l) (hei r) + 1) := by
  intro n
  induction n with
  | zero =>
    intro l r h bl br
    rw [jn_e (by omega) (by omega)]
    exact ⟨⟨bl, br, by omega, by omega⟩, rfl, by simp only [hei]; omega, by simp only [hei]; omega⟩
  | succ n ih =>
    intro l r h bl br
    by_cases c1 : hei r + 1 < hei l
    · cases l with
      | one => simp only [hei] at c1; omega
      | two f la =>
        obtain ⟨b1, b2, b3, b4⟩ := bl
        rw [jn_l c1]
        simp only [hei] at c1 h
        obtain ⟨x1, x2, x3, x4⟩ := ih la r (by omega) b2 br
        obtain ⟨⟨y1, y2, y3, y4⟩, y5⟩ := ep_good b1 x1 (by omega) (by omega)
        refine ⟨y1, by rw [y2, x2]; simp only [wid]; omega, ?_, by simp only [hei]; omega⟩
        simp only [hei]
        by_cases c : hei (jn la r) ≤ hei f + 1
        · rw [y5 (by omega) c]; omega
        · omega
    · by_cases c2 : hei l + 1 < hei r
      · cases r with
        | one => simp only [hei] at c2; omega
        | two f la =>
          obtain ⟨b1, b2, b3, b4⟩ := br
          rw [jn_r c1 c2]
          simp only [hei] at c1 c2 h
          obtain ⟨x1, x2, x3, x4⟩ := ih l f (by omega) bl b1
          obtain ⟨⟨y1, y2, y3, y4⟩, y5⟩ := ep_good x1 b2 (by omega) (by omega)
          refine ⟨y1, by rw [y2, x2]; simp only [wid]; omega, ?_, by simp only [hei]; omega⟩
          simp only [hei]
          by_cases c : hei (jn l f) ≤ hei la + 1
          · rw [y5 c (by omega)]; omega
          · omega
      · rw [jn_e c1 c2]
        exact ⟨⟨bl, br, by omega, by omega⟩, rfl, by simp only [hei]; omega, by simp only [hei]; omega⟩
theorem jn_ok {l r : Sh} (bl : bal l) (br : bal r) : Good (jn l r) (wid l + wid r) (max (hei l) (hei r)) (max (hei l) (hei r) + 1) := jn_good _ l r (Nat.le_refl _) bl br
/-- .. where there may be none -/
def jo : Option Sh → Option Sh → Option Sh
  | none, r => r
  | some l, none => some l
  | some l, some r => some (jn l r)
def obal : Option Sh → Prop
  | none => True
  | some t => bal t
theorem jo_ok {l r : Option Sh} (bl : obal l) (br : obal r) : obal (jo l r) ∧ owid (jo l r) = owid l + owid r ∧ ohei (jo l r) ≤ max (ohei l) (ohei r) + 1 := by
  cases l with
  | none => exact ⟨br, by simp only [jo, owid]; omega, by simp only [jo, ohei]; omega⟩
  | some a =>
    cases r with
    | none => exact ⟨bl, by simp only [jo, owid]; omega, by simp only [jo, ohei]; omega⟩
    | some b =>
      obtain ⟨x1, x2, x3, x4⟩ := jn_ok (l := a) (r := b) bl br
      exact ⟨x1, x2, by simp only [jo, ohei]; omega⟩
/-- cut behind so many children -/
def ct : Sh → Nat → Option Sh × Option Sh
  | t, 0 => (none, some t)
  | .one, _ + 1 => (some .one, none)
  | .two l r, k + 1 => if k + 1 = wid (.two l r) then (some (.two l r), none)
    else if k + 1 ≤ wid l then ((ct l (k + 1)).1, jo (ct l (k + 1)).2 (some r))
    else (jo (some l) (ct r (k + 1 - wid l)).1, (ct r (k + 1 - wid l)).2)
theorem ct_ok : ∀ (t : Sh) (k : Nat), bal t → k ≤ wid t → obal (ct t k).1 ∧ obal (ct t k).2 ∧ owid (ct t k).1 = k ∧ owid (ct t k).2 = wid t - k ∧ ohei (ct t k).1 ≤ hei t ∧ ohei (ct t k).2 ≤ hei t := by
  intro t
  induction t with
  | one =>
    intro k b h
    simp only [wid] at h
    cases k with
    | zero => exact ⟨trivial, trivial, rfl, rfl, Nat.le_refl _, Nat.le_refl _⟩
    | succ k => exact ⟨trivial, trivial, by simp only [ct, owid, wid]; omega, by simp only [ct, owid, wid]; omega, Nat.le_refl _, Nat.le_refl _⟩
  | two l r il ir =>
    intro k b h
    obtain ⟨b1, b2, b3, b4⟩ := b
    cases k with
    | zero => exact ⟨trivial, ⟨b1, b2, b3, b4⟩, rfl, rfl, Nat.zero_le _, Nat.le_refl _⟩
    | succ k =>
      simp only [ct]
      by_cases c : k + 1 = wid (.two l r)
      · rw [if_pos c]
        exact ⟨⟨b1, b2, b3, b4⟩, trivial, c.symm, by simp only [owid]; omega, Nat.le_refl _, Nat.zero_le _⟩
      · rw [if_neg c]
        simp only [wid] at h c ⊢
        by_cases c2 : k + 1 ≤ wid l
        · rw [if_pos c2]
          obtain ⟨x1, x2, x3, x4, x5, x6⟩ := il (k + 1) b1 c2
          obtain ⟨y1, y2, y3⟩ := jo_ok (r := some r) x2 b2
          refine ⟨x1, y1, x3, ?_, by simp only [hei]; omega, ?_⟩
          · rw [y2, x4]; simp only [owid]; omega
          · simp only [hei, ohei] at *; omega
        · rw [if_neg c2]
          obtain ⟨x1, x2, x3, x4, x5, x6⟩ := ir (k + 1 - wid l) b2 (by omega)
          obtain ⟨y1, y2, y3⟩ := jo_ok (l := some l) b1 x1
          refine ⟨y1, x2, ?_, ?_, ?_, by simp only [hei]; omega⟩
          · rw [y2, x3]; simp only [owid]; omega
          · rw [x4]; omega
          · simp only [hei, ohei] at *; omega
/-- with one child more -/
def wt : Sh → Nat → Sh
  | .one, _ => .two .one .one
  | .two l r, p => if p ≤ wid l then ep (wt l p) r else ep l (wt r (p - wid l))
theorem wt_ok : ∀ (t : Sh) (p : Nat), bal t → Good (wt t p) (wid t + 1) (hei t) (hei t + 1) := by
  intro t
  induction t with
  | one => intro p b; exact ⟨by simp only [wt, bal, hei]; exact ⟨trivial, trivial, by omega, by omega⟩, rfl, by simp only [wt, hei]; omega, by simp only [wt, hei]; omega⟩
  | two l r il ir =>
    intro p b
    obtain ⟨b1, b2, b3, b4⟩ := b
    simp only [wt]
    by_cases c : p ≤ wid l
    · rw [if_pos c]
      obtain ⟨x1, x2, x3, x4⟩ := il p b1
      obtain ⟨⟨y1, y2, y3, y4⟩, y5⟩ := ep_good x1 b2 (by omega) (by omega)
      refine ⟨y1, by rw [y2, x2]; simp only [wid]; omega, ?_, by simp only [hei]; omega⟩
      simp only [hei]
      by_cases d : hei (wt l p) ≤ hei r + 1
      · rw [y5 d (by omega)]; omega
      · omega
    · rw [if_neg c]
      obtain ⟨x1, x2, x3, x4⟩ := ir (p - wid l) b2
      obtain ⟨⟨y1, y2, y3, y4⟩, y5⟩ := ep_good b1 x1 (by omega) (by omega)
      refine ⟨y1, by rw [y2, x2]; simp only [wid]; omega, ?_, by simp only [hei]; omega⟩
      simp only [hei]
      by_cases d : hei (wt r (p - wid l)) ≤ hei l + 1
      · rw [y5 (by omega) d]; omega
      · omega
/-- with one less -/
def wo : Sh → Nat → Option Sh
  | .one, _ => none
  | .two l r, p => if p < wid l then (match wo l p with
      | none => some r
      | some x => some (ep x r))
    else (match wo r (p - wid l) with
      | none => some l
      | some x => some (ep l x))
theorem wo_ok : ∀ (t : Sh) (p : Nat), bal t → (t = .one ∧ wo t p = none) ∨ ∃ x, wo t p = some x ∧ Good x (wid t - 1) (hei t - 1) (hei t) := by
  intro t
  induction t with
  | one => intro p _; exact .inl ⟨rfl, rfl⟩
  | two l r il ir =>
    intro p b
    obtain ⟨b1, b2, b3, b4⟩ := b
    right
    have wl := wid_pos l
    have wr := wid_pos r
    simp only [wo]
    by_cases c : p < wid l
    · rw [if_pos c]
      rcases il p b1 with ⟨rfl, e⟩ | ⟨x, e, x1, x2, x3, x4⟩
      · rw [e]
        simp only [hei] at b3 b4
        exact ⟨r, rfl, b2, by simp only [wid]; omega, by simp only [hei]; omega, by simp only [hei]; omega⟩
      · rw [e]
        obtain ⟨⟨y1, y2, y3, y4⟩, y5⟩ := ep_good x1 b2 (by omega) (by omega)
        refine ⟨ep x r, rfl, y1, by rw [y2, x2]; simp only [wid]; omega, by simp only [hei]; omega, ?_⟩
        simp only [hei]
        by_cases d : hei r ≤ hei x + 1
        · rw [y5 (by omega) d]; omega
        · omega
    · rw [if_neg c]
      rcases ir (p - wid l) b2 with ⟨rfl, e⟩ | ⟨x, e, x1, x2, x3, x4⟩
      · rw [e]
        simp only [hei] at b3 b4
        exact ⟨l, rfl, b1, by simp only [wid]; omega, by simp only [hei]; omega, by simp only [hei]; omega⟩
      · rw [e]
        obtain ⟨⟨y1, y2, y3, y4⟩, y5⟩ := ep_good b1 x1 (by omega) (by omega)
        refine ⟨ep l x, rfl, y1, by rw [y2, x2]; simp only [wid]; omega, by simp only [hei]; omega, ?_⟩
        simp only [hei]
        by_cases d : hei l ≤ hei x + 1
        · rw [y5 d (by omega)]; omega
        · omega
end KM

set_option maxHeartbeats 4000000
namespace KM
/-! anything, looked at as a shape: more of it -/
def gh : GS → Nat
  | .one => 0
  | .bad => 0
  | .two l r => 1 + max (gh l) (gh r)
def gl : GS → Nat
  | .one => 1
  | .bad => 1
  | .two l r => gl l + gl r
def isSh : GS → Bool
  | .one => true
  | .bad => false
  | .two l r => isSh l && isSh r
def gsz : GS → Option (Nat × Nat)
  | .one => some (1, 0)
  | .bad => none
  | .two l r => match gsz l, gsz r with
    | some (a, b), some (c, d) => if b ≤ d + 1 ∧ d ≤ b + 1 then some (a + c, 1 + max b d) else none
    | _, _ => none
theorem gl_pos : ∀ g : GS, 1 ≤ gl g
  | .one => Nat.le_refl _
  | .bad => Nat.le_refl _
  | .two l r => by have := gl_pos l; simp only [gl]; omega
theorem gh_lt : ∀ g : GS, gh g < gl g
  | .one => by decide
  | .bad => by decide
  | .two l r => by have := gh_lt l; have := gh_lt r; simp only [gl, gh]; omega
theorem isSh_g : ∀ s : Sh, isSh s.g = true
  | .one => rfl
  | .two l r => by simp only [Sh.g, isSh, isSh_g l, isSh_g r, Bool.and_self]
theorem sh_of : ∀ g : GS, isSh g = true → ∃ s : Sh, g = s.g
  | .one, _ => ⟨.one, rfl⟩
  | .bad, h => by cases h
  | .two l r, h => by
    simp only [isSh, Bool.and_eq_true] at h
    obtain ⟨a, rfl⟩ := sh_of l h.1
    obtain ⟨b, rfl⟩ := sh_of r h.2
    exact ⟨.two a b, rfl⟩
theorem hei_g : ∀ s : Sh, gh s.g = hei s
  | .one => rfl
  | .two l r => by simp only [Sh.g, gh, hei, hei_g l, hei_g r]
theorem wid_g : ∀ s : Sh, gl s.g = wid s
  | .one => rfl
  | .two l r => by simp only [Sh.g, gl, wid, wid_g l, wid_g r]
theorem g_inj : ∀ {s t : Sh}, s.g = t.g → s = t
  | .one, .one, _ => rfl
  | .one, .two _ _, h => by cases h
  | .two _ _, .one, h => by cases h
  | .two a b, .two c d, h => by
    simp only [Sh.g, GS.two.injEq] at h
    rw [g_inj h.1, g_inj h.2]
theorem gsz_is : ∀ s : Sh, (bal s → gsz s.g = some (wid s, hei s)) ∧ (¬ bal s → gsz s.g = none)
  | .one => ⟨fun _ => rfl, fun h => absurd trivial h⟩
  | .two l r => by
    obtain ⟨l1, l2⟩ := gsz_is l
    obtain ⟨r1, r2⟩ := gsz_is r
    constructor
    · rintro ⟨a, b, c, d⟩
      simp only [Sh.g, gsz, l1 a, r1 b, wid, hei]
      rw [if_pos ⟨c, d⟩]
    · intro h
      by_cases a : bal l
      · by_cases b : bal r
        · simp only [Sh.g, gsz, l1 a, r1 b]
          exact if_neg fun z => h ⟨a, b, z.1, z.2⟩
        · simp only [Sh.g, gsz, l1 a, r2 b]
      · simp only [Sh.g, gsz, l2 a]
theorem gsz_bad : ∀ g : GS, isSh g = false → gsz g = none
  | .one, h => by cases h
  | .bad, _ => rfl
  | .two l r, h => by
    simp only [isSh, Bool.and_eq_false_iff] at h
    rcases h with h | h
    · simp only [gsz, gsz_bad l h]
    · simp only [gsz, gsz_bad r h]
      split
      · rename_i z; cases z
      · rfl
theorem gsz_some {g : GS} {a b : Nat} (h : gsz g = some (a, b)) : ∃ s, g = s.g ∧ bal s ∧ a = wid s ∧ b = hei s := by
  cases e : isSh g with
  | false => rw [gsz_bad g e] at h; cases h
  | true =>
    obtain ⟨s, rfl⟩ := sh_of g e
    by_cases c : bal s
    · rw [(gsz_is s).1 c] at h
      cases h
      exact ⟨s, rfl, c, rfl, rfl⟩
    · rw [(gsz_is s).2 c] at h; cases h
theorem wIn_bad : ∀ (g : GS) (m : Nat), isSh g = false → wIn m g = 0
  | .one, _, h => by cases h
  | .bad, m, _ => by cases m <;> rfl
  | .two l r, 0, _ => rfl
  | .two l r, m + 1, h => by
    simp only [isSh, Bool.and_eq_false_iff] at h
    simp only [wIn]
    rcases h with h | h
    · exact if_pos (.inl (wIn_bad l m h))
    · exact if_pos (.inr (.inl (wIn_bad r m h)))
end KM
namespace KM
theorem bal_L : ∀ s : Sh, bal s → L (hei s) ≤ wid s
  | .one, _ => Nat.le_refl _
  | .two l r, ⟨a, b, c, d⟩ => by
    have hl := bal_L l a
    have hr := bal_L r b
    simp only [hei, wid]
    by_cases k : hei r ≤ hei l
    · rw [Nat.max_eq_left k]
      cases e : hei l with
      | zero =>
        have := wid_pos l
        have := wid_pos r
        simp only [L]
        omega
      | succ n =>
        rw [e] at hl
        have := L_mono (show n ≤ hei r by omega)
        rw [show 1 + (n + 1) = n + 2 by omega]
        simp only [L]
        omega
    · rw [Nat.max_eq_right (by omega)]
      cases e : hei r with
      | zero => omega
      | succ n =>
        rw [e] at hr
        have := L_mono (show n ≤ hei l by omega)
        rw [show 1 + (n + 1) = n + 2 by omega]
        simp only [L]
        omega
theorem hei_20 {s : Sh} (b : bal s) (h : wid s ≤ 20000) : hei s ≤ 20 := by
  have k := bal_L s b
  by_cases c : hei s ≤ 20
  · exact c
  · have := L_mono (show 21 ≤ hei s by omega)
    rw [L_21] at this
    omega
theorem hei_tl {s : Sh} {h : Nat} (b : bal s) (t : Tl (wid s) h) : hei s ≤ h := by
  have k := bal_L s b
  by_cases c : hei s ≤ h
  · exact c
  · have := L_mono (show h + 1 ≤ hei s by omega)
    have := t.2
    omega
end KM

set_option maxHeartbeats 4000000
section
open PySem PySem.Spec PyProof.Rows L2 KB
local macro_rules | `(tactic| walk_at "rd1") => `(tactic| first
  | with_reducible refine i_seq ?_
  | ((with_reducible refine i_var (v := ?vv) ?hv ?_); (case hv => exact rfl))
  | with_reducible refine i_c ?_
  | with_reducible refine i_op ?_
  | with_reducible refine i_rI0 ?_
  | with_reducible refine i_asg ?_
  | with_reducible refine i_gname ?_
  | with_reducible refine i_nx ?_
  | with_reducible refine i_rt ?_
  | with_reducible refine i_ret ?_
  | with_reducible refine i_ifS ?_
  | with_reducible refine i_test ?_
  | with_reducible refine i_bl ?_
  | with_reducible refine i_CB ?_
  | with_reducible refine i_call ?_
  | with_reducible refine i_cons ?_
  | with_reducible refine i_nil ?_
  | with_reducible refine i_eqI ?_
  | with_reducible refine i_eqS ?_
  | with_reducible refine i_neS ?_
  | with_reducible refine i_neI ?_
  | with_reducible refine i_isN0 ?_
  | with_reducible refine i_isNr ?_
  | with_reducible refine i_isNi ?_
  | with_reducible refine i_isNb ?_
  | with_reducible refine i_notN0 ?_
  | with_reducible refine i_notNr ?_
  | with_reducible refine i_notNi ?_
  | with_reducible refine i_isB ?_
  | with_reducible refine i_notB ?_
  | with_reducible refine i_B ?_
  | with_reducible refine i_and ?_
  | with_reducible refine i_or ?_
  | with_reducible refine i_not ?_
  | with_reducible refine i_andV ?_
  | with_reducible refine i_orV ?_
  | with_reducible refine i_notV ?_
  | with_reducible refine i_if ?_
  | with_reducible refine i_T ?_
  | with_reducible refine i_F ?_
  | with_reducible refine i_tup ?_
  | with_reducible refine i_lst ?_
  | with_reducible refine i_max2 ?_
  | with_reducible refine i_min2 ?_
  | with_reducible refine i_abs ?_
  | with_reducible refine i_int1 ?_
  | with_reducible refine i_un ?_
  | with_reducible refine i_rU ?_
  | with_reducible refine i_fld ?_
  | with_reducible refine i_meth ?_
  | with_reducible refine i_make ?_
  | with_reducible refine i_bits ?_
  | with_reducible refine i_int ?_
  | with_reducible refine i_next ?_
  | with_reducible refine i_drop ?_
  | with_reducible refine i_par ?_
  | with_reducible refine i_two ?_
  | with_reducible refine i_par3 ?_
  | with_reducible refine i_three ?_
  | with_reducible refine i_pcons ?_
  | with_reducible refine i_pnil ?_
  | with_reducible refine i_dnotin ?_
  | with_reducible refine i_din ?_
  | with_reducible refine i_dget ?_
  | with_reducible refine i_dput ?_
  | with_reducible refine i_for ?_
  | with_reducible refine i_iR1 ?_
  | with_reducible refine i_iR2 ?_
  | with_reducible refine i_iL ?_
  | with_reducible refine i_iT ?_
  | with_reducible refine i_sl ?_
  | with_reducible refine i_nopart ?_
  | with_reducible refine i_part ?_
  | with_reducible refine i_gtup ?_
  | with_reducible refine i_gcons ?_
  | with_reducible refine i_gnil ?_
  | with_reducible refine i_sub ?_
  | with_reducible refine i_slc ?_
  | with_reducible refine i_rev1 ?_
  | with_reducible refine i_zip ?_
  | with_reducible refine i_sfld ?_
  | with_reducible refine i_BM ?_
  | with_reducible refine i_bk ?_
  | with_reducible refine i_ct ?_
  | with_reducible refine i_brk ?_
  | with_reducible refine i_cnt ?_)
local macro_rules | `(tactic| walk_at "rd") => `(tactic| repeat walk_at "rd1")
namespace K62
open PySem PySem.Spec PyProof.Rows L2 KB KM
def top (i : Nat) : Stmt := PySem.Challenge.pw_lawfulpages_k62_joined_shapes_and_rows_o.main.body.getD i (.Pass ⟨0, 0, 0, 0⟩)
/-- what the top leaves, as the walk needs it -/
structure Txt (K : PySem.W.Frag) (mg : Str → Option Value) : Prop where
  g_isinstance : mg "isinstance" = none
  g_int : mg "int" = none
  g_bool : mg "bool" = none
  g_tuple : mg "tuple" = none
  g_list : mg "list" = none
  g_len : mg "len" = none
  g_max : mg "max" = none
  g_min : mg "min" = none
  g_abs : mg "abs" = none
  g_sum : mg "sum" = none
  g_range : mg "range" = none
  g_zip : mg "zip" = none
  g_MOST_NODES : ∃ t, mg "MOST_NODES" = some (.int 20000 t)
  g_MOST_HEIGHT : ∃ t, mg "MOST_HEIGHT" = some (.int 40 t)
  x_MatchError : ExcC K mg "MatchError" (He.ga K "MatchError")
  x_BadShape : ExcC K mg "BadShape" (He.ga K "BadShape")
  x_BadCount : ExcC K mg "BadCount" (He.ga K "BadCount")
  x_BadBalance : ExcC K mg "BadBalance" (He.ga K "BadBalance")
  c_Stem : Cls K (He.ga K "Stem")
  n_Stem_left : NoAttr K (He.ga K "Stem") "left"
  n_Stem_right : NoAttr K (He.ga K "Stem") "right"
  n_Stem_width : NoAttr K (He.ga K "Stem") "width"
  n_Stem_height : NoAttr K (He.ga K "Stem") "height"
  k_Stem : MakT K mg "Stem" (He.ga K "Stem") "Stem.__init__" (inClass (top 11) 0) ["self", "left", "right"]
  c_Builder : Cls K (He.ga K "Builder")
  b_Builder : Bare K mg "Builder" (He.ga K "Builder")
  m_Builder_pair : MetT K (He.ga K "Builder") "pair" "Builder.pair" (inClass (top 12) 0) ["self", "left", "right"]
  m_Builder_sides : MetT K (He.ga K "Builder") "sides" "Builder.sides" (inClass (top 12) 1) ["self", "tree"]
  e_MatchError_BadShape : PySem.W.exmOne K (.ref (He.ga K "MatchError")) (.ref (He.ga K "BadShape")) = some false
  e_BadShape_BadShape : PySem.W.exmOne K (.ref (He.ga K "BadShape")) (.ref (He.ga K "BadShape")) = some true
  e_BadCount_BadShape : PySem.W.exmOne K (.ref (He.ga K "BadCount")) (.ref (He.ga K "BadShape")) = some false
  e_BadBalance_BadShape : PySem.W.exmOne K (.ref (He.ga K "BadBalance")) (.ref (He.ga K "BadShape")) = some false
  e_MatchError_BadBalance : PySem.W.exmOne K (.ref (He.ga K "MatchError")) (.ref (He.ga K "BadBalance")) = some false
  e_BadShape_BadBalance : PySem.W.exmOne K (.ref (He.ga K "BadShape")) (.ref (He.ga K "BadBalance")) = some false
  e_BadCount_BadBalance : PySem.W.exmOne K (.ref (He.ga K "BadCount")) (.ref (He.ga K "BadBalance")) = some false
  e_BadBalance_BadBalance : PySem.W.exmOne K (.ref (He.ga K "BadBalance")) (.ref (He.ga K "BadBalance")) = some true
  d_is_integer : DefT K mg "is_integer" (top 7) ["thing"]
  d_need_count : DefT K mg "need_count" (top 8) ["thing", "most"]
  d_tallest_of : DefT K mg "tallest_of" (top 13) ["width"]
  d_width_in : DefT K mg "width_in" (top 14) ["thing", "most"]
  d_height_in : DefT K mg "height_in" (top 15) ["shape"]
  d_balanced_height : DefT K mg "balanced_height" (top 16) ["shape"]
  d_stem_of : DefT K mg "stem_of" (top 17) ["shape"]
  d_shape_of : DefT K mg "shape_of" (top 18) ["tree"]
  d_even_pair : DefT K mg "even_pair" (top 19) ["builder", "left", "right"]
  d_row_joined : DefT K mg "row_joined" (top 20) ["builder", "left", "right"]
  d_row_cut : DefT K mg "row_cut" (top 21) ["builder", "tree", "many"]
  d_row_with : DefT K mg "row_with" (top 22) ["builder", "tree", "place", "child"]
  d_row_without : DefT K mg "row_without" (top 23) ["builder", "tree", "place"]
  d_need_shape : DefT K mg "need_shape" (top 25) ["shape"]
  d_need_balanced : DefT K mg "need_balanced" (top 26) ["shape"]
  d_is_shape : DefT K mg "is_shape" (top 27) ["thing"]
  d_is_balanced : DefT K mg "is_balanced" (top 28) ["shape"]
  d_width_of : DefT K mg "width_of" (top 29) ["shape"]
  d_height_of : DefT K mg "height_of" (top 30) ["shape"]
  d_tallest : DefT K mg "tallest" (top 31) ["width"]
  d_joined_shapes : DefT K mg "joined_shapes" (top 32) ["shape", "other"]
  d_cut_shape : DefT K mg "cut_shape" (top 33) ["shape", "many"]
  d_put_shape : DefT K mg "put_shape" (top 34) ["shape", "place"]
  d_taken_shape : DefT K mg "taken_shape" (top 35) ["shape", "place"]
  d__law_feed : DefT K mg "_law_feed" (top 37) ["script", "k"]
  d__law_draw : DefT K mg "_law_draw" (top 38) ["feed", "many"]
  d__law_one : DefT K mg "_law_one" (top 39) ["feed", "things"]
  d__law_least : DefT K mg "_law_least" (top 40) ["height"]
  d__law_tallest : DefT K mg "_law_tallest" (top 41) ["width"]
  d__law_balanced : DefT K mg "_law_balanced" (top 42) ["feed", "width", "height"]
  d__law_any_balanced : DefT K mg "_law_any_balanced" (top 43) ["feed", "most"]
  d__law_grown : DefT K mg "_law_grown" (top 44) ["feed", "many", "spoil"]
  d__law_shape : DefT K mg "_law_shape" (top 45) ["feed", "most"]
  d__law_trouble : DefT K mg "_law_trouble" (top 46) ["thing"]
  d__law_sizes : DefT K mg "_law_sizes" (top 47) ["shape"]
  d__law_is_shape : DefT K mg "_law_is_shape" (top 48) ["thing"]
  d__law_even : DefT K mg "_law_even" (top 49) ["width", "known"]
  d__law_joined : DefT K mg "_law_joined" (top 50) ["one", "other"]
  d__law_right : DefT K mg "_law_right" (top 51) ["one", "other"]
  d__law_asked_one : DefT K mg "_law_asked_one" (top 52) ["script"]
  d__law_held : DefT K mg "_law_held" (top 53) ["shape", "width"]
  d__law_deed : DefT K mg "_law_deed" (top 54) ["feed", "held"]
  d__law_all_joined : DefT K mg "_law_all_joined" (top 55) ["held"]
  d__law_asked_two : DefT K mg "_law_asked_two" (top 56) ["script"]
  d_law : DefT K mg "law" (top 57) ["script"]
/-! ### types by names -/
abbrev TYS : List String := ["NoneType", "bool", "int", "str", "list", "tuple", "dict"]
theorem ty_int : ∀ n ∈ TYS, kitB n "int" = some (n == "int" || n == "bool") := by decide +kernel
theorem ty_bool : ∀ n ∈ TYS, kitB n "bool" = some (n == "bool") := by decide +kernel
theorem ty_tuple : ∀ n ∈ TYS, kitB n "tuple" = some (n == "tuple") := by decide +kernel
theorem ty_ib : ∀ n ∈ TYS, (n == "int" || n == "bool") = true → (!(n == "bool")) = (n == "int") := by decide +kernel
theorem ty_ib2 : ∀ n ∈ TYS, (n == "int" || n == "bool") = false → (n == "int") = false := by decide +kernel
/-- x is of a told type -/
def Kn (H : Hp) (x : V) (n : String) : Prop := tyN H x = some n ∧ n ∈ TYS
/-! ### shapes in the heap -/
inductive GShp (H : Hp) : V → GS → Prop where
  | one : GShp H .non .one
  | two {a : Addr} {x y : V} {l r : GS} : H a = some (.tup [x, y]) → GShp H x l → GShp H y r → GShp H (.ref a) (.two l r)
  | bad {v : V} {n : String} : v ≠ .non → Kn H v n → (n = "tuple" → ∃ a xs, v = .ref a ∧ H a = some (.tup xs) ∧ xs.length ≠ 2) → GShp H v .bad
inductive Shp (H : Hp) : V → Sh → Prop where
  | one : Shp H .non .one
  | two {a : Addr} {x y : V} {l r : Sh} : H a = some (.tup [x, y]) → Shp H x l → Shp H y r → Shp H (.ref a) (.two l r)
theorem Shp.g {H : Hp} {v : V} {s : Sh} (h : Shp H v s) : GShp H v s.g := by
  induction h with
  | one => exact .one
  | two a _ _ ih1 ih2 => exact .two a ih1 ih2
/-- the tuples stay -/
def Tups (H H' : Hp) : Prop := ∀ a xs, H a = some (.tup xs) → H' a = some (.tup xs)
theorem Shp.mono {H H' : Hp} {v : V} {s : Sh} (h : Shp H v s) (k : Tups H H') : Shp H' v s := by
  induction h with
  | one => exact .one
  | two a _ _ ih1 ih2 => exact .two (k _ _ a) ih1 ih2
theorem Same.tups {H H' : Hp} (s : Same H H') : Tups H H' := fun a xs h => s a _ h
section
variable {P : Program} {w : World} {K : PySem.W.Frag} {mg : Str → Option Value} {base : Heap}
/-! ### is_integer -/
def spIsInt : Sp := fun vs H Q _ => ∃ x n, vs = [x] ∧ Kn H x n ∧ Q (.bl (n == "int")) H
abbrev s_is_integer : Stmt := (top 7)
theorem sc_is_integer : FnScope ["thing"] ["thing"] (defScope s_is_integer) := ⟨rfl, rfl, rfl, by decide +kernel, rfl, by decide +kernel, by decide +kernel⟩
theorem b_is_integer (T : Txt K mg) : Body P w K mg base (0) ["thing"] "is_integer" (defScope s_is_integer) (defBody s_is_integer) spIsInt := by
  intro f cdv A outer s H vs Q E hr h
  obtain ⟨x, n, rfl, ⟨hn, hm⟩, q⟩ := h
  have hu := hu_of hr
  have tk : Takes (cxOf (L2.CX P w) P w K mg base ["thing"] "is_integer" (defScope s_is_integer) f cdv A outer s H E) (fun cls d _ H => E cls d H) := takes_of rfl rfl rfl rfl
  refine ⟨_, (pss_one (ps_ret (pe_and (pe_callB call_isN1 (by rfl) T.g_isinstance (by decide +kernel) (pa_cons (pv 0) (pa_cons (pe_ty "int" T.g_int) pa_nil))) (pe_one (pe_not (pe_callB call_isN1 (by rfl) T.g_isinstance (by decide +kernel) (pa_cons (pv 0) (pa_cons (pe_ty "bool" T.g_bool) pa_nil)))))))), ?_⟩
  refine i_start [some _] (by rfl) ?_
  try dsimp only [cxOf]
  walk_at "rd"
  refine i_inst hn (ty_int n hm) ?_
  walk_at "rd"
  refine i_bool (fun e => ?_) (fun e => ?_)
  · walk_at "rd"
    refine i_inst hn (ty_bool n hm) ?_
    walk_at "rd"
    rw [ty_ib n hm e]
    exact q
  · walk_at "rd"
    rw [ty_ib2 n hm e] at q
    exact q
/-! ### need_count -/
def spNeedCount (K : PySem.W.Frag) : Sp := fun vs H Q E => ∃ x n m, vs = [x, .int m] ∧ Kn H x n ∧ (∀ i, x = .int i → 0 ≤ i → i ≤ m → Q .non H) ∧
  ((∀ i, x = .int i → ¬ (0 ≤ i ∧ i ≤ m)) → E (.ref (He.ga K "BadCount")) none H)
abbrev s_need_count : Stmt := (top 8)
theorem sc_need_count : FnScope ["thing", "most"] ["thing", "most"] (defScope s_need_count) := ⟨rfl, rfl, rfl, by decide +kernel, rfl, by decide +kernel, by decide +kernel⟩
theorem kn_int {H : Hp} {x : V} {n : String} (h : Kn H x n) (e : (n == "int") = true) : ∃ i, x = .int i := by
  have e' : n = "int" := beq_iff_eq.mp e
  subst e'
  obtain ⟨h, _⟩ := h
  cases x with
  | int i => exact ⟨i, rfl⟩
  | ref a =>
    exfalso
    have h1 : (match H a with
      | some (.lst _) => some "list"
      | some (.tup _) => some "tuple"
      | some (.dK _) => some "dict"
      | some (.dT _) => some "dict"
      | some (.frz _ (.lst _)) => some "list"
      | _ => none) = some "int" := h
    split at h1 <;> simp at h1
  | _ => simp [tyN] at h
theorem kn_nint {H : Hp} {x : V} {n : String} (h : Kn H x n) (e : (n == "int") = false) : ∀ i, x ≠ .int i := by
  rintro i rfl
  obtain ⟨h, _⟩ := h
  simp only [tyN, Option.some.injEq] at h
  subst h
  simp at e
theorem b_need_count (T : Txt K mg) (C_is_integer : Cal P w K mg base 1 "is_integer" spIsInt) : Body P w K mg base (1) ["thing", "most"] "need_count" (defScope s_need_count) (defBody s_need_count) (spNeedCount K) := by
  intro f cdv A outer s H vs Q E hr h
  obtain ⟨x, n, m, rfl, hk, q1, q2⟩ := h
  have hu := hu_of hr
  have tk : Takes (cxOf (L2.CX P w) P w K mg base ["thing", "most"] "need_count" (defScope s_need_count) f cdv A outer s H E) (fun cls d _ H => E cls d H) := takes_of rfl rfl rfl rfl
  refine ⟨_, (pss_cons (ps_if (PW.pt (pw_or (pt_not (pt_val (pe_cal C_is_integer hr (by omega) tk (pa_cons (pv 0) pa_nil)))) (pw_or1 (pt_cmpR op_lt (pv 0) pe_int (nomark _))))) (pss_one (ps_raiseX T.x_BadCount tk)) pss_nil)
    (pss_one (ps_if (PW.pt (pw_and (pt_cmpR op_notN1 (pv 1) pe_non (nomark _)) (pw_and1 (pt_cmpR op_gt (pv 0) (pv 1) (nomark _))))) (pss_one (ps_raiseX T.x_BadCount tk)) pss_nil))), ?_⟩
  refine i_start [some _, some _] (by rfl) ?_
  try dsimp only [cxOf]
  walk_at "rd"
  refine ⟨x, n, rfl, hk, ?_⟩
  walk_at "rd"
  cases e : (n == "int") with
  | false =>
    walk_at "rd"
    refine i_T ?_
    exact q2 fun i ei _ => kn_nint hk e i ei
  | true =>
    obtain ⟨i, rfl⟩ := kn_int hk e
    refine i_F ?_
    walk_at "rd"
    refine i_dec (fun hi => ?_) (fun hi => ?_)
    · refine q2 fun j ej => ?_
      cases ej
      omega
    · walk_at "rd"
      refine i_dec (fun hj => ?_) (fun hj => ?_)
      · refine q2 fun j ej => ?_
        cases ej
        omega
      · walk_at "rd"
        exact q1 i rfl (by omega) (by omega)
end

end K62

set_option maxHeartbeats 4000000
namespace K62
open PySem PySem.Spec PyProof.Rows L2 KB KM
/-! ### stems -/
def stf (l r : V) (w h : Int) : List (Str × V) := [("left", l), ("right", r), ("width", .int w), ("height", .int h)]
theorem put_1 (l : V) : putF "left" l [] = [(("left" : Str), l)] := rfl
theorem put_2 (l r : V) : putF "right" r [("left", l)] = [(("left" : Str), l), ("right", r)] := by
  unfold putF
  rw [if_neg (by decide +kernel)]
  rfl
theorem put_3 (l r w : V) : putF "width" w [(("left" : Str), l), ("right", r)] = [(("left" : Str), l), ("right", r), ("width", w)] := by
  unfold putF
  rw [if_neg (by decide +kernel)]
  unfold putF
  rw [if_neg (by decide +kernel)]
  rfl
theorem put_4 (l r w h : V) : putF "height" h [(("left" : Str), l), ("right", r), ("width", w)] = [(("left" : Str), l), ("right", r), ("width", w), ("height", h)] := by
  unfold putF
  rw [if_neg (by decide +kernel)]
  unfold putF
  rw [if_neg (by decide +kernel)]
  unfold putF
  rw [if_neg (by decide +kernel)]
  rfl
theorem st_left {l r : V} {w h : Int} : (stf l r w h).lookup ("left" : Str) = some l := by rfl
theorem st_right {l r : V} {w h : Int} : (stf l r w h).lookup ("right" : Str) = some r := by rfl
theorem st_width {l r : V} {w h : Int} : (stf l r w h).lookup ("width" : Str) = some (.int w) := by rfl
theorem st_height {l r : V} {w h : Int} : (stf l r w h).lookup ("height" : Str) = some (.int h) := by rfl
inductive Stm (C : Addr) (H : Hp) : V → Sh → Prop where
  | one {a dx : Addr} : H a = some (.ins C dx (stf .non .non 1 0)) → Stm C H (.ref a) .one
  | two {a dx : Addr} {x y : V} {l r : Sh} : H a = some (.ins C dx (stf x y (wid (.two l r) : Nat) (hei (.two l r) : Nat))) → Stm C H x l → Stm C H y r → Stm C H (.ref a) (.two l r)
theorem Stm.at_ {C : Addr} {H : Hp} {v : V} {s : Sh} (h : Stm C H v s) : ∃ a dx x y, v = .ref a ∧ H a = some (.ins C dx (stf x y (wid s : Nat) (hei s : Nat))) ∧
    ((s = .one ∧ x = .non ∧ y = .non) ∨ ∃ l r, s = .two l r ∧ Stm C H x l ∧ Stm C H y r) := by
  cases h with
  | one e => exact ⟨_, _, _, _, rfl, e, .inl ⟨rfl, rfl, rfl⟩⟩
  | two e h1 h2 => exact ⟨_, _, _, _, rfl, e, .inr ⟨_, _, rfl, h1, h2⟩⟩
theorem Stm.mono {C : Addr} {H H' : Hp} {v : V} {s : Sh} (h : Stm C H v s) (k : Same H H') : Stm C H' v s := by
  induction h with
  | one e => exact .one (k _ _ e)
  | two e _ _ ih1 ih2 => exact .two (k _ _ e) ih1 ih2
section
variable {P : Program} {w : World} {K : PySem.W.Frag} {mg : Str → Option Value} {base : Heap}
abbrev CS (K : PySem.W.Frag) : Addr := He.ga K "Stem"
/-- both none, or two stems -/
def Sides (C : Addr) (H : Hp) (x y : V) (s : Sh) : Prop := (s = .one ∧ x = .non ∧ y = .non) ∨ ∃ l r, s = .two l r ∧ Stm C H x l ∧ Stm C H y r
def spStem (K : PySem.W.Frag) : Sp := fun vs H Q _ => ∃ p dx x y s, vs = [.ref p, x, y] ∧ H p = some (.ins (CS K) dx []) ∧ Sides (CS K) H x y s ∧
  Q .non (upd H p (.ins (CS K) dx (stf x y (wid s : Nat) (hei s : Nat))))
abbrev s_Stem___init__ : Stmt := (inClass (top 11) 0)
theorem sc_Stem___init__ : FnScope ["self", "left", "right"] ["self", "left", "right"] (defScope s_Stem___init__) := ⟨rfl, rfl, rfl, by decide +kernel, rfl, by decide +kernel, by decide +kernel⟩
theorem b_Stem (T : Txt K mg) : Body P w K mg base (0) ["self", "left", "right"] "Stem.__init__" (defScope s_Stem___init__) (defBody s_Stem___init__) (spStem K) := by
  intro f cdv A outer s H vs Q E hr h
  obtain ⟨p, dx, x, y, sh, rfl, hp, hs, q⟩ := h
  have hu := hu_of hr
  have tk : Takes (cxOf (L2.CX P w) P w K mg base ["self", "left", "right"] "Stem.__init__" (defScope s_Stem___init__) f cdv A outer s H E) (fun cls d _ H => E cls d H) := takes_of rfl rfl rfl rfl
  refine ⟨_, (pss_cons (ps_fld (pv 0) (pv 1) rfl)
    (pss_cons (ps_fld (pv 0) (pv 2) rfl)
    (pss_cons (ps_fld (pv 0) (pe_ifExp (pt_cmpR op_isN1 (pv 1) pe_non (nomark _)) pe_int (pe_op op_add (pe_fld (pv 1) rfl) (pe_fld (pv 2) rfl))) rfl)
    (pss_one (ps_fld (pv 0) (pe_ifExp (pt_cmpR op_isN1 (pv 1) pe_non (nomark _)) pe_int (pe_op op_add pe_int (pe_callB (call_max2K rfl) (by rfl) T.g_max (by decide +kernel) (pa_cons (pe_fld (pv 1) rfl) (pa_cons (pe_fld (pv 2) rfl) pa_nil))))) rfl))))), ?_⟩
  refine i_start [some _, some _, some _] (by rfl) ?_
  try dsimp only [cxOf]
  walk_at "rd"
  refine ⟨p, _, dx, _, rfl, hp, T.c_Stem, T.n_Stem_left, (by show 0 < 1000; decide), ?_⟩
  rw [put_1]
  walk_at "rd"
  refine ⟨p, _, dx, _, rfl, upd_same, T.c_Stem, T.n_Stem_right, (by show 1 < 1000; decide), ?_⟩
  rw [put_2, upd_upd]
  walk_at "rd"
  rcases hs with ⟨rfl, rfl, rfl⟩ | ⟨l, r, rfl, hl, hr2⟩
  · walk_at "rd"
    refine ⟨p, _, dx, _, rfl, upd_same, T.c_Stem, T.n_Stem_width, (by show 2 < 1000; decide), ?_⟩
    rw [put_3, upd_upd]
    walk_at "rd"
    refine ⟨p, _, dx, _, rfl, upd_same, T.c_Stem, T.n_Stem_height, (by show 3 < 1000; decide), ?_⟩
    rw [put_4, upd_upd]
    walk_at "rd"
    exact q
  · obtain ⟨a1, dx1, x1, y1, rfl, e1, _⟩ := hl.at_
    obtain ⟨a2, dx2, x2, y2, rfl, e2, _⟩ := hr2.at_
    have n1 : a1 ≠ p := ne_of e1 hp (by intro z; cases z)
    have n2 : a2 ≠ p := ne_of e2 hp (by intro z; cases z)
    walk_at "rd"
    refine i_fldR ((upd_ne n1).trans e1) T.c_Stem T.n_Stem_width st_width ?_
    walk_at "rd"
    refine i_fldR ((upd_ne n2).trans e2) T.c_Stem T.n_Stem_width st_width ?_
    walk_at "rd"
    refine ⟨p, _, dx, _, rfl, upd_same, T.c_Stem, T.n_Stem_width, (by show 2 < 1000; decide), ?_⟩
    rw [put_3, upd_upd]
    walk_at "rd"
    refine i_fldR ((upd_ne n1).trans e1) T.c_Stem T.n_Stem_height st_height ?_
    walk_at "rd"
    refine i_fldR ((upd_ne n2).trans e2) T.c_Stem T.n_Stem_height st_height ?_
    walk_at "rd"
    refine ⟨p, _, dx, _, rfl, upd_same, T.c_Stem, T.n_Stem_height, (by show 3 < 1000; decide), ?_⟩
    rw [put_4, upd_upd]
    walk_at "rd"
    have ew : ((wid l : Nat) : Int) + ((wid r : Nat) : Int) = ((wid (.two l r) : Nat) : Int) := by simp only [wid]; omega
    have eh : (1 : Int) + max ((hei l : Nat) : Int) ((hei r : Nat) : Int) = ((hei (.two l r) : Nat) : Int) := by simp only [hei]; omega
    rw [ew, eh]
    exact q

theorem len3 {sp : Sp} (h : ∀ vs H Q E, sp vs H Q E → ∃ a b c, vs = [a, b, c]) : ∀ vs H Q E, sp vs H Q E → vs.length = 3 := fun vs H Q E z => by
  obtain ⟨_, _, _, rfl⟩ := h vs H Q E z
  rfl
theorem m_Stem (T : Txt K mg) : Mak P w K mg base 1 "Stem" (CS K) (spStem K) := T.k_Stem.mak sc_Stem___init__ (fun vs H Q E h => by obtain ⟨_, _, _, _, _, rfl, _⟩ := h; rfl) (b_Stem T)
theorem c_is_integer (T : Txt K mg) : Cal P w K mg base 1 "is_integer" spIsInt := T.d_is_integer.cal sc_is_integer (fun vs H Q E h => by obtain ⟨_, _, rfl, _⟩ := h; rfl) (b_is_integer T)
theorem c_need_count (T : Txt K mg) : Cal P w K mg base 2 "need_count" (spNeedCount K) :=
  T.d_need_count.cal sc_need_count (fun vs H Q E h => by obtain ⟨_, _, _, rfl, _⟩ := h; rfl) (b_need_count T (c_is_integer T))
/-- a stem is made -/
theorem stem_made {H : Hp} {x y : V} {s : Sh} {Q : VK} (hs : Sides (CS K) H x y s) (q : ∀ p H', H p = none → Same H H' → Stm (CS K) H' (.ref p) s → Q (.ref p) H') :
    ∀ p dx, H p = none → H dx = none → dx ≠ p → spStem K (.ref p :: ([x, y] ++ [])) (L2.upd (L2.upd H dx (.own p)) p (.ins (CS K) dx [])) (fun v H2 => v = .non ∧ Q (.ref p) H2) E0 := by
  intro p dx hp hd ne
  have s1 : Same H (L2.upd (L2.upd H dx (.own p)) p (.ins (CS K) dx [])) := Same.upd (Same.new hd) hp
  have s2 : Same H (L2.upd (L2.upd (L2.upd H dx (.own p)) p (.ins (CS K) dx [])) p (.ins (CS K) dx (stf x y (wid s : Nat) (hei s : Nat)))) := by
    rw [upd_upd]
    exact Same.upd (Same.new hd) hp
  refine ⟨p, dx, x, y, s, rfl, upd_same, ?_, rfl, q p _ hp s2 ?_⟩
  · rcases hs with h | ⟨l, r, e, h1, h2⟩
    · exact .inl h
    · exact .inr ⟨l, r, e, h1.mono s1, h2.mono s1⟩
  · rcases hs with ⟨rfl, rfl, rfl⟩ | ⟨l, r, rfl, h1, h2⟩
    · exact .one upd_same
    · exact .two upd_same (h1.mono s2) (h2.mono s2)
/-! ### Builder.pair -/
abbrev CB (K : PySem.W.Frag) : Addr := He.ga K "Builder"
def spPair (K : PySem.W.Frag) : Sp := fun vs H Q _ => ∃ b x y l r, vs = [b, x, y] ∧ Stm (CS K) H x l ∧ Stm (CS K) H y r ∧ ∀ p H', Same H H' → Stm (CS K) H' (.ref p) (.two l r) → Q (.ref p) H'
abbrev s_Builder_pair : Stmt := (inClass (top 12) 0)
theorem sc_Builder_pair : FnScope ["self", "left", "right"] ["self", "left", "right"] (defScope s_Builder_pair) := ⟨rfl, rfl, rfl, by decide +kernel, rfl, by decide +kernel, by decide +kernel⟩
theorem b_pair (T : Txt K mg) (M_Stem : Mak P w K mg base 1 "Stem" (CS K) (spStem K)) : Body P w K mg base (2) ["self", "left", "right"] "Builder.pair" (defScope s_Builder_pair) (defBody s_Builder_pair) (spPair K) := by
  intro f cdv A outer s H vs Q E hr h
  obtain ⟨b, x, y, l, r, rfl, hl, hr2, q⟩ := h
  have hu := hu_of hr
  have tk : Takes (cxOf (L2.CX P w) P w K mg base ["self", "left", "right"] "Builder.pair" (defScope s_Builder_pair) f cdv A outer s H E) (fun cls d _ H => E cls d H) := takes_of rfl rfl rfl rfl
  refine ⟨_, (pss_one (ps_ret (pe_mak M_Stem hr (by omega) (pa_cons (pv 1) (pa_cons (pv 2) pa_nil))))), ?_⟩
  refine i_start [some _, some _, some _] (by rfl) ?_
  try dsimp only [cxOf]
  walk_at "rd"
  refine stem_made (s := .two l r) (.inr ⟨l, r, rfl, hl, hr2⟩) fun p H' _ s1 h1 => ?_
  walk_at "rd"
  exact q p H' s1 h1
/-! ### tallest_of -/
def spTallestOf : Sp := fun vs H Q _ => ∃ n : Nat, vs = [.int n] ∧ ∀ (h : Nat) (H' : Hp), Same H H' → Tl n h → Q (.int h) H'
abbrev s_tallest_of : Stmt := (top 13)
theorem sc_tallest_of : FnScope ["width", "height", "least", "more"] ["width"] (defScope s_tallest_of) := ⟨rfl, rfl, rfl, by decide +kernel, rfl, by decide +kernel, by decide +kernel⟩
theorem b_tallest_of (T : Txt K mg) : Body P w K mg base (0) ["width", "height", "least", "more"] "tallest_of" (defScope s_tallest_of) (defBody s_tallest_of) spTallestOf := by
  intro f cdv A outer s H vs Q E hr h
  obtain ⟨n, rfl, q⟩ := h
  have hu := hu_of hr
  have tk : Takes (cxOf (L2.CX P w) P w K mg base ["width", "height", "least", "more"] "tallest_of" (defScope s_tallest_of) f cdv A outer s H E) (fun cls d _ H => E cls d H) := takes_of rfl rfl rfl rfl
  refine ⟨_, (pss_cons (ps_asg (pe_tup (pa_cons pe_int (pa_cons pe_int (pa_cons pe_int pa_nil)))) (pg_tup (n := 3) (by rfl) (pgs_cons (pg_name (i := 1) sc_tallest_of.nd rfl (Or.inl rfl)) (pgs_cons (pg_name (i := 2) sc_tallest_of.nd rfl (Or.inl rfl)) (pgs_cons (pg_name (i := 3) sc_tallest_of.nd rfl (Or.inl rfl)) pgs_nil)))))
    (pss_cons (ps_while (passes_of rfl) (pt_cmpR op_le (pv 3) (pv 0) (nomark _)) (pss_one (ps_par3 (i := 1) (j := 2) (l := 3) (by rfl) sc_tallest_of.nd rfl rfl rfl (by decide) (by decide) (by decide) rfl rfl rfl (pa_cons (pe_op op_add (pv 1) pe_int) (pa_cons (pv 3) (pa_cons (pe_op op_add (pv 2) (pv 3)) pa_nil))) (by rfl))))
    (pss_one (ps_ret (pv 1))))), ?_⟩
  refine i_start [some _, none, none, none] (by rfl) ?_
  try dsimp only [cxOf]
  walk_at "rd"
  refine ⟨by show 3 ≤ sizeLine; decide, fun t ht => ?_⟩
  walk_at "rd"
  refine ⟨t, _, rfl, SqT.of upd_same, rfl, ?_⟩
  walk_at "rd"
  refine i_whileR (fun m s h => ∃ k : Nat, s = [some (.int n), some (.int k), some (.int (L k : Nat)), some (.int (L (k + 1) : Nat))] ∧ h = L2.upd H t (.tup [.int 0, .int 1, .int 2]) ∧ (k = 0 ∨ L k ≤ n) ∧ m = n + 1 - L (k + 1)) (n + 1 - L 1) ⟨0, rfl, rfl, .inl rfl, rfl⟩ ?_
  rintro m s h ⟨k, rfl, rfl, hk, rfl⟩
  walk_at "rd"
  refine i_dec (fun c => ?_) (fun c => ?_)
  · refine i_more ?_
    walk_at "rd"
    have lt : L (k + 1) < L (k + 2) := L_lt (k + 1)
    refine ⟨n + 1 - L (k + 2), by omega, k + 1, ?_, rfl, .inr (by omega), rfl⟩
    have e1 : (k : Int) + 1 = ((k + 1 : Nat) : Int) := by omega
    have e2 : ((L k : Nat) : Int) + ((L (k + 1) : Nat) : Int) = ((L (k + 2) : Nat) : Int) := by simp only [L]; omega
    rw [e1, e2]
    rfl
  · walk_at "rd"
    exact q k _ (Same.new ht) ⟨hk, by omega⟩
/-! ### width_in -/
def spWidthIn (n : Nat) : Sp := fun vs H Q _ => ∃ v m g, vs = [v, .int (m : Nat)] ∧ GShp H v g ∧ m ≤ n ∧ Q (.int (wIn m g : Nat)) H
abbrev s_width_in : Stmt := (top 14)
theorem sc_width_in : FnScope ["thing", "most", "left", "right"] ["thing", "most"] (defScope s_width_in) := ⟨rfl, rfl, rfl, by decide +kernel, rfl, by decide +kernel, by decide +kernel⟩
theorem b_width_in (T : Txt K mg) (n : Nat) (C_width_in : Cal P w K mg base (n + 0) "width_in" (spPre spWidthIn n)) : Body P w K mg base (n + 0) ["thing", "most", "left", "right"] "width_in" (defScope s_width_in) (defBody s_width_in) (spWidthIn n) := by
  intro f cdv A outer s H vs Q E hr h
  obtain ⟨v, m, g, rfl, hg, hm, q⟩ := h
  have hu := hu_of hr
  have tk : Takes (cxOf (L2.CX P w) P w K mg base ["thing", "most", "left", "right"] "width_in" (defScope s_width_in) f cdv A outer s H E) (fun cls d _ H => E cls d H) := takes_of rfl rfl rfl rfl
  refine ⟨_, (pss_cons (ps_if (pt_cmpR op_isN1 (pv 0) pe_non (nomark _)) (pss_one (ps_ret pe_int)) pss_nil)
    (pss_cons (ps_if (PW.pt (pw_or (pt_cmpR op_eq (pv 1) pe_int (nomark _)) (pw_or (pt_not (pt_val (pe_callB call_isN1 (by rfl) T.g_isinstance (by decide +kernel) (pa_cons (pv 0) (pa_cons (pe_ty "tuple" T.g_tuple) pa_nil))))) (pw_or1 (pt_cmpR op_ne (pe_callB call_lenK (by rfl) T.g_len (by decide +kernel) (pa_cons (pv 0) pa_nil)) pe_int (nomark _)))))) (pss_one (ps_ret pe_int)) pss_nil)
    (pss_cons (ps_set (i := 2) sc_width_in.nd rfl (Or.inl rfl) (pe_cal C_width_in hr (by omega) tk (pa_cons (pe_ix ix_seq (pv 0) pe_int (fun _ _ => rfl)) (pa_cons (pe_op op_sub (pv 1) pe_int) pa_nil))))
    (pss_cons (ps_set (i := 3) sc_width_in.nd rfl (Or.inl rfl) (pe_ifExp (pt_cmpR op_eq (pv 2) pe_int (nomark _)) pe_int (pe_cal C_width_in hr (by omega) tk (pa_cons (pe_ix ix_seq (pv 0) pe_int (fun _ _ => rfl)) (pa_cons (pe_op op_sub (pv 1) pe_int) pa_nil)))))
    (pss_cons (ps_if (PW.pt (pw_or (pt_cmpR op_eq (pv 3) pe_int (nomark _)) (pw_or1 (pt_cmpR op_gt (pe_op op_add (pv 2) (pv 3)) (pe_gint T.g_MOST_NODES) (nomark _))))) (pss_one (ps_ret pe_int)) pss_nil)
    (pss_one (ps_ret (pe_op op_add (pv 2) (pv 3))))))))), ?_⟩
  refine i_start [some _, some _, none, none] (by rfl) ?_
  try dsimp only [cxOf]
  walk_at "rd"
  cases hg with
  | one =>
    walk_at "rd"
    have e : wIn m .one = 1 := by cases m <;> rfl
    rw [e] at q
    exact q
  | @bad _ nn hv hk ht =>
    have e : wIn m .bad = 0 := by cases m <;> rfl
    rw [e] at q
    refine i_isNx hv ?_
    walk_at "rd"
    refine i_dec (fun h0 => ?_) (fun h0 => ?_)
    · walk_at "rd"
      exact q
    · walk_at "rd"
      refine i_inst hk.1 (ty_tuple nn hk.2) ?_
      walk_at "rd"
      cases et : (nn == "tuple") with
      | false =>
        walk_at "rd"
        refine i_T ?_
        exact q
      | true =>
        obtain ⟨a, xs, rfl, ha, hl⟩ := ht (beq_iff_eq.mp et)
        refine i_F ?_
        walk_at "rd"
        refine i_lenT (SqT.of ha) ?_
        walk_at "rd"
        refine i_ndec (fun _ => ?_) (fun z => absurd (by omega) hl)
        walk_at "rd"
        exact q
  | @two a x y l r ha hx hy =>
    walk_at "rd"
    refine i_dec (fun h0 => ?_) (fun h0 => ?_)
    · walk_at "rd"
      have e : m = 0 := by omega
      subst e
      exact q
    · obtain ⟨m', rfl⟩ : ∃ m', m = m' + 1 := ⟨m - 1, by omega⟩
      obtain ⟨n', rfl⟩ : ∃ n', n = n' + 1 := ⟨n - 1, by omega⟩
      have em : ((m' + 1 : Nat) : Int) - 1 = (m' : Nat) := by omega
      walk_at "rd"
      refine i_inst (tyN_tup ha) (ty_tuple "tuple" (by decide)) ?_
      walk_at "rd"
      refine i_F ?_
      walk_at "rd"
      refine i_lenT (SqT.of ha) ?_
      walk_at "rd"
      refine i_ndec (fun z => absurd rfl z) (fun _ => ?_)
      walk_at "rd"
      refine i_ixST (SqT.of ha) rfl ?_
      walk_at "rd"
      rw [em]
      refine ⟨x, m', l, rfl, hx, by omega, ?_⟩
      walk_at "rd"
      refine i_dec (fun hl => ?_) (fun hl => ?_)
      · walk_at "rd"
        refine i_T ?_
        walk_at "rd"
        rw [show wIn (m' + 1) (.two l r) = 0 by simp only [wIn]; exact if_pos (.inl (by omega))] at q
        exact q
      · walk_at "rd"
        refine i_ixST (SqT.of ha) rfl ?_
        walk_at "rd"
        rw [em]
        refine ⟨y, m', r, rfl, hy, by omega, ?_⟩
        walk_at "rd"
        refine i_dec (fun hr2 => ?_) (fun hr2 => ?_)
        · walk_at "rd"
          rw [show wIn (m' + 1) (.two l r) = 0 by simp only [wIn]; exact if_pos (.inr (.inl (by omega)))] at q
          exact q
        · walk_at "rd"
          refine i_dec (fun hs => ?_) (fun hs => ?_)
          · walk_at "rd"
            rw [show wIn (m' + 1) (.two l r) = 0 by simp only [wIn]; exact if_pos (.inr (.inr (by omega)))] at q
            exact q
          · walk_at "rd"
            rw [show wIn (m' + 1) (.two l r) = wIn m' l + wIn m' r by simp only [wIn]; exact if_neg (by omega)] at q
            rw [Int.natCast_add] at q
            exact q
end

end K62

set_option maxHeartbeats 4000000
namespace K62
open PySem PySem.Spec PyProof.Rows L2 KB KM
section
variable {P : Program} {w : World} {K : PySem.W.Frag} {mg : Str → Option Value} {base : Heap}
theorem m_pair (T : Txt K mg) : Met P w K mg base 3 (CB K) "pair" (spPair K) := T.m_Builder_pair.met T.c_Builder sc_Builder_pair (fun vs H Q E h => by obtain ⟨_, _, _, _, _, rfl, _⟩ := h; rfl) (b_pair T (m_Stem T))
theorem c_tallest_of (T : Txt K mg) : Cal P w K mg base 1 "tallest_of" spTallestOf := T.d_tallest_of.cal sc_tallest_of (fun vs H Q E h => by obtain ⟨_, rfl, _⟩ := h; rfl) (b_tallest_of T)
theorem c_width_in (T : Txt K mg) (n : Nat) : Cal P w K mg base (n + 0 + 1) "width_in" (spWidthIn n) := T.d_width_in.rec_ sc_width_in 0 (fun n vs H Q E h => by obtain ⟨_, _, _, rfl, _⟩ := h; rfl) (b_width_in T) n
/-! ### balanced_height -/
def spBalH (n : Nat) : Sp := fun vs H Q _ => ∃ v s, vs = [v] ∧ Shp H v s ∧ hei s ≤ n ∧ Q (.int (bh s)) H
abbrev s_balanced_height : Stmt := (top 16)
theorem sc_balanced_height : FnScope ["shape", "left", "right"] ["shape"] (defScope s_balanced_height) := ⟨rfl, rfl, rfl, by decide +kernel, rfl, by decide +kernel, by decide +kernel⟩
theorem b_balanced_height (T : Txt K mg) (n : Nat) (C_balanced_height : Cal P w K mg base (n + 0) "balanced_height" (spPre spBalH n)) : Body P w K mg base (n + 0) ["shape", "left", "right"] "balanced_height" (defScope s_balanced_height) (defBody s_balanced_height) (spBalH n) := by
  intro f cdv A outer s H vs Q E hr h
  obtain ⟨v, sh, rfl, hs, hm, q⟩ := h
  have hu := hu_of hr
  have tk : Takes (cxOf (L2.CX P w) P w K mg base ["shape", "left", "right"] "balanced_height" (defScope s_balanced_height) f cdv A outer s H E) (fun cls d _ H => E cls d H) := takes_of rfl rfl rfl rfl
  refine ⟨_, (pss_cons (ps_if (pt_cmpR op_isN1 (pv 0) pe_non (nomark _)) (pss_one (ps_ret pe_int)) pss_nil)
    (pss_cons (ps_set (i := 1) sc_balanced_height.nd rfl (Or.inl rfl) (pe_cal C_balanced_height hr (by omega) tk (pa_cons (pe_ix ix_tup (pv 0) pe_int (fun _ _ => rfl)) pa_nil)))
    (pss_cons (ps_set (i := 2) sc_balanced_height.nd rfl (Or.inl rfl) (pe_cal C_balanced_height hr (by omega) tk (pa_cons (pe_ix ix_tup (pv 0) pe_int (fun _ _ => rfl)) pa_nil)))
    (pss_cons (ps_if (PW.pt (pw_or (pt_cmpR op_lt (pe_callB (call_min2K rfl) (by rfl) T.g_min (by decide +kernel) (pa_cons (pv 1) (pa_cons (pv 2) pa_nil))) pe_int (nomark _)) (pw_or1 (pt_cmpR op_gt (pe_callB call_absK (by rfl) T.g_abs (by decide +kernel) (pa_cons (pe_op op_sub (pv 1) (pv 2)) pa_nil)) pe_int (nomark _))))) (pss_one (ps_ret (pe_un un_neg pe_int))) pss_nil)
    (pss_one (ps_ret (pe_op op_add pe_int (pe_callB (call_max2K rfl) (by rfl) T.g_max (by decide +kernel) (pa_cons (pv 1) (pa_cons (pv 2) pa_nil)))))))))), ?_⟩
  refine i_start [some _, none, none] (by rfl) ?_
  try dsimp only [cxOf]
  walk_at "rd"
  cases hs with
  | one =>
    walk_at "rd"
    exact q
  | @two a x y l r ha hx hy =>
    obtain ⟨n', rfl⟩ : ∃ n', n = n' + 1 := ⟨n - 1, by simp only [hei] at hm; omega⟩
    simp only [hei] at hm
    walk_at "rd"
    refine i_ixT (SqT.of ha) rfl ?_
    walk_at "rd"
    refine ⟨x, l, rfl, hx, by omega, ?_⟩
    walk_at "rd"
    refine i_ixT (SqT.of ha) rfl ?_
    walk_at "rd"
    refine ⟨y, r, rfl, hy, by omega, ?_⟩
    walk_at "rd"
    simp only [bh] at q
    refine i_dec (fun h1 => ?_) (fun h1 => ?_)
    · rw [if_pos (.inl h1)] at q
      walk_at "rd"
      exact q
    · walk_at "rd"
      refine i_dec (fun h2 => ?_) (fun h2 => ?_)
      · rw [if_pos (.inr h2)] at q
        walk_at "rd"
        exact q
      · rw [if_neg (by rintro (z | z); exact h1 z; exact h2 z)] at q
        walk_at "rd"
        exact q
theorem c_balanced_height (T : Txt K mg) (n : Nat) : Cal P w K mg base (n + 0 + 1) "balanced_height" (spBalH n) := T.d_balanced_height.rec_ sc_balanced_height 0 (fun n vs H Q E h => by obtain ⟨_, _, rfl, _⟩ := h; rfl) (b_balanced_height T) n
/-! ### stem_of -/
def spStemOf (K : PySem.W.Frag) (n : Nat) : Sp := fun vs H Q _ => ∃ v s, vs = [v] ∧ Shp H v s ∧ hei s ≤ n ∧ ∀ p H', Same H H' → Stm (CS K) H' (.ref p) s → Q (.ref p) H'
abbrev s_stem_of : Stmt := (top 17)
theorem sc_stem_of : FnScope ["shape"] ["shape"] (defScope s_stem_of) := ⟨rfl, rfl, rfl, by decide +kernel, rfl, by decide +kernel, by decide +kernel⟩
theorem b_stem_of (T : Txt K mg) (M_Stem : Mak P w K mg base 1 "Stem" (CS K) (spStem K)) (n : Nat) (C_stem_of : Cal P w K mg base (n + 2) "stem_of" (spPre (spStemOf K) n)) : Body P w K mg base (n + 2) ["shape"] "stem_of" (defScope s_stem_of) (defBody s_stem_of) (spStemOf K n) := by
  intro f cdv A outer s H vs Q E hr h
  obtain ⟨v, sh, rfl, hs, hm, q⟩ := h
  have hu := hu_of hr
  have tk : Takes (cxOf (L2.CX P w) P w K mg base ["shape"] "stem_of" (defScope s_stem_of) f cdv A outer s H E) (fun cls d _ H => E cls d H) := takes_of rfl rfl rfl rfl
  refine ⟨_, (pss_cons (ps_if (pt_cmpR op_isN1 (pv 0) pe_non (nomark _)) (pss_one (ps_ret (pe_mak M_Stem hr (by omega) (pa_cons pe_non (pa_cons pe_non pa_nil))))) pss_nil)
    (pss_one (ps_ret (pe_mak M_Stem hr (by omega) (pa_cons (pe_cal C_stem_of hr (by omega) tk (pa_cons (pe_ix ix_tup (pv 0) pe_int (fun _ _ => rfl)) pa_nil)) (pa_cons (pe_cal C_stem_of hr (by omega) tk (pa_cons (pe_ix ix_tup (pv 0) pe_int (fun _ _ => rfl)) pa_nil)) pa_nil)))))), ?_⟩
  refine i_start [some _] (by rfl) ?_
  try dsimp only [cxOf]
  walk_at "rd"
  cases hs with
  | one =>
    walk_at "rd"
    refine stem_made (s := .one) (.inl ⟨rfl, rfl, rfl⟩) fun p H' _ s1 h1 => ?_
    walk_at "rd"
    exact q p H' s1 h1
  | @two a x y l r ha hx hy =>
    obtain ⟨n', rfl⟩ : ∃ n', n = n' + 1 := ⟨n - 1, by simp only [hei] at hm; omega⟩
    simp only [hei] at hm
    walk_at "rd"
    refine i_ixT (SqT.of ha) rfl ?_
    walk_at "rd"
    refine ⟨x, l, rfl, hx, by omega, fun p1 H1 s1 t1 => ?_⟩
    walk_at "rd"
    refine i_ixT (SqT.of (s1 _ _ ha)) rfl ?_
    walk_at "rd"
    refine ⟨y, r, rfl, hy.mono (Same.tups s1), by omega, fun p2 H2 s2 t2 => ?_⟩
    walk_at "rd"
    refine stem_made (s := .two l r) (.inr ⟨l, r, rfl, t1.mono s2, t2⟩) fun p H' _ s3 h1 => ?_
    walk_at "rd"
    exact q p H' ((s1.trans s2).trans s3) h1
theorem c_stem_of (T : Txt K mg) (n : Nat) : Cal P w K mg base (n + 2 + 1) "stem_of" (spStemOf K n) := T.d_stem_of.rec_ sc_stem_of 2 (fun n vs H Q E h => by obtain ⟨_, _, rfl, _⟩ := h; rfl) (b_stem_of T (m_Stem T)) n
/-! ### shape_of -/
def OStm (C : Addr) (H : Hp) (v : V) : Option Sh → Prop
  | none => v = .non
  | some t => Stm C H v t
def OShp (H : Hp) (v : V) : Option Sh → Prop
  | none => ∃ p, v = .ref p ∧ H p = some (.tup [])
  | some t => Shp H v t
theorem OStm.mono {C : Addr} {H H' : Hp} {v : V} {o : Option Sh} (h : OStm C H v o) (k : Same H H') : OStm C H' v o := by
  cases o with
  | none => exact h
  | some t => exact Stm.mono h k
theorem OShp.mono {H H' : Hp} {v : V} {o : Option Sh} (h : OShp H v o) (k : Tups H H') : OShp H' v o := by
  cases o with
  | none =>
    obtain ⟨p, e, hp⟩ := h
    exact ⟨p, e, k _ _ hp⟩
  | some t => exact Shp.mono h k
def spShapeOf (K : PySem.W.Frag) (n : Nat) : Sp := fun vs H Q _ => ∃ v o, vs = [v] ∧ OStm (CS K) H v o ∧ ohei o ≤ n ∧ ∀ v' H', Same H H' → OShp H' v' o → Q v' H'
abbrev s_shape_of : Stmt := (top 18)
theorem sc_shape_of : FnScope ["tree"] ["tree"] (defScope s_shape_of) := ⟨rfl, rfl, rfl, by decide +kernel, rfl, by decide +kernel, by decide +kernel⟩
theorem b_shape_of (T : Txt K mg) (n : Nat) (C_shape_of : Cal P w K mg base (n + 0) "shape_of" (spPre (spShapeOf K) n)) : Body P w K mg base (n + 0) ["tree"] "shape_of" (defScope s_shape_of) (defBody s_shape_of) (spShapeOf K n) := by
  intro f cdv A outer s H vs Q E hr h
  obtain ⟨v, o, rfl, hs, hm, q⟩ := h
  have hu := hu_of hr
  have tk : Takes (cxOf (L2.CX P w) P w K mg base ["tree"] "shape_of" (defScope s_shape_of) f cdv A outer s H E) (fun cls d _ H => E cls d H) := takes_of rfl rfl rfl rfl
  refine ⟨_, (pss_cons (ps_if (pt_cmpR op_isN1 (pv 0) pe_non (nomark _)) (pss_one (ps_ret (pe_tup pa_nil))) pss_nil)
    (pss_cons (ps_if (pt_cmpR op_eq (pe_fld (pv 0) rfl) pe_int (nomark _)) (pss_one (ps_ret pe_non)) pss_nil)
    (pss_one (ps_ret (pe_tup (pa_cons (pe_cal C_shape_of hr (by omega) tk (pa_cons (pe_fld (pv 0) rfl) pa_nil)) (pa_cons (pe_cal C_shape_of hr (by omega) tk (pa_cons (pe_fld (pv 0) rfl) pa_nil)) pa_nil))))))), ?_⟩
  refine i_start [some _] (by rfl) ?_
  try dsimp only [cxOf]
  walk_at "rd"
  cases o with
  | none =>
    obtain rfl : v = .non := hs
    walk_at "rd"
    refine ⟨Nat.zero_le _, fun p hp => ?_⟩
    walk_at "rd"
    exact q _ _ (Same.new hp) ⟨p, rfl, upd_same⟩
  | some sh =>
    obtain ⟨a, dx, x, y, rfl, ha, hc⟩ := Stm.at_ hs
    walk_at "rd"
    refine i_fldR ha T.c_Stem T.n_Stem_height st_height ?_
    walk_at "rd"
    simp only [ohei] at hm
    rcases hc with ⟨rfl, rfl, rfl⟩ | ⟨l, r, rfl, hl, hr2⟩
    · refine i_dec (fun _ => ?_) (fun z => absurd rfl z)
      walk_at "rd"
      exact q _ H (Same.refl H) .one
    · refine i_dec (fun z => by simp only [hei] at z; omega) (fun _ => ?_)
      obtain ⟨n', rfl⟩ : ∃ n', n = n' + 1 := ⟨n - 1, by simp only [hei] at hm; omega⟩
      simp only [hei] at hm
      walk_at "rd"
      refine i_fldR ha T.c_Stem T.n_Stem_left st_left ?_
      walk_at "rd"
      refine ⟨x, some l, rfl, hl, by simp only [ohei]; omega, fun v1 H1 s1 t1 => ?_⟩
      walk_at "rd"
      refine i_fldR (s1 _ _ ha) T.c_Stem T.n_Stem_right st_right ?_
      walk_at "rd"
      refine ⟨y, some r, rfl, Stm.mono hr2 s1, by simp only [ohei]; omega, fun v2 H2 s2 t2 => ?_⟩
      walk_at "rd"
      refine ⟨by show 2 ≤ sizeLine; decide, fun t ht => ?_⟩
      walk_at "rd"
      have s3 : Same H2 (L2.upd H2 t (.tup [v1, v2])) := Same.new ht
      exact q _ _ ((s1.trans s2).trans s3) (.two upd_same (Shp.mono t1 (Same.tups (s2.trans s3))) (Shp.mono t2 (Same.tups s3)))
theorem c_shape_of (T : Txt K mg) (n : Nat) : Cal P w K mg base (n + 0 + 1) "shape_of" (spShapeOf K n) := T.d_shape_of.rec_ sc_shape_of 0 (fun n vs H Q E h => by obtain ⟨_, _, rfl, _⟩ := h; rfl) (b_shape_of T) n
end

end K62

set_option maxHeartbeats 4000000
namespace K62
open PySem PySem.Spec PyProof.Rows L2 KB KM
section
variable {P : Program} {w : World} {K : PySem.W.Frag} {mg : Str → Option Value} {base : Heap}
/-! ### height_in -/
def spHeightIn (n : Nat) : Sp := fun vs H Q _ => ∃ v s, vs = [v] ∧ Shp H v s ∧ hei s ≤ n ∧ Q (.int (hei s : Nat)) H
abbrev s_height_in : Stmt := (top 15)
theorem sc_height_in : FnScope ["shape"] ["shape"] (defScope s_height_in) := ⟨rfl, rfl, rfl, by decide +kernel, rfl, by decide +kernel, by decide +kernel⟩
theorem b_height_in (T : Txt K mg) (n : Nat) (C_height_in : Cal P w K mg base (n + 0) "height_in" (spPre spHeightIn n)) : Body P w K mg base (n + 0) ["shape"] "height_in" (defScope s_height_in) (defBody s_height_in) (spHeightIn n) := by
  intro f cdv A outer s H vs Q E hr h
  obtain ⟨v, sh, rfl, hs, hm, q⟩ := h
  have hu := hu_of hr
  have tk : Takes (cxOf (L2.CX P w) P w K mg base ["shape"] "height_in" (defScope s_height_in) f cdv A outer s H E) (fun cls d _ H => E cls d H) := takes_of rfl rfl rfl rfl
  refine ⟨_, (pss_cons (ps_if (pt_cmpR op_isN1 (pv 0) pe_non (nomark _)) (pss_one (ps_ret pe_int)) pss_nil)
    (pss_one (ps_ret (pe_op op_add pe_int (pe_callB (call_max2K rfl) (by rfl) T.g_max (by decide +kernel) (pa_cons (pe_cal C_height_in hr (by omega) tk (pa_cons (pe_ix ix_tup (pv 0) pe_int (fun _ _ => rfl)) pa_nil)) (pa_cons (pe_cal C_height_in hr (by omega) tk (pa_cons (pe_ix ix_tup (pv 0) pe_int (fun _ _ => rfl)) pa_nil)) pa_nil))))))), ?_⟩
  refine i_start [some _] (by rfl) ?_
  try dsimp only [cxOf]
  walk_at "rd"
  cases hs with
  | one =>
    walk_at "rd"
    exact q
  | @two a x y l r ha hx hy =>
    obtain ⟨n', rfl⟩ : ∃ n', n = n' + 1 := ⟨n - 1, by simp only [hei] at hm; omega⟩
    simp only [hei] at hm
    walk_at "rd"
    refine i_ixT (SqT.of ha) rfl ?_
    walk_at "rd"
    refine ⟨x, l, rfl, hx, by omega, ?_⟩
    walk_at "rd"
    refine i_ixT (SqT.of ha) rfl ?_
    walk_at "rd"
    refine ⟨y, r, rfl, hy, by omega, ?_⟩
    walk_at "rd"
    have eh : (1 : Int) + max ((hei l : Nat) : Int) ((hei r : Nat) : Int) = ((hei (.two l r) : Nat) : Int) := by simp only [hei]; omega
    rw [eh]
    exact q
theorem c_height_in (T : Txt K mg) (n : Nat) : Cal P w K mg base (n + 0 + 1) "height_in" (spHeightIn n) := T.d_height_in.rec_ sc_height_in 0 (fun n vs H Q E h => by obtain ⟨_, _, rfl, _⟩ := h; rfl) (b_height_in T) n
end

end K62

set_option maxHeartbeats 4000000
namespace K62
open PySem PySem.Spec PyProof.Rows L2 KB KM
section
variable {P : Program} {w : World} {K : PySem.W.Frag} {mg : Str → Option Value} {base : Heap}
/-! ### need_shape, is_balanced, width_of, height_of -/
theorem g_good : ∀ (g : GS) (m : Nat), wIn m g ≠ 0 → ∃ s : Sh, g = s.g ∧ hei s ≤ m ∧ wid s = wIn m g ∧ wid s ≤ 20000
  | .one, m, _ => ⟨.one, rfl, Nat.zero_le _, by cases m <;> rfl, by decide⟩
  | .bad, m, h => by exfalso; apply h; cases m <;> rfl
  | .two l r, 0, h => absurd rfl h
  | .two l r, m + 1, h => by
    simp only [wIn] at h ⊢
    split at h
    · exact absurd rfl h
    · rename_i c
      obtain ⟨a, rfl, h1, h2, h3⟩ := g_good l m (fun z => c (.inl z))
      obtain ⟨b, rfl, h4, h5, h6⟩ := g_good r m (fun z => c (.inr (.inl z)))
      refine ⟨.two a b, rfl, by simp only [hei]; omega, ?_, ?_⟩
      · rw [if_neg c]; simp only [wid]; omega
      · simp only [wid]; omega
theorem gshp_sh {H : Hp} : ∀ (s : Sh) (v : V), GShp H v s.g → Shp H v s
  | .one, _, h => by cases h; exact .one
  | .two l r, _, h => by
    cases h with
    | two a h1 h2 => exact .two a (gshp_sh l _ h1) (gshp_sh r _ h2)
/-- a judge of shapes -/
def spJudge (K : PySem.W.Frag) (f : Sh → V) : Sp := fun vs H Q E => ∃ v g, vs = [v] ∧ GShp H v g ∧ (wIn 40 g = 0 → E (.ref (He.ga K "BadShape")) none H) ∧
  ∀ s, g = s.g → Shp H v s → hei s ≤ 40 → wid s ≤ 20000 → Q (f s) H
abbrev s_need_shape : Stmt := (top 25)
theorem sc_need_shape : FnScope ["shape", "width"] ["shape"] (defScope s_need_shape) := ⟨rfl, rfl, rfl, by decide +kernel, rfl, by decide +kernel, by decide +kernel⟩
theorem b_need_shape (T : Txt K mg) (C_width_in : Cal P w K mg base 41 "width_in" (spWidthIn 40)) : Body P w K mg base (41) ["shape", "width"] "need_shape" (defScope s_need_shape) (defBody s_need_shape) (spJudge K fun s => .int (wid s : Nat)) := by
  intro f cdv A outer s H vs Q E hr h
  obtain ⟨v, g, rfl, hg, q1, q2⟩ := h
  have hu := hu_of hr
  have tk : Takes (cxOf (L2.CX P w) P w K mg base ["shape", "width"] "need_shape" (defScope s_need_shape) f cdv A outer s H E) (fun cls d _ H => E cls d H) := takes_of rfl rfl rfl rfl
  refine ⟨_, (pss_cons (ps_set (i := 1) sc_need_shape.nd rfl (Or.inl rfl) (pe_cal C_width_in hr (by omega) tk (pa_cons (pv 0) (pa_cons (pe_gint T.g_MOST_HEIGHT) pa_nil))))
    (pss_cons (ps_if (pt_cmpR op_eq (pv 1) pe_int (nomark _)) (pss_one (ps_raiseX T.x_BadShape tk)) pss_nil)
    (pss_one (ps_ret (pv 1))))), ?_⟩
  refine i_start [some _, none] (by rfl) ?_
  try dsimp only [cxOf]
  walk_at "rd"
  refine ⟨v, 40, g, rfl, hg, Nat.le_refl _, ?_⟩
  walk_at "rd"
  refine i_dec (fun h => ?_) (fun h => ?_)
  · walk_at "rd"
    exact q1 (by omega)
  · walk_at "rd"
    obtain ⟨sh, e, h1, h2, h3⟩ := g_good g 40 (by omega)
    rw [← h2]
    subst e
    exact q2 sh rfl (gshp_sh sh v hg) h1 h3
theorem c_need_shape (T : Txt K mg) : Cal P w K mg base 42 "need_shape" (spJudge K fun s => .int (wid s : Nat)) := T.d_need_shape.cal sc_need_shape (fun vs H Q E h => by obtain ⟨_, _, rfl, _⟩ := h; rfl) (b_need_shape T (c_width_in T 40))
end

end K62

set_option maxHeartbeats 4000000
namespace K62
open PySem PySem.Spec PyProof.Rows L2 KB KM
section
variable {P : Program} {w : World} {K : PySem.W.Frag} {mg : Str → Option Value} {base : Heap}
abbrev s_is_balanced : Stmt := (top 28)
theorem sc_is_balanced : FnScope ["shape"] ["shape"] (defScope s_is_balanced) := ⟨rfl, rfl, rfl, by decide +kernel, rfl, by decide +kernel, by decide +kernel⟩
theorem b_is_balanced (T : Txt K mg) (C_need_shape : Cal P w K mg base 42 "need_shape" (spJudge K fun s => .int (wid s : Nat))) (C_balanced_height : Cal P w K mg base 41 "balanced_height" (spBalH 40)) :
    Body P w K mg base (42) ["shape"] "is_balanced" (defScope s_is_balanced) (defBody s_is_balanced) (spJudge K fun s => .bl (decide (0 ≤ bh s))) := by
  intro f cdv A outer s H vs Q E hr h
  obtain ⟨v, g, rfl, hg, q1, q2⟩ := h
  have hu := hu_of hr
  have tk : Takes (cxOf (L2.CX P w) P w K mg base ["shape"] "is_balanced" (defScope s_is_balanced) f cdv A outer s H E) (fun cls d _ H => E cls d H) := takes_of rfl rfl rfl rfl
  refine ⟨_, (pss_cons (ps_expr (pe_cal C_need_shape hr (by omega) tk (pa_cons (pv 0) pa_nil)))
    (pss_one (ps_ret (pe_cmpR op_ge (pe_cal C_balanced_height hr (by omega) tk (pa_cons (pv 0) pa_nil)) pe_int (nomark _))))), ?_⟩
  refine i_start [some _] (by rfl) ?_
  try dsimp only [cxOf]
  walk_at "rd"
  refine ⟨v, g, rfl, hg, q1, fun sh e hs h1 h2 => ?_⟩
  walk_at "rd"
  refine ⟨v, sh, rfl, hs, h1, ?_⟩
  walk_at "rd"
  exact q2 sh e hs h1 h2
theorem c_is_balanced (T : Txt K mg) : Cal P w K mg base 43 "is_balanced" (spJudge K fun s => .bl (decide (0 ≤ bh s))) :=
  T.d_is_balanced.cal sc_is_balanced (fun vs H Q E h => by obtain ⟨_, _, rfl, _⟩ := h; rfl) (b_is_balanced T (c_need_shape T) (c_balanced_height T 40))
abbrev s_width_of : Stmt := (top 29)
theorem sc_width_of : FnScope ["shape"] ["shape"] (defScope s_width_of) := ⟨rfl, rfl, rfl, by decide +kernel, rfl, by decide +kernel, by decide +kernel⟩
theorem b_width_of (T : Txt K mg) (C_need_shape : Cal P w K mg base 42 "need_shape" (spJudge K fun s => .int (wid s : Nat))) : Body P w K mg base (42) ["shape"] "width_of" (defScope s_width_of) (defBody s_width_of) (spJudge K fun s => .int (wid s : Nat)) := by
  intro f cdv A outer s H vs Q E hr h
  obtain ⟨v, g, rfl, hg, q1, q2⟩ := h
  have hu := hu_of hr
  have tk : Takes (cxOf (L2.CX P w) P w K mg base ["shape"] "width_of" (defScope s_width_of) f cdv A outer s H E) (fun cls d _ H => E cls d H) := takes_of rfl rfl rfl rfl
  refine ⟨_, (pss_one (ps_ret (pe_cal C_need_shape hr (by omega) tk (pa_cons (pv 0) pa_nil)))), ?_⟩
  refine i_start [some _] (by rfl) ?_
  try dsimp only [cxOf]
  walk_at "rd"
  exact ⟨v, g, rfl, hg, q1, q2⟩
theorem c_width_of (T : Txt K mg) : Cal P w K mg base 43 "width_of" (spJudge K fun s => .int (wid s : Nat)) :=
  T.d_width_of.cal sc_width_of (fun vs H Q E h => by obtain ⟨_, _, rfl, _⟩ := h; rfl) (b_width_of T (c_need_shape T))
abbrev s_height_of : Stmt := (top 30)
theorem sc_height_of : FnScope ["shape"] ["shape"] (defScope s_height_of) := ⟨rfl, rfl, rfl, by decide +kernel, rfl, by decide +kernel, by decide +kernel⟩
theorem b_height_of (T : Txt K mg) (C_need_shape : Cal P w K mg base 42 "need_shape" (spJudge K fun s => .int (wid s : Nat))) (C_height_in : Cal P w K mg base 41 "height_in" (spHeightIn 40)) :
    Body P w K mg base (42) ["shape"] "height_of" (defScope s_height_of) (defBody s_height_of) (spJudge K fun s => .int (hei s : Nat)) := by
  intro f cdv A outer s H vs Q E hr h
  obtain ⟨v, g, rfl, hg, q1, q2⟩ := h
  have hu := hu_of hr
  have tk : Takes (cxOf (L2.CX P w) P w K mg base ["shape"] "height_of" (defScope s_height_of) f cdv A outer s H E) (fun cls d _ H => E cls d H) := takes_of rfl rfl rfl rfl
  refine ⟨_, (pss_cons (ps_expr (pe_cal C_need_shape hr (by omega) tk (pa_cons (pv 0) pa_nil)))
    (pss_one (ps_ret (pe_cal C_height_in hr (by omega) tk (pa_cons (pv 0) pa_nil))))), ?_⟩
  refine i_start [some _] (by rfl) ?_
  try dsimp only [cxOf]
  walk_at "rd"
  refine ⟨v, g, rfl, hg, q1, fun sh e hs h1 h2 => ?_⟩
  walk_at "rd"
  refine ⟨v, sh, rfl, hs, h1, ?_⟩
  exact q2 sh e hs h1 h2
theorem c_height_of (T : Txt K mg) : Cal P w K mg base 43 "height_of" (spJudge K fun s => .int (hei s : Nat)) :=
  T.d_height_of.cal sc_height_of (fun vs H Q E h => by obtain ⟨_, _, rfl, _⟩ := h; rfl) (b_height_of T (c_need_shape T) (c_height_in T 40))
/-! ### tallest -/
def spTallest (K : PySem.W.Frag) : Sp := fun vs H Q E => ∃ x n, vs = [x] ∧ Kn H x n ∧ (∀ n : Nat, x = .int n → n ≤ 20000 → ∀ (h : Nat) H', Same H H' → Tl n h → Q (.int h) H') ∧
  ((∀ i, x = .int i → ¬ (0 ≤ i ∧ i ≤ 20000)) → E (.ref (He.ga K "BadCount")) none H)
abbrev s_tallest : Stmt := (top 31)
theorem sc_tallest : FnScope ["width"] ["width"] (defScope s_tallest) := ⟨rfl, rfl, rfl, by decide +kernel, rfl, by decide +kernel, by decide +kernel⟩
theorem b_tallest (T : Txt K mg) (C_need_count : Cal P w K mg base 2 "need_count" (spNeedCount K)) (C_tallest_of : Cal P w K mg base 1 "tallest_of" spTallestOf) : Body P w K mg base (2) ["width"] "tallest" (defScope s_tallest) (defBody s_tallest) (spTallest K) := by
  intro f cdv A outer s H vs Q E hr h
  obtain ⟨x, n, rfl, hk, q1, q2⟩ := h
  have hu := hu_of hr
  have tk : Takes (cxOf (L2.CX P w) P w K mg base ["width"] "tallest" (defScope s_tallest) f cdv A outer s H E) (fun cls d _ H => E cls d H) := takes_of rfl rfl rfl rfl
  refine ⟨_, (pss_cons (ps_expr (pe_cal C_need_count hr (by omega) tk (pa_cons (pv 0) (pa_cons (pe_gint T.g_MOST_NODES) pa_nil))))
    (pss_one (ps_ret (pe_cal C_tallest_of hr (by omega) tk (pa_cons (pv 0) pa_nil))))), ?_⟩
  refine i_start [some _] (by rfl) ?_
  try dsimp only [cxOf]
  walk_at "rd"
  refine ⟨x, n, 20000, rfl, hk, fun i e h0 h1 => ?_, q2⟩
  walk_at "rd"
  subst e
  have ei : ((i.toNat : Nat) : Int) = i := by omega
  refine ⟨i.toNat, by rw [ei], fun h H' sm tl => ?_⟩
  exact q1 i.toNat (by rw [ei]) (by omega) h H' sm tl
theorem c_tallest (T : Txt K mg) : Cal P w K mg base 3 "tallest" (spTallest K) := T.d_tallest.cal sc_tallest (fun vs H Q E h => by obtain ⟨_, _, rfl, _⟩ := h; rfl) (b_tallest T (c_need_count T) (c_tallest_of T))
end

end K62

set_option maxHeartbeats 4000000
namespace K62
open PySem PySem.Spec PyProof.Rows L2 KB KM
set_option exponentiation.threshold 2000
/-! ### the law's draws -/
abbrev ib : Int → Nat := Builtin.Int.intBits
theorem ib_le {x : Int} {m : Nat} (h : x.natAbs < 2 ^ m) : ib x ≤ m := PyProof.Rows.intBits_le h
theorem ib_mono {x y : Int} (h : x.natAbs ≤ y.natAbs) : ib x ≤ ib y := by
  by_cases hx : x = 0
  · subst hx; exact Nat.zero_le _
  · have hy : y ≠ 0 := by omega
    show Builtin.Int.intBits x ≤ Builtin.Int.intBits y
    unfold Builtin.Int.intBits
    rw [if_neg (by simpa using hx), if_neg (by simpa using hy)]
    have h1 : x.natAbs < 2 ^ (y.natAbs.log2 + 1) := Nat.lt_of_le_of_lt h Nat.lt_log2_self
    have h2 := (Nat.log2_lt (by omega)).mpr h1
    omega
theorem mulx {x y : Int} (a b : Nat) (h1 : ib x ≤ a) (h2 : ib y ≤ b) (h : a + b ≤ 134217728) : CMulX x y := by
  unfold CMulX
  have h3 : Builtin.Int.intBits x ≤ a := h1
  have h4 : Builtin.Int.intBits y ≤ b := h2
  omega
/-- what a feed holds behind at most n stirred draws -/
def FdL (n : Nat) (xs : List V) : Prop := ∃ a b c : Int, xs = [.int a, .int b, .int c] ∧ 0 ≤ a ∧ ib a ≤ 1048576 ∧ 0 ≤ b ∧ b < 10 ^ 40 ∧ 0 ≤ c ∧ c ≤ n
theorem FdL.mono {n m : Nat} {xs : List V} (h : FdL n xs) (l : n ≤ m) : FdL m xs := by
  obtain ⟨a, b, c, e, h1, h2, h3, h4, h5, h6⟩ := h
  exact ⟨a, b, c, e, h1, h2, h3, h4, h5, by omega⟩
section
variable {P : Program} {w : World} {K : PySem.W.Frag} {mg : Str → Option Value} {base : Heap}
/-! ### _law_feed -/
def spFeed (K : PySem.W.Frag) : Sp := fun vs H Q _ => ∃ (a : Addr) (ns : List Int) (k : Nat), vs = [.ref a, .int k] ∧ SqL K H a (ns.map V.int) ∧ (∀ z ∈ ns, ib z ≤ 1048576) ∧ k ≤ 100 ∧
  ∀ (p : Addr) (xs : List V) (H' : Hp), H p = none → Same H H' → H' p = some (.lst xs) → FdL 0 xs → Q (.ref p) H'
theorem cut1 (ns : List Int) : cutV (ns.map V.int) none (some 1) = (ns.take 1).map V.int := by
  unfold cutV
  have e := HT.sIx_nat (ns.map V.int).length (ns.map V.int).length 1
  rw [show ((1 : Nat) : Int) = 1 from rfl] at e
  rw [e, HT.sIx_none, List.drop_zero, Nat.sub_zero, List.map_take, List.length_map]
  cases ns with
  | nil => rfl
  | cons z r => simp
theorem sum1 {ns : List Int} (h : ∀ z ∈ ns, ib z ≤ 1048576) : ib (ns.take 1).sum ≤ 1048576 := by
  cases ns with
  | nil => decide
  | cons z r => simpa using h z (by simp)
abbrev s__law_feed : Stmt := (top 37)
theorem sc__law_feed : FnScope ["script", "k", "cell"] ["script", "k"] (defScope s__law_feed) := ⟨rfl, rfl, rfl, by decide +kernel, rfl, by decide +kernel, by decide +kernel⟩
theorem feed_end {cell : Int} {k : Nat} (h : ∃ z : Int, ib z ≤ 1048576 ∧ z ≤ cell ∧ cell ≤ z + 100000) :
    FdL 0 [.int (max 0 (cell - 10 ^ (18 : Int).toNat)), .int ((cell * 19 + 7 * (k : Int)) % (10 ^ (39 : Int).toNat + 23)), .int 0] := by
  obtain ⟨z, h1, h2, h3⟩ := h
  refine ⟨_, _, _, rfl, by omega, ?_, Int.emod_nonneg _ (by decide +kernel), ?_, by omega, by omega⟩
  · refine Nat.le_trans (ib_mono ?_) h1
    rw [show (10 : Int) ^ (18 : Int).toNat = 1000000000000000000 by decide +kernel]
    omega
  · exact Int.lt_trans (Int.emod_lt_of_pos _ (by decide +kernel)) (by decide +kernel)
theorem b_feed (T : Txt K mg) : Body P w K mg base (0) ["script", "k", "cell"] "_law_feed" (defScope s__law_feed) (defBody s__law_feed) (spFeed K) := by
  intro f cdv A outer s H vs Q E hr h
  obtain ⟨a, ns, k, rfl, hS, hb, hk, q⟩ := h
  have hu := hu_of hr
  have tk : Takes (cxOf (L2.CX P w) P w K mg base ["script", "k", "cell"] "_law_feed" (defScope s__law_feed) f cdv A outer s H E) (fun cls d _ H => E cls d H) := takes_of rfl rfl rfl rfl
  refine ⟨_, (pss_cons (ps_set (i := 2) sc__law_feed.nd rfl (Or.inl rfl) (pe_op op_add (pe_op op_mul pe_int (pv 1)) (pe_callB (cr_sum rfl) (by rfl) T.g_sum (by decide +kernel) (pa_cons (pe_slice sl_list (pv 0) po_none (po_some pe_int)) pa_nil))))
    (pss_cons (ps_if (pt_cmpR op_lt (pv 1) (pe_callB call_lenK (by rfl) T.g_len (by decide +kernel) (pa_cons (pv 0) pa_nil)) (nomark _)) (pss_one (ps_set (i := 2) sc__law_feed.nd rfl (Or.inl rfl) (pe_ix ix_list (pv 0) (pv 1) (fun _ _ => rfl)))) pss_nil)
    (pss_one (ps_ret (pe_lst (pa_cons (pe_callB (call_max2K rfl) (by rfl) T.g_max (by decide +kernel) (pa_cons pe_int (pa_cons (pe_op op_sub (pv 2) (pe_op op_pow pe_int pe_int)) pa_nil))) (pa_cons (pe_op op_mod (pe_callTy call_int1K (by rfl) T.g_int (by decide +kernel) (pa_cons (pe_op op_add (pe_op op_mul (pv 2) pe_int) (pe_op op_mul pe_int (pv 1))) pa_nil)) (pe_op op_add (pe_op op_pow pe_int pe_int) pe_int)) (pa_cons pe_int pa_nil)))))))), ?_⟩
  refine i_start [some _, some _, none] (by rfl) ?_
  try dsimp only [cxOf]
  walk_at "rd"
  refine i_rI (.inl ⟨by decide, by decide⟩) ?_
  walk_at "rd"
  refine ⟨a, _, rfl, hS, fun sl hsl => ?_⟩
  walk_at "rd"
  rw [cut1]
  refine ⟨sl, ns.take 1, rfl, SqL.of upd_same, ?_⟩
  walk_at "rd"
  have s1 : Same H (L2.upd H sl (.lst ((ns.take 1).map V.int))) := Same.new hsl
  refine i_lenL (s1.seq hS) ?_
  walk_at "rd"
  have fin : ∀ cell : Int, (∃ z : Int, ib z ≤ 1048576 ∧ z ≤ cell ∧ cell ≤ z + 100000) → ∀ p, L2.upd H sl (.lst ((ns.take 1).map V.int)) p = none →
      Q (.ref p) (L2.upd (L2.upd H sl (.lst ((ns.take 1).map V.int))) p (.lst [.int (max 0 (cell - 10 ^ (18 : Int).toNat)), .int ((cell * 19 + 7 * (k : Int)) % (10 ^ (39 : Int).toNat + 23)), .int 0])) :=
    fun cell hc p hp => q p _ _ (s1.free hp) (s1.trans (Same.new hp)) upd_same (feed_end hc)
  refine i_dec (fun hl => ?_) (fun hl => ?_)
  · rw [List.length_map] at hl
    have hk2 : k < ns.length := by omega
    walk_at "rd"
    refine i_ixL (s1.seq hS) (atI_nat (v := .int ns[k]) (by rw [List.getElem?_map, List.getElem?_eq_getElem hk2]; rfl)) ?_
    walk_at "rd"
    refine i_rI ⟨by decide, by decide, by decide⟩ ?_
    walk_at "rd"
    refine i_rI (.inr ⟨by decide, by decide⟩) ?_
    walk_at "rd"
    refine i_rI (.inl ⟨by decide, by decide⟩) ?_
    walk_at "rd"
    refine i_rI ⟨by decide, by decide, by decide⟩ ?_
    walk_at "rd"
    refine i_rI (by decide +kernel) ?_
    walk_at "rd"
    refine ⟨by show 3 ≤ sizeLine; decide, ?_⟩
    exact fin ns[k] ⟨ns[k], hb _ (List.getElem_mem hk2), by omega, by omega⟩
  · walk_at "rd"
    refine i_rI ⟨by decide, by decide, by decide⟩ ?_
    walk_at "rd"
    refine i_rI (.inr ⟨by decide, by decide⟩) ?_
    walk_at "rd"
    refine i_rI (.inl ⟨by decide, by decide⟩) ?_
    walk_at "rd"
    refine i_rI ⟨by decide, by decide, by decide⟩ ?_
    walk_at "rd"
    refine i_rI (by decide +kernel) ?_
    walk_at "rd"
    refine ⟨by show 3 ≤ sizeLine; decide, ?_⟩
    exact fin _ ⟨(ns.take 1).sum, sum1 hb, by omega, by omega⟩
/-! ### _law_draw -/
def spDraw : Sp := fun vs H Q _ => ∃ fd many n xs, vs = [.ref fd, .int many] ∧ H fd = some (.lst xs) ∧ FdL n xs ∧ 0 < many ∧ many ≤ 10 ^ 70 ∧ n < 1000000 ∧
  ∀ g ys, 0 ≤ g → g < many → FdL (n + 1) ys → Q (.int g) (L2.upd H fd (.lst ys))
abbrev s__law_draw : Stmt := (top 38)
theorem sc__law_draw : FnScope ["feed", "many", "rest", "got", "stir"] ["feed", "many"] (defScope s__law_draw) := ⟨rfl, rfl, rfl, by decide +kernel, rfl, by decide +kernel, by decide +kernel⟩
theorem b_draw (T : Txt K mg) : Body P w K mg base (0) ["feed", "many", "rest", "got", "stir"] "_law_draw" (defScope s__law_draw) (defBody s__law_draw) spDraw := by
  intro f cdv A outer s H vs Q E hr h
  obtain ⟨fd, many, n, xs, rfl, hf, ⟨a, b, c, rfl, ha, hab, hb, hb2, hc, hcn⟩, hm, hm2, hn, q⟩ := h
  have hu := hu_of hr
  have tk : Takes (cxOf (L2.CX P w) P w K mg base ["feed", "many", "rest", "got", "stir"] "_law_draw" (defScope s__law_draw) f cdv A outer s H E) (fun cls d _ H => E cls d H) := takes_of rfl rfl rfl rfl
  refine ⟨_, (pss_cons (ps_if (pt_cmpR op_gt (pe_ix ix_list (pv 0) pe_int (fun _ _ => rfl)) pe_int (nomark _)) (pss_cons (ps_set (i := 2) sc__law_draw.nd rfl (Or.inl rfl) (pe_op op_fdivW (pe_ix ix_list (pv 0) pe_int (fun _ _ => rfl)) (pv 1)))
    (pss_cons (ps_set (i := 3) sc__law_draw.nd rfl (Or.inl rfl) (pe_op op_sub (pe_ix ix_list (pv 0) pe_int (fun _ _ => rfl)) (pe_op op_mulX (pv 2) (pv 1))))
    (pss_cons (ps_asg (pv 2) (pg_sub (pv 0) pe_int set_list))
    (pss_one (ps_ret (pv 3)))))) pss_nil)
    (pss_cons (ps_asg (pe_op op_add (pe_ix ix_list (pv 0) pe_int (fun _ _ => rfl)) pe_int) (pg_sub (pv 0) pe_int set_list))
    (pss_cons (ps_set (i := 4) sc__law_draw.nd rfl (Or.inl rfl) (pe_op op_add (pe_ix ix_list (pv 0) pe_int (fun _ _ => rfl)) (pe_op op_mul pe_int (pe_ix ix_list (pv 0) pe_int (fun _ _ => rfl)))))
    (pss_cons (ps_set (i := 4) sc__law_draw.nd rfl (Or.inl rfl) (pe_op op_mod (pe_callTy call_int1K (by rfl) T.g_int (by decide +kernel) (pa_cons (pe_op op_add (pe_op op_mulX (pe_op op_mulX (pv 4) (pv 4)) (pv 4)) (pe_op op_mul pe_int (pe_ix ix_list (pv 0) pe_int (fun _ _ => rfl)))) pa_nil)) (pe_op op_add (pe_op op_pow pe_int pe_int) pe_int)))
    (pss_cons (ps_set (i := 4) sc__law_draw.nd rfl (Or.inl rfl) (pe_op op_mod (pe_callTy call_int1K (by rfl) T.g_int (by decide +kernel) (pa_cons (pe_op op_add (pe_op op_mulX (pv 4) (pv 4)) pe_int) pa_nil)) (pe_op op_add (pe_op op_pow pe_int pe_int) pe_int)))
    (pss_one (ps_ret (pe_op op_mod (pe_callTy call_int1K (by rfl) T.g_int (by decide +kernel) (pa_cons (pe_op op_fdivW (pv 4) (pe_op op_pow pe_int pe_int)) pa_nil)) (pv 1))))))))), ?_⟩
  refine i_start [some _, some _, none, none, none] (by rfl) ?_
  try dsimp only [cxOf]
  walk_at "rd"
  have mN : many.natAbs < 2 ^ 240 := Nat.lt_of_le_of_lt (show many.natAbs ≤ 10 ^ 70 by omega) (by decide +kernel)
  refine i_ixL (SqL.of hf) rfl ?_
  walk_at "rd"
  refine i_dec (fun h1 => ?_) (fun h1 => ?_)
  · walk_at "rd"
    refine i_ixL (SqL.of hf) rfl ?_
    walk_at "rd"
    refine i_rI (wide_div hm mN (by decide) (by decide)) ?_
    walk_at "rd"
    refine i_ixL (SqL.of hf) rfl ?_
    walk_at "rd"
    have d0 : 0 ≤ a / many := Int.ediv_nonneg ha (by omega)
    have d1 : a / many ≤ a := Int.ediv_le_self _ ha
    have db : ib (a / many) ≤ 1048576 := Nat.le_trans (ib_mono (by omega)) hab
    have mb := ib_le mN
    refine i_rI (mulx 1048576 240 db mb (by decide)) ?_
    walk_at "rd"
    refine i_setL hf rfl ?_
    walk_at "rd"
    have e : a - a / many * many = a % many := by rw [Int.emod_def, Int.mul_comm]
    rw [e]
    exact q _ _ (Int.emod_nonneg _ (by omega)) (Int.emod_lt_of_pos _ hm) ⟨a / many, b, c, rfl, d0, db, hb, hb2, hc, by omega⟩
  · walk_at "rd"
    refine i_ixL (SqL.of hf) rfl ?_
    walk_at "rd"
    refine i_setL hf rfl ?_
    walk_at "rd"
    refine i_ixL (SqL.of upd_same) rfl ?_
    walk_at "rd"
    refine i_ixL (SqL.of upd_same) rfl ?_
    walk_at "rd"
    refine i_rI (.inl ⟨by decide, by decide⟩) ?_
    walk_at "rd"
    generalize hst : b + 6700417 * (c + 1) = st
    have st1 : ib st ≤ 200 := ib_le (Nat.lt_of_le_of_lt (show st.natAbs ≤ 10 ^ 41 by omega) (by decide +kernel))
    have st2 : ib (st * st) ≤ 400 := by
      refine ib_le ?_
      have h2 : st.natAbs < 2 ^ 200 := Nat.lt_of_le_of_lt (show st.natAbs ≤ 10 ^ 41 by omega) (by decide +kernel)
      exact wide_lt (a := 200) (b := 200) h2 h2
    refine i_rI (mulx 200 200 st1 st1 (by decide)) ?_
    walk_at "rd"
    refine i_rI (mulx 400 200 st2 st1 (by decide)) ?_
    walk_at "rd"
    refine i_ixL (SqL.of upd_same) rfl ?_
    walk_at "rd"
    refine i_rI (.inl ⟨by decide, by decide⟩) ?_
    walk_at "rd"
    refine i_rI ⟨by decide, by decide, by decide⟩ ?_
    walk_at "rd"
    refine i_rI (by decide +kernel) ?_
    walk_at "rd"
    generalize hs2 : (st * st * st + 15485863 * (c + 1)) % (10 ^ (43 : Int).toNat + 57) = s2
    have s20 : 0 ≤ s2 := by rw [← hs2]; exact Int.emod_nonneg _ (by decide +kernel)
    have s21 : s2 < 10 ^ (43 : Int).toNat + 57 := by rw [← hs2]; exact Int.emod_lt_of_pos _ (by decide +kernel)
    rw [show (10 : Int) ^ (43 : Int).toNat + 57 = 10 ^ 43 + 57 by decide +kernel] at s21
    have s2b : ib s2 ≤ 200 := ib_le (Nat.lt_of_le_of_lt (show s2.natAbs ≤ 10 ^ 44 by omega) (by decide +kernel))
    refine i_rI (mulx 200 200 s2b s2b (by decide)) ?_
    walk_at "rd"
    refine i_rI ⟨by decide, by decide, by decide⟩ ?_
    walk_at "rd"
    refine i_rI (by decide +kernel) ?_
    walk_at "rd"
    refine i_rI ⟨by decide, by decide, by decide⟩ ?_
    walk_at "rd"
    refine i_rI (show CDivW _ (10 ^ (9 : Int).toNat) from ⟨by decide +kernel, by decide +kernel⟩) ?_
    walk_at "rd"
    refine i_rI hm ?_
    walk_at "rd"
    exact q _ _ (Int.emod_nonneg _ (by omega)) (Int.emod_lt_of_pos _ hm) ⟨a, b, c + 1, rfl, ha, hab, hb, hb2, by omega, by omega⟩
end

end K62

set_option maxHeartbeats 4000000
namespace K62
open PySem PySem.Spec PyProof.Rows L2 KB KM
section
variable {P : Program} {w : World} {K : PySem.W.Frag} {mg : Str → Option Value} {base : Heap}
theorem c_feed (T : Txt K mg) : Cal P w K mg base 1 "_law_feed" (spFeed K) := T.d__law_feed.cal sc__law_feed (fun vs H Q E h => by obtain ⟨_, _, _, rfl, _⟩ := h; rfl) (b_feed T)
theorem c_draw (T : Txt K mg) : Cal P w K mg base 1 "_law_draw" spDraw := T.d__law_draw.cal sc__law_draw (fun vs H Q E h => by obtain ⟨_, _, _, _, rfl, _⟩ := h; rfl) (b_draw T)
/-! ### _law_one -/
def spOne : Sp := fun vs H Q _ => ∃ fd th n xs ys, vs = [.ref fd, .ref th] ∧ H fd = some (.lst xs) ∧ FdL n xs ∧ n < 1000000 ∧ H th = some (.lst ys) ∧ th ≠ fd ∧ ys ≠ [] ∧ ys.length ≤ 100000 ∧
  ∀ v zs, v ∈ ys → FdL (n + 1) zs → Q v (L2.upd H fd (.lst zs))
abbrev s__law_one : Stmt := (top 39)
theorem sc__law_one : FnScope ["feed", "things"] ["feed", "things"] (defScope s__law_one) := ⟨rfl, rfl, rfl, by decide +kernel, rfl, by decide +kernel, by decide +kernel⟩
theorem b_one (T : Txt K mg) (C__law_draw : Cal P w K mg base 1 "_law_draw" spDraw) : Body P w K mg base (1) ["feed", "things"] "_law_one" (defScope s__law_one) (defBody s__law_one) spOne := by
  intro f cdv A outer s H vs Q E hr h
  obtain ⟨fd, th, n, xs, ys, rfl, hf, hF, hn, ht, ne, hy, hl, q⟩ := h
  have hu := hu_of hr
  have tk : Takes (cxOf (L2.CX P w) P w K mg base ["feed", "things"] "_law_one" (defScope s__law_one) f cdv A outer s H E) (fun cls d _ H => E cls d H) := takes_of rfl rfl rfl rfl
  refine ⟨_, (pss_one (ps_ret (pe_ix ix_list (pv 1) (pe_cal C__law_draw hr (by omega) tk (pa_cons (pv 0) (pa_cons (pe_callB call_lenK (by rfl) T.g_len (by decide +kernel) (pa_cons (pv 1) pa_nil)) pa_nil))) (fun _ _ => rfl)))), ?_⟩
  refine i_start [some _, some _] (by rfl) ?_
  try dsimp only [cxOf]
  have hp : 0 < ys.length := List.length_pos_iff.mpr hy
  walk_at "rd"
  refine i_lenL (SqL.of ht) ?_
  walk_at "rd"
  refine ⟨fd, _, n, xs, rfl, hf, hF, by omega, by omega, hn, fun g zs g0 g1 hz => ?_⟩
  walk_at "rd"
  have hg : g.toNat < ys.length := by omega
  have eg : g = ((g.toNat : Nat) : Int) := by omega
  rw [eg]
  refine i_ixL (SqL.of ((upd_ne ne).trans ht)) (atI_nat (List.getElem?_eq_getElem hg)) ?_
  walk_at "rd"
  exact q _ zs (List.getElem_mem hg) hz
theorem c_one (T : Txt K mg) : Cal P w K mg base 2 "_law_one" spOne := T.d__law_one.cal sc__law_one (fun vs H Q E h => by obtain ⟨_, _, _, _, _, rfl, _⟩ := h; rfl) (b_one T (c_draw T))
/-! ### _law_least -/
def spLeast : Sp := fun vs H Q _ => ∃ n : Nat, vs = [.int n] ∧ n < 2 ^ 60 ∧ ∀ H', Same H H' → Q (.int (L n : Nat)) H'
abbrev s__law_least : Stmt := (top 40)
theorem sc__law_least : FnScope ["height", "least", "more", "turn"] ["height"] (defScope s__law_least) := ⟨rfl, rfl, rfl, by decide +kernel, rfl, by decide +kernel, by decide +kernel⟩
theorem b_least (T : Txt K mg) : Body P w K mg base (0) ["height", "least", "more", "turn"] "_law_least" (defScope s__law_least) (defBody s__law_least) spLeast := by
  intro f cdv A outer s H vs Q E hr h
  obtain ⟨n, rfl, hn, q⟩ := h
  have hu := hu_of hr
  have tk : Takes (cxOf (L2.CX P w) P w K mg base ["height", "least", "more", "turn"] "_law_least" (defScope s__law_least) f cdv A outer s H E) (fun cls d _ H => E cls d H) := takes_of rfl rfl rfl rfl
  refine ⟨_, (pss_cons (ps_asg (pe_tup (pa_cons pe_int (pa_cons pe_int pa_nil))) (pg_tup (n := 2) (by rfl) (pgs_cons (pg_name (i := 1) sc__law_least.nd rfl (Or.inl rfl)) (pgs_cons (pg_name (i := 2) sc__law_least.nd rfl (Or.inl rfl)) pgs_nil))))
    (pss_cons (ps_for (passes_of rfl) rfl (pi_range1 rfl T.g_range (pa_cons (pv 0) pa_nil)) (pg_name (i := 3) sc__law_least.nd rfl (Or.inl rfl)) (pss_one (ps_par (i := 1) (j := 2) (by rfl) sc__law_least.nd rfl rfl (by decide) rfl rfl (pa_cons (pv 2) (pa_cons (pe_op op_add (pv 1) (pv 2)) pa_nil)) (by rfl))))
    (pss_one (ps_ret (pv 1))))), ?_⟩
  refine i_start [some _, none, none, none] (by rfl) ?_
  try dsimp only [cxOf]
  walk_at "rd"
  refine ⟨by show 2 ≤ sizeLine; decide, fun t ht => ?_⟩
  walk_at "rd"
  refine ⟨t, _, rfl, SqT.of upd_same, rfl, ?_⟩
  walk_at "rd"
  refine ⟨n, rfl, by omega, by omega, ?_⟩
  refine for_range (lo := 0) (n := ((n : Int)).toNat) (fun i s h => ∃ z, s = [some (.int n), some (.int (L i : Nat)), some (.int (L (i + 1) : Nat)), z] ∧ h = L2.upd H t (.tup [.int 1, .int 2])) ⟨none, rfl, rfl⟩ ?_ ?_
  · rintro i s h hi ⟨z, rfl, rfl⟩
    walk_at "rd"
    have e2 : ((L i : Nat) : Int) + ((L (i + 1) : Nat) : Int) = ((L (i + 2) : Nat) : Int) := by simp only [L]; omega
    rw [e2]
    exact ⟨_, rfl, rfl⟩
  · rintro s h ⟨z, rfl, rfl⟩
    rw [Int.toNat_natCast]
    walk_at "rd"
    exact q _ (Same.new ht)
theorem c_least (T : Txt K mg) : Cal P w K mg base 1 "_law_least" spLeast := T.d__law_least.cal sc__law_least (fun vs H Q E h => by obtain ⟨_, rfl, _⟩ := h; rfl) (b_least T)
/-! ### _law_tallest -/
def spLTallest : Sp := fun vs H Q _ => ∃ n : Nat, vs = [.int n] ∧ n ≤ 100000 ∧ ∀ (h : Nat) H', Same H H' → Tl n h → Q (.int h) H'
theorem L_big : ∀ n, n < L n := by
  intro n
  induction n with
  | zero => decide
  | succ n ih => have := L_lt n; omega
abbrev s__law_tallest : Stmt := (top 41)
theorem sc__law_tallest : FnScope ["width", "height"] ["width"] (defScope s__law_tallest) := ⟨rfl, rfl, rfl, by decide +kernel, rfl, by decide +kernel, by decide +kernel⟩
theorem b_ltallest (T : Txt K mg) (C__law_least : Cal P w K mg base 1 "_law_least" spLeast) : Body P w K mg base (1) ["width", "height"] "_law_tallest" (defScope s__law_tallest) (defBody s__law_tallest) spLTallest := by
  intro f cdv A outer s H vs Q E hr h
  obtain ⟨n, rfl, hn, q⟩ := h
  have hu := hu_of hr
  have tk : Takes (cxOf (L2.CX P w) P w K mg base ["width", "height"] "_law_tallest" (defScope s__law_tallest) f cdv A outer s H E) (fun cls d _ H => E cls d H) := takes_of rfl rfl rfl rfl
  refine ⟨_, (pss_cons (ps_set (i := 1) sc__law_tallest.nd rfl (Or.inl rfl) pe_int)
    (pss_cons (ps_while (passes_of rfl) (pt_cmpR op_le (pe_cal C__law_least hr (by omega) tk (pa_cons (pe_op op_add (pv 1) pe_int) pa_nil)) (pv 0) (nomark _)) (pss_one (ps_set (i := 1) sc__law_tallest.nd rfl (Or.inl rfl) (pe_op op_add (pv 1) pe_int))))
    (pss_one (ps_ret (pv 1))))), ?_⟩
  refine i_start [some _, none] (by rfl) ?_
  try dsimp only [cxOf]
  walk_at "rd"
  refine i_whileR (fun m s h => ∃ k : Nat, s = [some (.int n), some (.int k)] ∧ Same H h ∧ (k = 0 ∨ L k ≤ n) ∧ m = n + 1 - L (k + 1)) (n + 1 - L 1) ⟨0, rfl, Same.refl H, .inl rfl, rfl⟩ ?_
  rintro m s h ⟨k, rfl, s1, hk, rfl⟩
  walk_at "rd"
  have kb : k ≤ n := by have := L_big k; rcases hk with e | e <;> omega
  refine ⟨k + 1, by rw [Int.natCast_add]; rfl, by omega, fun H2 s2 => ?_⟩
  walk_at "rd"
  refine i_dec (fun c => ?_) (fun c => ?_)
  · refine i_more ?_
    walk_at "rd"
    have lt : L (k + 1) < L (k + 2) := L_lt (k + 1)
    refine ⟨n + 1 - L (k + 2), by omega, k + 1, ?_, s1.trans s2, .inr (by omega), rfl⟩
    rw [Int.natCast_add]
    rfl
  · walk_at "rd"
    exact q k H2 (s1.trans s2) ⟨hk, by omega⟩
theorem c_ltallest (T : Txt K mg) : Cal P w K mg base 2 "_law_tallest" spLTallest := T.d__law_tallest.cal sc__law_tallest (fun vs H Q E h => by obtain ⟨_, rfl, _⟩ := h; rfl) (b_ltallest T (c_least T))
end

end K62

set_option maxHeartbeats 4000000
namespace K62
open PySem PySem.Spec PyProof.Rows L2 KB KM
/-- all but one object stays -/
def SameX (f : Addr) (H H' : Hp) : Prop := ∀ b o, b ≠ f → H b = some o → H' b = some o
theorem SameX.refl (f : Addr) (H : Hp) : SameX f H H := fun _ _ _ h => h
theorem SameX.trans {f : Addr} {H H1 H2 : Hp} (a : SameX f H H1) (b : SameX f H1 H2) : SameX f H H2 := fun c o n h => b c o n (a c o n h)
theorem SameX.of {f : Addr} {H H' : Hp} (a : Same H H') : SameX f H H' := fun c o _ h => a c o h
theorem SameX.upd {f : Addr} {H : Hp} {o : HO} : SameX f H (L2.upd H f o) := fun c u n h => (upd_ne n).trans h
theorem SameX.new {f p : Addr} {H H' : Hp} {o : HO} (a : SameX f H H') (hp : H' p = none) : SameX f H (L2.upd H' p o) := fun c u n h => by
  have e := a c u n h
  rw [upd_ne (ne_of_none e hp)]
  exact e
theorem SameX.tups {f : Addr} {H H' : Hp} {xs : List V} (a : SameX f H H') (h : H f = some (.lst xs)) : Tups H H' := fun b ys e => a b _ (ne_of e h (by intro z; cases z)) e
/-- the three ways down -/
def prs (h : Int) : List (Int × Int) := [(h - 1, h - 1), (h - 1, h - 2), (h - 2, h - 1)]
/-- a way as it lies in the list -/
def WayAt (w h : Nat) (H : Hp) (v : V) : Prop := ∃ (t : Addr) (l r : Nat) (lo hi : Int), v = .ref t ∧ H t = some (.tup [.int l, .int r, .int lo, .int hi]) ∧ l ≤ r + 1 ∧ r ≤ l + 1 ∧ h = 1 + max l r ∧ lo ≤ hi ∧ 0 ≤ lo ∧ hi ≤ w ∧
  ∀ first : Nat, lo ≤ first → (first : Int) ≤ hi → Fit first l ∧ first ≤ w ∧ Fit (w - first) r
theorem WayAt.mono {w h : Nat} {H H' : Hp} {v : V} (x : WayAt w h H v) (k : Tups H H') : WayAt w h H' v := by
  obtain ⟨t, l, r, lo, hi, e, ht, z⟩ := x
  exact ⟨t, l, r, lo, hi, e, k _ _ ht, z⟩
/-- a way is let -/
def Adm (w : Nat) (p : Int × Int) : Prop := 0 ≤ p.1 ∧ 0 ≤ p.2 ∧ max ((L p.1.toNat : Nat) : Int) ((w : Int) - 1 * 2 ^ p.2.toNat) ≤ min (1 * 2 ^ p.1.toNat) ((w : Int) - ((L p.2.toNat : Nat) : Int))
theorem pow_cast (n : Nat) : ((2 : Int) ^ n) = ((2 ^ n : Nat) : Int) := by rw [Int.natCast_pow]; rfl
theorem adm_there {w h : Nat} (f : Fit w (h + 1)) : ∃ j p, j < 2 ∧ (prs ((h + 1 : Nat) : Int))[j]? = some p ∧ Adm w p := by
  have L1 := L_le_pow h
  have P1 := L_pos h
  rcases way_there f with ⟨a, b, c⟩ | ⟨g, rfl, a, b⟩
  · refine ⟨0, _, by omega, rfl, ?_⟩
    have e : (((h + 1 : Nat) : Int) - 1).toNat = h := by omega
    refine ⟨by omega, by omega, ?_⟩
    show max ((L (((h + 1 : Nat) : Int) - 1).toNat : Nat) : Int) ((w : Int) - 1 * 2 ^ (((h + 1 : Nat) : Int) - 1).toNat) ≤ min (1 * 2 ^ (((h + 1 : Nat) : Int) - 1).toNat) ((w : Int) - ((L (((h + 1 : Nat) : Int) - 1).toNat : Nat) : Int))
    rw [e, pow_cast]
    omega
  · refine ⟨1, _, by omega, rfl, ?_⟩
    have e : (((g + 1 + 1 : Nat) : Int) - 1).toNat = g + 1 := by omega
    have e2 : (((g + 1 + 1 : Nat) : Int) - 2).toNat = g := by omega
    have L2 := L_le_pow g
    refine ⟨by show (0 : Int) ≤ ((g + 1 + 1 : Nat) : Int) - 1; omega, by show (0 : Int) ≤ ((g + 1 + 1 : Nat) : Int) - 2; omega, ?_⟩
    show max ((L (((g + 1 + 1 : Nat) : Int) - 1).toNat : Nat) : Int) ((w : Int) - 1 * 2 ^ (((g + 1 + 1 : Nat) : Int) - 2).toNat) ≤ min (1 * 2 ^ (((g + 1 + 1 : Nat) : Int) - 1).toNat) ((w : Int) - ((L (((g + 1 + 1 : Nat) : Int) - 2).toNat : Nat) : Int))
    rw [e, e2, pow_cast, pow_cast]
    omega
theorem way_of {w h : Nat} {j : Nat} {p : Int × Int} (hp : (prs (h : Int))[j]? = some p) (h0 : 0 ≤ p.1) (h1 : 0 ≤ p.2) {H : Hp} {t : Addr} {lo hi : Int} (elo : lo = max ((L p.1.toNat : Nat) : Int) ((w : Int) - 1 * 2 ^ p.2.toNat))
    (ehi : hi = min (1 * 2 ^ p.1.toNat) ((w : Int) - ((L p.2.toNat : Nat) : Int))) (le : lo ≤ hi) (ht : H t = some (.tup [.int p.1, .int p.2, .int lo, .int hi])) : WayAt w h H (.ref t) := by
  have k : p.1.toNat ≤ p.2.toNat + 1 ∧ p.2.toNat ≤ p.1.toNat + 1 ∧ h = 1 + max p.1.toNat p.2.toNat := by
    match j, hp with
    | 0, hp => cases hp; simp only at h0 h1 ⊢; omega
    | 1, hp => cases hp; simp only at h0 h1 ⊢; omega
    | 2, hp => cases hp; simp only at h0 h1 ⊢; omega
    | j + 3, hp => simp [prs] at hp
  refine ⟨t, p.1.toNat, p.2.toNat, lo, hi, rfl, by rw [Int.toNat_of_nonneg h0, Int.toNat_of_nonneg h1]; exact ht, k.1, k.2.1, k.2.2, le, ?_, ?_, fun first a b => ?_⟩
  · have := L_pos p.1.toNat; omega
  · omega
  · rw [pow_cast] at elo ehi
    exact ⟨⟨by omega, by omega⟩, by omega, ⟨by omega, by omega⟩⟩
section
variable {P : Program} {w : World} {K : PySem.W.Frag} {mg : Str → Option Value} {base : Heap}
/-! ### _law_balanced -/
def spBalanced (n : Nat) : Sp := fun vs H Q _ => ∃ (fd : Addr) (wd h m : Nat) (xs : List V), vs = [.ref fd, .int wd, .int h] ∧ H fd = some (.lst xs) ∧ FdL m xs ∧ Fit wd h ∧ h ≤ n ∧ h ≤ 40 ∧ wd ≤ 100000 ∧ m + 2 * wd ≤ 999000 ∧
  ∀ v s zs H', SameX fd H H' → H' fd = some (.lst zs) → FdL (m + 2 * wd - 2) zs → Shp H' v s → bal s → wid s = wd → hei s = h → Q v H'
abbrev s__law_balanced : Stmt := (top 42)
theorem sc__law_balanced : FnScope ["feed", "width", "height", "ways", "left", "right", "low", "high", "first"] ["feed", "width", "height"] (defScope s__law_balanced) := ⟨rfl, rfl, rfl, by decide +kernel, rfl, by decide +kernel, by decide +kernel⟩
theorem b_balanced (T : Txt K mg) (C__law_least : Cal P w K mg base 1 "_law_least" spLeast) (C__law_one : Cal P w K mg base 2 "_law_one" spOne) (C__law_draw : Cal P w K mg base 1 "_law_draw" spDraw) (n : Nat)
    (C__law_balanced : Cal P w K mg base (n + 2) "_law_balanced" (spPre spBalanced n)) : Body P w K mg base (n + 2) ["feed", "width", "height", "ways", "left", "right", "low", "high", "first"] "_law_balanced" (defScope s__law_balanced) (defBody s__law_balanced) (spBalanced n) := by
  intro f cdv A outer s H vs Q E hr h
  obtain ⟨fd, wd, h, m, xs, rfl, hf, hF, fit, hn, h40, hw, hm, q⟩ := h
  have hu := hu_of hr
  have tk : Takes (cxOf (L2.CX P w) P w K mg base ["feed", "width", "height", "ways", "left", "right", "low", "high", "first"] "_law_balanced" (defScope s__law_balanced) f cdv A outer s H E) (fun cls d _ H => E cls d H) := takes_of rfl rfl rfl rfl
  refine ⟨_, (pss_cons (ps_if (pt_cmpR op_eq (pv 2) pe_int (nomark _)) (pss_one (ps_ret pe_non)) pss_nil)
    (pss_cons (ps_set (i := 3) sc__law_balanced.nd rfl (Or.inl rfl) (pe_lst pa_nil))
    (pss_cons (ps_for (passes_of rfl) rfl (pi_list (pe_lst (pa_cons (pe_tup (pa_cons (pe_op op_sub (pv 2) pe_int) (pa_cons (pe_op op_sub (pv 2) pe_int) pa_nil))) (pa_cons (pe_tup (pa_cons (pe_op op_sub (pv 2) pe_int) (pa_cons (pe_op op_sub (pv 2) pe_int) pa_nil))) (pa_cons (pe_tup (pa_cons (pe_op op_sub (pv 2) pe_int) (pa_cons (pe_op op_sub (pv 2) pe_int) pa_nil))) pa_nil))))) (pg_tup (n := 2) (by rfl) (pgs_cons (pg_name (i := 4) sc__law_balanced.nd rfl (Or.inl rfl)) (pgs_cons (pg_name (i := 5) sc__law_balanced.nd rfl (Or.inl rfl)) pgs_nil))) (pss_one (ps_if (pt_cmpR op_ge (pe_callB (call_min2K rfl) (by rfl) T.g_min (by decide +kernel) (pa_cons (pv 4) (pa_cons (pv 5) pa_nil))) pe_int (nomark _)) (pss_cons (ps_set (i := 6) sc__law_balanced.nd rfl (Or.inl rfl) (pe_callB (call_max2K rfl) (by rfl) T.g_max (by decide +kernel) (pa_cons (pe_cal C__law_least hr (by omega) tk (pa_cons (pv 4) pa_nil)) (pa_cons (pe_op op_sub (pv 1) (pe_op op_shl pe_int (pv 5))) pa_nil))))
    (pss_cons (ps_set (i := 7) sc__law_balanced.nd rfl (Or.inl rfl) (pe_callB (call_min2K rfl) (by rfl) T.g_min (by decide +kernel) (pa_cons (pe_op op_shl pe_int (pv 4)) (pa_cons (pe_op op_sub (pv 1) (pe_cal C__law_least hr (by omega) tk (pa_cons (pv 5) pa_nil))) pa_nil))))
    (pss_one (ps_if (pt_cmpR op_le (pv 6) (pv 7) (nomark _)) (pss_one (ps_expr (pe_bm PySem.F.plainAttrs_list PySem.F.slot_list_append PySem.F.type_list_append mt_append (pv 3) (pa_cons (pe_tup (pa_cons (pv 4) (pa_cons (pv 5) (pa_cons (pv 6) (pa_cons (pv 7) pa_nil))))) pa_nil)))) pss_nil)))) pss_nil)))
    (pss_cons (ps_asg (pe_cal C__law_one hr (by omega) tk (pa_cons (pv 0) (pa_cons (pv 3) pa_nil))) (pg_tup (n := 4) (by rfl) (pgs_cons (pg_name (i := 4) sc__law_balanced.nd rfl (Or.inl rfl)) (pgs_cons (pg_name (i := 5) sc__law_balanced.nd rfl (Or.inl rfl)) (pgs_cons (pg_name (i := 6) sc__law_balanced.nd rfl (Or.inl rfl)) (pgs_cons (pg_name (i := 7) sc__law_balanced.nd rfl (Or.inl rfl)) pgs_nil))))))
    (pss_cons (ps_set (i := 8) sc__law_balanced.nd rfl (Or.inl rfl) (pe_op op_add (pv 6) (pe_cal C__law_draw hr (by omega) tk (pa_cons (pv 0) (pa_cons (pe_op op_add (pe_op op_sub (pv 7) (pv 6)) pe_int) pa_nil)))))
    (pss_one (ps_ret (pe_tup (pa_cons (pe_cal C__law_balanced hr (by omega) tk (pa_cons (pv 0) (pa_cons (pv 8) (pa_cons (pv 4) pa_nil)))) (pa_cons (pe_cal C__law_balanced hr (by omega) tk (pa_cons (pv 0) (pa_cons (pe_op op_sub (pv 1) (pv 8)) (pa_cons (pv 5) pa_nil)))) pa_nil)))))))))), ?_⟩
  refine i_start [some _, some _, some _, none, none, none, none, none, none] (by rfl) ?_
  try dsimp only [cxOf]
  walk_at "rd"
  refine i_dec (fun h0 => ?_) (fun h0 => ?_)
  · walk_at "rd"
    have e : h = 0 := by omega
    subst e
    have e1 : wd = 1 := by have := fit.1; have := fit.2; simp only [L] at *; omega
    exact q .non .one xs H (SameX.refl _ _) hf (hF.mono (by omega)) .one trivial e1.symm rfl
  · obtain ⟨g, rfl⟩ : ∃ g, h = g + 1 := ⟨h - 1, by omega⟩
    walk_at "rd"
    refine ⟨Nat.zero_le _, fun wl hwl => ?_⟩
    generalize eH1 : L2.upd H wl _ = H1
    obtain ⟨s1, e1⟩ := laid eH1 hwl
    walk_at "rd"
    refine ⟨by show 2 ≤ sizeLine; decide, fun t1 ht1 => ?_⟩
    generalize eH2 : L2.upd H1 t1 _ = H2
    obtain ⟨s2, e2⟩ := laid eH2 ht1
    walk_at "rd"
    refine ⟨by show 2 ≤ sizeLine; decide, fun t2 ht2 => ?_⟩
    generalize eH3 : L2.upd H2 t2 _ = H3
    obtain ⟨s3, e3⟩ := laid eH3 ht2
    walk_at "rd"
    refine ⟨by show 2 ≤ sizeLine; decide, fun t3 ht3 => ?_⟩
    generalize eH4 : L2.upd H3 t3 _ = H4
    obtain ⟨s4, e4⟩ := laid eH4 ht3
    walk_at "rd"
    refine ⟨by show 3 ≤ sizeLine; decide, fun l0 hl0 => ?_⟩
    generalize eH5 : L2.upd H4 l0 _ = H5
    obtain ⟨s5, e5⟩ := laid eH5 hl0
    have S5 : Same H H5 := (((s1.trans s2).trans s3).trans s4).trans s5
    have n4 : wl ≠ l0 := ne_of_none (((s2.trans s3).trans s4) _ _ e1) hl0
    have ew5 : H5 wl = some (.lst []) := (((s2.trans s3).trans s4).trans s5) _ _ e1
    have nfd : wl ≠ fd := fun z => by rw [z, hf] at hwl; cases hwl
    have tt : ∀ (i : Nat) (x : V), ([.ref t1, .ref t2, .ref t3] : List V)[i]? = some x → ∃ (t : Addr) (p : Int × Int), x = V.ref t ∧ (prs ((g + 1 : Nat) : Int))[i]? = some p ∧ H5 t = some (.tup [.int p.1, .int p.2]) := by
      intro i x hi
      match i, hi with
      | 0, hi => cases hi; exact ⟨t1, _, rfl, rfl, (((s3.trans s4).trans s5) _ _ e2)⟩
      | 1, hi => cases hi; exact ⟨t2, _, rfl, rfl, ((s4.trans s5) _ _ e3)⟩
      | 2, hi => cases hi; exact ⟨t3, _, rfl, rfl, s5 _ _ e4⟩
      | i + 3, hi => simp at hi
    have pb : ∀ {i : Nat} {p : Int × Int}, (prs ((g + 1 : Nat) : Int))[i]? = some p → p.1 ≤ 40 ∧ p.2 ≤ 40 := by
      intro i p hi
      match i, hi with
      | 0, hi => cases hi; constructor <;> (show _ ≤ _; omega)
      | 1, hi => cases hi; constructor <;> (show _ ≤ _; omega)
      | 2, hi => cases hi; constructor <;> (show _ ≤ _; omega)
      | i + 3, hi => simp [prs] at hi
    walk_at "rd"
    refine ⟨l0, rfl, ⟨_, SqL.of e5⟩, for_list (xs := [.ref t1, .ref t2, .ref t3]) (fun i s h => ∃ ws a4 a5 a6 a7, s = [some (.ref fd), some (.int wd), some (.int ((g + 1 : Nat) : Int)), some (.ref wl), a4, a5, a6, a7, none] ∧
      SameX wl H5 h ∧ h wl = some (.lst ws) ∧ (∀ v ∈ ws, WayAt wd (g + 1) h v) ∧ ws.length ≤ i ∧ (∀ j p, j < i → (prs ((g + 1 : Nat) : Int))[j]? = some p → Adm wd p → ws ≠ []))
      ⟨[], none, none, none, none, rfl, SameX.refl _ _, ew5, fun v z => by simp at z, Nat.le_refl _, fun j p z => by omega⟩ ?_ ?_ ?_⟩
    · rintro i s h _ ⟨ws, a4, a5, a6, a7, rfl, sx, ew, hw', hlen, hne⟩
      exact SqL.of (sx _ _ n4.symm e5)
    · rintro i x s h hi ⟨ws, a4, a5, a6, a7, rfl, sx, ew, hw', hlen, hne⟩
      obtain ⟨t, p, rfl, hp, ht⟩ := tt i x hi
      obtain ⟨b1, b2⟩ := pb hp
      have nt : t ≠ wl := ne_of ht ew5 (by intro z; cases z)
      have hi3 : i < 3 := by
        have := (List.getElem?_eq_some_iff.mp hi).1
        exact this
      walk_at "rd"
      refine ⟨t, _, rfl, SqT.of (sx _ _ nt ht), rfl, ?_⟩
      walk_at "rd"
      refine i_dec (fun hp0 => ?_) (fun hp0 => ?_)
      · have p0 : 0 ≤ p.1 := by omega
        have p1 : 0 ≤ p.2 := by omega
        walk_at "rd"
        refine ⟨p.1.toNat, by rw [Int.toNat_of_nonneg p0], by omega, fun H6 s6 => ?_⟩
        walk_at "rd"
        refine i_rI ⟨p1, by omega, by decide⟩ ?_
        walk_at "rd"
        refine i_rI ⟨p0, by omega, by decide⟩ ?_
        walk_at "rd"
        refine ⟨p.2.toNat, by rw [Int.toNat_of_nonneg p1], by omega, fun H7 s7 => ?_⟩
        walk_at "rd"
        have ew7 : H7 wl = some (.lst ws) := s7 _ _ (s6 _ _ ew)
        have sx7 : SameX wl H5 H7 := sx.trans (SameX.of (s6.trans s7))
        have hw7 : ∀ v ∈ ws, WayAt wd (g + 1) H7 v := fun v hv => (hw' v hv).mono (Same.tups (s6.trans s7))
        refine i_dec (fun hle => ?_) (fun hle => ?_)
        · walk_at "rd"
          refine i_tyL (SqL.of ew7) ?_
          walk_at "rd"
          refine ⟨by show 4 ≤ sizeLine; decide, fun t' ht' => ?_⟩
          generalize eH8 : L2.upd H7 t' _ = H8
          obtain ⟨s8, e8⟩ := laid eH8 ht'
          walk_at "rd"
          have l3 : ws.length < sizeLine := Nat.lt_of_le_of_lt (show ws.length ≤ 3 by omega) (by decide)
          refine i_app (s8 _ _ ew7) l3 ?_
          walk_at "rd"
          have nt' : t' ≠ wl := fun z => by rw [z, ew7] at ht'; cases ht'
          refine ⟨ws ++ [.ref t'], _, _, _, _, rfl, (sx7.trans (SameX.of s8)).trans SameX.upd, upd_same, fun v hv => ?_, by rw [List.length_append, List.length_singleton]; omega, fun _ _ _ _ _ z => by simp at z⟩
          have tu : Tups H8 (L2.upd H8 wl (.lst (ws ++ [.ref t']))) := SameX.tups (f := wl) SameX.upd (s8 _ _ ew7)
          rcases List.mem_append.mp hv with hv | hv
          · exact ((hw7 v hv).mono (Same.tups s8)).mono tu
          · rw [List.mem_singleton] at hv
            subst hv
            exact (way_of hp p0 p1 rfl rfl hle e8).mono tu
        · walk_at "rd"
          refine ⟨ws, _, _, _, _, rfl, sx7, ew7, hw7, by omega, fun j p' hj hp' ad => ?_⟩
          by_cases c : j = i
          · subst c
            rw [hp] at hp'
            cases hp'
            exact absurd ad.2.2 hle
          · exact hne j p' (by omega) hp' ad
      · walk_at "rd"
        refine ⟨ws, _, _, _, _, rfl, sx, ew, hw', by omega, fun j p' hj hp' ad => ?_⟩
        by_cases c : j = i
        · subst c
          rw [hp] at hp'
          cases hp'
          obtain ⟨ad1, ad2, _⟩ := ad
          omega
        · exact hne j p' (by omega) hp' ad
    · rintro s h ⟨ws, a4, a5, a6, a7, rfl, sx, ew, hw', hlen, hne⟩
      obtain ⟨j, p, hj, hp, ad⟩ := adm_there fit
      have wne : ws ≠ [] := hne j p (by show j < 3; omega) hp ad
      have hl3 : ws.length ≤ 3 := hlen
      have hf5 : H5 fd = some (.lst xs) := S5 _ _ hf
      have hfh : h fd = some (.lst xs) := sx _ _ nfd.symm hf5
      walk_at "rd"
      refine ⟨fd, wl, m, xs, ws, rfl, hfh, hF, by omega, ew, nfd, wne, by omega, fun v zs hv hz => ?_⟩
      have tu : Tups h (L2.upd h fd (.lst zs)) := SameX.tups (f := fd) SameX.upd hfh
      obtain ⟨t, l, r, lo, hi, rfl, ht, k1, k2, k3, k4, k5, k6, k7⟩ := (hw' v hv).mono tu
      walk_at "rd"
      refine ⟨t, _, rfl, SqT.of ht, rfl, ?_⟩
      walk_at "rd"
      refine ⟨fd, _, m + 1, zs, rfl, upd_same, hz, by omega, by omega, by omega, fun gt ys g0 g1 hy => ?_⟩
      rw [upd_upd]
      walk_at "rd"
      have sx1 : SameX fd H (L2.upd h fd (.lst ys)) := fun b o nb e => by
        rw [upd_ne nb]
        exact sx _ _ (fun z => by rw [z] at e; rw [e] at hwl; cases hwl) (S5 _ _ e)
      obtain ⟨first, ef⟩ : ∃ first : Nat, lo + gt = (first : Int) := ⟨(lo + gt).toNat, by omega⟩
      obtain ⟨f1, f2, f3⟩ := k7 first (by omega) (by omega)
      have w1 : 1 ≤ first := by have := f1.1; have := L_pos l; omega
      have w2 : 1 ≤ wd - first := by have := f3.1; have := L_pos r; omega
      obtain ⟨n', rfl⟩ : ∃ n', n = n' + 1 := ⟨n - 1, by omega⟩
      rw [ef]
      refine ⟨fd, first, l, m + 2, ys, rfl, upd_same, hy, f1, by omega, by omega, by omega, by omega, fun v1 sh1 zs1 H1' sx1' ef1 hz1 sp1 b1 wd1 he1 => ?_⟩
      walk_at "rd"
      have e2 : ((wd : Nat) : Int) - ((first : Nat) : Int) = ((wd - first : Nat) : Int) := by omega
      rw [e2]
      refine ⟨fd, wd - first, r, _, zs1, rfl, ef1, hz1, f3, by omega, by omega, by omega, by omega, fun v2 sh2 zs2 H2' sx2' ef2 hz2 sp2 b2 wd2 he2 => ?_⟩
      walk_at "rd"
      refine ⟨by show 2 ≤ sizeLine; decide, fun tp htp => ?_⟩
      generalize eH9 : L2.upd H2' tp _ = H9
      obtain ⟨s9, e9⟩ := laid eH9 htp
      walk_at "rd"
      have tu1 : Tups H1' H9 := fun a ys e => s9 _ _ (SameX.tups sx2' ef1 a ys e)
      refine q (.ref tp) (.two sh1 sh2) zs2 H9 (((sx1.trans sx1').trans sx2').trans (SameX.of s9)) (s9 _ _ ef2) (hz2.mono (by omega)) (.two e9 (sp1.mono tu1) (sp2.mono (Same.tups s9))) ⟨b1, b2, by omega, by omega⟩ ?_ ?_
      · simp only [wid]; omega
      · simp only [hei]; omega
theorem c_balanced (T : Txt K mg) (n : Nat) : Cal P w K mg base (n + 2 + 1) "_law_balanced" (spBalanced n) := T.d__law_balanced.rec_ sc__law_balanced 2 (fun n vs H Q E h => by obtain ⟨_, _, _, _, _, rfl, _⟩ := h; rfl) (b_balanced T (c_least T) (c_one T) (c_draw T)) n
end

end K62

set_option maxHeartbeats 4000000
namespace K62
open PySem PySem.Spec PyProof.Rows L2 KB KM
theorem SameX.fresh {f : Addr} {H0 H H' : Hp} (a : SameX f H H') (s : Same H0 H) (n : H0 f = none) : Same H0 H' := fun b o e => a b o (fun z => by rw [z, n] at e; cases e) (s b o e)
/-- a shape as data -/
def pd : Sh → PyData
  | .one => .none
  | .two l r => .tuple [pd l, pd r]
theorem pd_dp {K : PySem.W.Frag} {H : Hp} {v : V} {s : Sh} (h : Shp H v s) : Dp K H v (pd s) := by
  induction h with
  | one => exact .non
  | two a _ _ ih1 ih2 => exact .tup (SqT.of a) (.cons ih1 (.cons ih2 .nil))
theorem pd_lay : ∀ s : Sh, PyData.canLay0 (pd s) = true
  | .one => rfl
  | .two l r => by simp only [pd, PyData.canLay0, PyData.canLayAll0, pd_lay l, pd_lay r, Bool.and_self]
theorem pd_depth : ∀ s : Sh, PyData.depth (pd s) = hei s
  | .one => rfl
  | .two l r => by simp only [pd, PyData.depth, PyData.depthAll, pd_depth l, pd_depth r, hei]; omega
theorem pd_shaped {s : Sh} (h : hei s ≤ 64) : SeqAt.shaped (pd s) = true := by
  unfold SeqAt.shaped
  rw [pd_lay, pd_depth, decide_eq_true h]
  rfl
theorem pd_refl (s : Sh) : PyData.eqv (pd s) (pd s) = true := PySem.SeqAt.eqv_refl (pd s) (pd_lay s)
theorem i_neSame {K : PySem.W.Frag} {H : Hp} {x y : V} {s : Sh} {Q : VK} (h1 : Shp H x s) (h2 : Shp H y s) (h : hei s ≤ 64) (q : Q (.bl false) H) : rNeD K x y H Q :=
  ⟨pd s, pd s, pd_dp h1, pd_dp h2, pd_shaped h, pd_shaped h, by rw [pd_refl]; exact q⟩
theorem kn_stay {H H' : Hp} {v : V} {n : String} (k : Kn H v n) (s : Same H H') : Kn H' v n := by
  obtain ⟨k1, k2⟩ := k
  refine ⟨?_, k2⟩
  cases v with
  | ref p =>
    have k3 : (match H p with
      | some (.lst _) => some "list"
      | some (.tup _) => some "tuple"
      | some (.dK _) => some "dict"
      | some (.dT _) => some "dict"
      | some (.frz _ (.lst _)) => some "list"
      | _ => none) = some n := k1
    cases eo : H p with
    | none => rw [eo] at k3; cases k3
    | some o =>
      have e8 := s _ _ eo
      simp only [tyN, e8]
      rw [eo] at k3
      exact k3
  | _ => exact k1
theorem bits_is (n : Nat) (h : 1 ≤ n) : (Builtin.Int.intBits ((n : Int) - 1) : Nat) = bits (n - 1) := by
  rw [show ((n : Nat) : Int) - 1 = ((n - 1 : Nat) : Int) by omega]
  unfold Builtin.Int.intBits
  by_cases c : n - 1 = 0
  · rw [c, bits_0]; rfl
  · rw [bits_log _ c, if_neg (by simpa using c), Int.natAbs_natCast]
def spAsked (K : PySem.W.Frag) : Sp := fun vs H Q _ => ∃ (a : Addr) (ns : List Int), vs = [.ref a] ∧ SqL K H a (ns.map V.int) ∧ (∀ z ∈ ns, ib z ≤ 1048576) ∧ ns.length ≤ 63 ∧ ∀ H', Same H H' → Q (.bl true) H'
def spLaw (K : PySem.W.Frag) : Sp := fun vs H Q _ => ∃ (a : Addr) (ns : List Int), vs = [.ref a] ∧ SqL K H a (ns.map V.int) ∧ (∀ z ∈ ns, ib z ≤ 1048576) ∧ ns.length ≤ 63 ∧ ∀ H', Q (.bl true) H'

end K62

set_option maxHeartbeats 4000000
namespace K62
open PySem PySem.Spec PyProof.Rows L2 KB KM
section
variable {P : Program} {w : World} {K : PySem.W.Frag} {mg : Str → Option Value} {base : Heap}
/-! ### Builder.sides -/
def spSides (K : PySem.W.Frag) : Sp := fun vs H Q _ => ∃ b t l r, vs = [b, t] ∧ Stm (CS K) H t (.two l r) ∧ ∀ p H' x y, Same H H' → H' p = some (.tup [x, y]) → Stm (CS K) H' x l → Stm (CS K) H' y r → Q (.ref p) H'
abbrev s_Builder_sides : Stmt := (inClass (top 12) 1)
theorem sc_Builder_sides : FnScope ["self", "tree"] ["self", "tree"] (defScope s_Builder_sides) := ⟨rfl, rfl, rfl, by decide +kernel, rfl, by decide +kernel, by decide +kernel⟩
theorem b_sides (T : Txt K mg) : Body P w K mg base (0) ["self", "tree"] "Builder.sides" (defScope s_Builder_sides) (defBody s_Builder_sides) (spSides K) := by
  intro f cdv A outer s H vs Q E hr h
  obtain ⟨b, t, l, r, rfl, ht, q⟩ := h
  obtain ⟨a, dx, x, y, rfl, ha, hc⟩ := ht.at_
  rcases hc with ⟨z, _⟩ | ⟨l', r', e, hl, hr2⟩
  · cases z
  · cases e
    have hu := hu_of hr
    have tk : Takes (cxOf (L2.CX P w) P w K mg base ["self", "tree"] "Builder.sides" (defScope s_Builder_sides) f cdv A outer s H E) (fun cls d _ H => E cls d H) := takes_of rfl rfl rfl rfl
    refine ⟨_, (pss_one (ps_ret (pe_tup (pa_cons (pe_fld (pv 1) rfl) (pa_cons (pe_fld (pv 1) rfl) pa_nil))))), ?_⟩
    refine i_start [some _, some _] (by rfl) ?_
    try dsimp only [cxOf]
    walk_at "rd"
    refine i_fldR ha T.c_Stem T.n_Stem_left st_left ?_
    walk_at "rd"
    refine i_fldR ha T.c_Stem T.n_Stem_right st_right ?_
    walk_at "rd"
    refine ⟨by show 2 ≤ sizeLine; decide, fun p hp => ?_⟩
    generalize eH1 : L2.upd H p _ = H1
    obtain ⟨s1, e1⟩ := laid eH1 hp
    walk_at "rd"
    exact q p H1 x y s1 e1 (hl.mono s1) (hr2.mono s1)
theorem m_sides (T : Txt K mg) : Met P w K mg base 1 (CB K) "sides" (spSides K) := T.m_Builder_sides.met T.c_Builder sc_Builder_sides (fun vs H Q E h => by obtain ⟨_, _, _, _, rfl, _⟩ := h; rfl) (b_sides T)
/-! ### even_pair -/
def spEvenPair (K : PySem.W.Frag) : Sp := fun vs H Q _ => ∃ b dx x y l r, vs = [.ref b, x, y] ∧ H b = some (.ins (CB K) dx []) ∧ Stm (CS K) H x l ∧ Stm (CS K) H y r ∧ ∀ p H', Same H H' → Stm (CS K) H' (.ref p) (ep l r) → Q (.ref p) H'
theorem stm_ref {C : Addr} {H : Hp} {v : V} {s : Sh} (h : Stm C H v s) : ∃ a, v = .ref a := by cases h <;> exact ⟨_, rfl⟩
abbrev s_even_pair : Stmt := (top 19)
theorem sc_even_pair : FnScope ["builder", "left", "right", "inner", "outer", "one", "other"] ["builder", "left", "right"] (defScope s_even_pair) := ⟨rfl, rfl, rfl, by decide +kernel, rfl, by decide +kernel, by decide +kernel⟩
theorem b_even_pair (T : Txt K mg) (D_Builder_pair : Met P w K mg base 3 (CB K) "pair" (spPair K)) (D_Builder_sides : Met P w K mg base 1 (CB K) "sides" (spSides K)) : Body P w K mg base (3) ["builder", "left", "right", "inner", "outer", "one", "other"] "even_pair" (defScope s_even_pair) (defBody s_even_pair) (spEvenPair K) := by
  intro f cdv A outer s H vs Q E hr h
  obtain ⟨b, dx, x, y, l, r, rfl, hb, hl, hr2, q⟩ := h
  obtain ⟨ax, dxx, xl, xr, rfl, hax, hcx⟩ := hl.at_
  obtain ⟨ay, dxy, yl, yr, rfl, hay, hcy⟩ := hr2.at_
  have hu := hu_of hr
  have tk : Takes (cxOf (L2.CX P w) P w K mg base ["builder", "left", "right", "inner", "outer", "one", "other"] "even_pair" (defScope s_even_pair) f cdv A outer s H E) (fun cls d _ H => E cls d H) := takes_of rfl rfl rfl rfl
  refine ⟨_, (pss_cons (ps_if (pt_cmpR op_gt (pe_fld (pv 2) rfl) (pe_op op_add (pe_fld (pv 1) rfl) pe_int) (nomark _)) (pss_cons (ps_asg (pe_met D_Builder_sides hr (by omega) (pv 0) (pa_cons (pv 2) pa_nil)) (pg_tup (n := 2) (by rfl) (pgs_cons (pg_name (i := 3) sc_even_pair.nd rfl (Or.inl rfl)) (pgs_cons (pg_name (i := 4) sc_even_pair.nd rfl (Or.inl rfl)) pgs_nil))))
    (pss_cons (ps_if (pt_cmpR op_le (pe_fld (pv 3) rfl) (pe_fld (pv 4) rfl) (nomark _)) (pss_one (ps_ret (pe_met D_Builder_pair hr (by omega) (pv 0) (pa_cons (pe_met D_Builder_pair hr (by omega) (pv 0) (pa_cons (pv 1) (pa_cons (pv 3) pa_nil))) (pa_cons (pv 4) pa_nil))))) pss_nil)
    (pss_cons (ps_asg (pe_met D_Builder_sides hr (by omega) (pv 0) (pa_cons (pv 3) pa_nil)) (pg_tup (n := 2) (by rfl) (pgs_cons (pg_name (i := 5) sc_even_pair.nd rfl (Or.inl rfl)) (pgs_cons (pg_name (i := 6) sc_even_pair.nd rfl (Or.inl rfl)) pgs_nil))))
    (pss_one (ps_ret (pe_met D_Builder_pair hr (by omega) (pv 0) (pa_cons (pe_met D_Builder_pair hr (by omega) (pv 0) (pa_cons (pv 1) (pa_cons (pv 5) pa_nil))) (pa_cons (pe_met D_Builder_pair hr (by omega) (pv 0) (pa_cons (pv 6) (pa_cons (pv 4) pa_nil))) pa_nil)))))))) pss_nil)
    (pss_cons (ps_if (pt_cmpR op_gt (pe_fld (pv 1) rfl) (pe_op op_add (pe_fld (pv 2) rfl) pe_int) (nomark _)) (pss_cons (ps_asg (pe_met D_Builder_sides hr (by omega) (pv 0) (pa_cons (pv 1) pa_nil)) (pg_tup (n := 2) (by rfl) (pgs_cons (pg_name (i := 4) sc_even_pair.nd rfl (Or.inl rfl)) (pgs_cons (pg_name (i := 3) sc_even_pair.nd rfl (Or.inl rfl)) pgs_nil))))
    (pss_cons (ps_if (pt_cmpR op_le (pe_fld (pv 3) rfl) (pe_fld (pv 4) rfl) (nomark _)) (pss_one (ps_ret (pe_met D_Builder_pair hr (by omega) (pv 0) (pa_cons (pv 4) (pa_cons (pe_met D_Builder_pair hr (by omega) (pv 0) (pa_cons (pv 3) (pa_cons (pv 2) pa_nil))) pa_nil))))) pss_nil)
    (pss_cons (ps_asg (pe_met D_Builder_sides hr (by omega) (pv 0) (pa_cons (pv 3) pa_nil)) (pg_tup (n := 2) (by rfl) (pgs_cons (pg_name (i := 5) sc_even_pair.nd rfl (Or.inl rfl)) (pgs_cons (pg_name (i := 6) sc_even_pair.nd rfl (Or.inl rfl)) pgs_nil))))
    (pss_one (ps_ret (pe_met D_Builder_pair hr (by omega) (pv 0) (pa_cons (pe_met D_Builder_pair hr (by omega) (pv 0) (pa_cons (pv 4) (pa_cons (pv 5) pa_nil))) (pa_cons (pe_met D_Builder_pair hr (by omega) (pv 0) (pa_cons (pv 6) (pa_cons (pv 2) pa_nil))) pa_nil)))))))) pss_nil)
    (pss_one (ps_ret (pe_met D_Builder_pair hr (by omega) (pv 0) (pa_cons (pv 1) (pa_cons (pv 2) pa_nil))))))), ?_⟩
  refine i_start [some _, some _, some _, none, none, none, none] (by rfl) ?_
  try dsimp only [cxOf]
  walk_at "rd"
  refine i_fldR hay T.c_Stem T.n_Stem_height st_height ?_
  walk_at "rd"
  refine i_fldR hax T.c_Stem T.n_Stem_height st_height ?_
  walk_at "rd"
  refine i_dec (fun c1 => ?_) (fun c1 => ?_)
  · have c1' : hei l + 1 < hei r := by omega
    rcases hcy with ⟨rfl, _⟩ | ⟨i, o, rfl, hi, ho⟩
    · simp only [hei] at c1'; omega
    · have e1 : ep l (.two i o) = epR l i o := ep_r c1'
      rw [e1] at q
      walk_at "rd"
      refine ⟨b, dx, [], rfl, hb, rfl, ?_⟩
      walk_at "rd"
      refine ⟨_, _, i, o, rfl, hr2, fun p1 H1 x1 y1 s1 ht1 hi1 ho1 => ?_⟩
      walk_at "rd"
      refine ⟨p1, _, rfl, SqT.of ht1, rfl, ?_⟩
      walk_at "rd"
      obtain ⟨a1, dx1, x1l, x1r, rfl, h1, hc1⟩ := hi1.at_
      obtain ⟨a2, dx2, x2l, x2r, rfl, h2, hc2⟩ := ho1.at_
      refine i_fldR h1 T.c_Stem T.n_Stem_height st_height ?_
      walk_at "rd"
      refine i_fldR h2 T.c_Stem T.n_Stem_height st_height ?_
      walk_at "rd"
      refine i_dec (fun c2 => ?_) (fun c2 => ?_)
      · walk_at "rd"
        have e2 : epR l i o = .two (.two l i) o := by unfold epR; rw [if_pos (by omega)]
        rw [e2] at q
        refine ⟨b, dx, [], rfl, s1 _ _ hb, rfl, ?_⟩
        walk_at "rd"
        refine ⟨b, dx, [], rfl, s1 _ _ hb, rfl, ?_⟩
        walk_at "rd"
        refine ⟨_, _, _, l, i, rfl, hl.mono s1, hi1, fun p2 H2 s2 t2 => ?_⟩
        walk_at "rd"
        refine ⟨_, _, _, _, _, rfl, t2, ho1.mono s2, fun p3 H3 s3 t3 => ?_⟩
        walk_at "rd"
        exact q p3 H3 ((s1.trans s2).trans s3) t3
      · rcases hc1 with ⟨rfl, _⟩ | ⟨u, v, rfl, hu1, hv1⟩
        · simp only [hei] at c2; omega
        · have e2 : epR l (.two u v) o = .two (.two l u) (.two v o) := by unfold epR; rw [if_neg (by omega)]
          rw [e2] at q
          walk_at "rd"
          refine ⟨b, dx, [], rfl, s1 _ _ hb, rfl, ?_⟩
          walk_at "rd"
          refine ⟨_, _, u, v, rfl, hi1, fun p2 H2 x2 y2 s2 ht2 hu2 hv2 => ?_⟩
          walk_at "rd"
          refine ⟨p2, _, rfl, SqT.of ht2, rfl, ?_⟩
          walk_at "rd"
          refine ⟨b, dx, [], rfl, s2 _ _ (s1 _ _ hb), rfl, ?_⟩
          walk_at "rd"
          refine ⟨b, dx, [], rfl, s2 _ _ (s1 _ _ hb), rfl, ?_⟩
          walk_at "rd"
          refine ⟨_, _, _, l, u, rfl, hl.mono (s1.trans s2), hu2, fun p3 H3 s3 t3 => ?_⟩
          walk_at "rd"
          refine ⟨b, dx, [], rfl, s3 _ _ (s2 _ _ (s1 _ _ hb)), rfl, ?_⟩
          walk_at "rd"
          refine ⟨_, _, _, v, o, rfl, hv2.mono s3, ho1.mono (s2.trans s3), fun p4 H4 s4 t4 => ?_⟩
          walk_at "rd"
          refine ⟨_, _, _, _, _, rfl, t3.mono s4, t4, fun p5 H5 s5 t5 => ?_⟩
          walk_at "rd"
          exact q p5 H5 ((((s1.trans s2).trans s3).trans s4).trans s5) t5
  · walk_at "rd"
    refine i_fldR hax T.c_Stem T.n_Stem_height st_height ?_
    walk_at "rd"
    refine i_fldR hay T.c_Stem T.n_Stem_height st_height ?_
    walk_at "rd"
    refine i_dec (fun c3 => ?_) (fun c3 => ?_)
    · have c1' : ¬ hei l + 1 < hei r := by omega
      have c3' : hei r + 1 < hei l := by omega
      rcases hcx with ⟨rfl, _⟩ | ⟨o, i, rfl, ho, hi⟩
      · simp only [hei] at c3'; omega
      · have e1 : ep (.two o i) r = epL o i r := ep_l c1' c3'
        rw [e1] at q
        walk_at "rd"
        refine ⟨b, dx, [], rfl, hb, rfl, ?_⟩
        walk_at "rd"
        refine ⟨_, _, o, i, rfl, hl, fun p1 H1 x1 y1 s1 ht1 ho1 hi1 => ?_⟩
        walk_at "rd"
        refine ⟨p1, _, rfl, SqT.of ht1, rfl, ?_⟩
        walk_at "rd"
        obtain ⟨a1, dx1, x1l, x1r, rfl, h1, hc1⟩ := hi1.at_
        obtain ⟨a2, dx2, x2l, x2r, rfl, h2, hc2⟩ := ho1.at_
        refine i_fldR h1 T.c_Stem T.n_Stem_height st_height ?_
        walk_at "rd"
        refine i_fldR h2 T.c_Stem T.n_Stem_height st_height ?_
        walk_at "rd"
        refine i_dec (fun c2 => ?_) (fun c2 => ?_)
        · walk_at "rd"
          have e2 : epL o i r = .two o (.two i r) := by unfold epL; rw [if_pos (by omega)]
          rw [e2] at q
          refine ⟨b, dx, [], rfl, s1 _ _ hb, rfl, ?_⟩
          walk_at "rd"
          refine ⟨b, dx, [], rfl, s1 _ _ hb, rfl, ?_⟩
          walk_at "rd"
          refine ⟨_, _, _, i, r, rfl, hi1, hr2.mono s1, fun p2 H2 s2 t2 => ?_⟩
          walk_at "rd"
          refine ⟨_, _, _, _, _, rfl, ho1.mono s2, t2, fun p3 H3 s3 t3 => ?_⟩
          walk_at "rd"
          exact q p3 H3 ((s1.trans s2).trans s3) t3
        · rcases hc1 with ⟨rfl, _⟩ | ⟨u, v, rfl, hu1, hv1⟩
          · simp only [hei] at c2; omega
          · have e2 : epL o (.two u v) r = .two (.two o u) (.two v r) := by unfold epL; rw [if_neg (by omega)]
            rw [e2] at q
            walk_at "rd"
            refine ⟨b, dx, [], rfl, s1 _ _ hb, rfl, ?_⟩
            walk_at "rd"
            refine ⟨_, _, u, v, rfl, hi1, fun p2 H2 x2 y2 s2 ht2 hu2 hv2 => ?_⟩
            walk_at "rd"
            refine ⟨p2, _, rfl, SqT.of ht2, rfl, ?_⟩
            walk_at "rd"
            refine ⟨b, dx, [], rfl, s2 _ _ (s1 _ _ hb), rfl, ?_⟩
            walk_at "rd"
            refine ⟨b, dx, [], rfl, s2 _ _ (s1 _ _ hb), rfl, ?_⟩
            walk_at "rd"
            refine ⟨_, _, _, o, u, rfl, ho1.mono s2, hu2, fun p3 H3 s3 t3 => ?_⟩
            walk_at "rd"
            refine ⟨b, dx, [], rfl, s3 _ _ (s2 _ _ (s1 _ _ hb)), rfl, ?_⟩
            walk_at "rd"
            refine ⟨_, _, _, v, r, rfl, hv2.mono s3, hr2.mono ((s1.trans s2).trans s3), fun p4 H4 s4 t4 => ?_⟩
            walk_at "rd"
            refine ⟨_, _, _, _, _, rfl, t3.mono s4, t4, fun p5 H5 s5 t5 => ?_⟩
            walk_at "rd"
            exact q p5 H5 ((((s1.trans s2).trans s3).trans s4).trans s5) t5
    · have e0 : ep l r = .two l r := ep_e (by omega) (by omega)
      rw [e0] at q
      walk_at "rd"
      refine ⟨b, dx, [], rfl, hb, rfl, ?_⟩
      walk_at "rd"
      refine ⟨_, _, _, l, r, rfl, hl, hr2, fun p1 H1 s1 t1 => ?_⟩
      exact q p1 H1 s1 t1
theorem c_even_pair (T : Txt K mg) : Cal P w K mg base 4 "even_pair" (spEvenPair K) := T.d_even_pair.cal sc_even_pair (fun vs H Q E h => by obtain ⟨_, _, _, _, _, _, rfl, _⟩ := h; rfl) (b_even_pair T (m_pair T) (m_sides T))
/-! ### row_joined -/
def spRowJoined (K : PySem.W.Frag) (n : Nat) : Sp := fun vs H Q _ => ∃ b dx x y l r, vs = [.ref b, x, y] ∧ H b = some (.ins (CB K) dx []) ∧ OStm (CS K) H x l ∧ OStm (CS K) H y r ∧ ohei l + ohei r ≤ n ∧ ∀ v H', Same H H' → OStm (CS K) H' v (jo l r) → Q v H'
abbrev s_row_joined : Stmt := (top 20)
theorem sc_row_joined : FnScope ["builder", "left", "right", "first", "last"] ["builder", "left", "right"] (defScope s_row_joined) := ⟨rfl, rfl, rfl, by decide +kernel, rfl, by decide +kernel, by decide +kernel⟩
theorem b_row_joined (T : Txt K mg) (D_Builder_pair : Met P w K mg base 3 (CB K) "pair" (spPair K)) (D_Builder_sides : Met P w K mg base 1 (CB K) "sides" (spSides K)) (C_even_pair : Cal P w K mg base 4 "even_pair" (spEvenPair K)) (n : Nat)
    (C_row_joined : Cal P w K mg base (n + 4) "row_joined" (spPre (spRowJoined K) n)) : Body P w K mg base (n + 4) ["builder", "left", "right", "first", "last"] "row_joined" (defScope s_row_joined) (defBody s_row_joined) (spRowJoined K n) := by
  intro f cdv A outer s H vs Q E hr h
  obtain ⟨b, dx, x, y, l, r, rfl, hb, hl, hr2, hn, q⟩ := h
  have hu := hu_of hr
  have tk : Takes (cxOf (L2.CX P w) P w K mg base ["builder", "left", "right", "first", "last"] "row_joined" (defScope s_row_joined) f cdv A outer s H E) (fun cls d _ H => E cls d H) := takes_of rfl rfl rfl rfl
  refine ⟨_, (pss_cons (ps_if (pt_cmpR op_isN1 (pv 1) pe_non (nomark _)) (pss_one (ps_ret (pv 2))) pss_nil)
    (pss_cons (ps_if (pt_cmpR op_isN1 (pv 2) pe_non (nomark _)) (pss_one (ps_ret (pv 1))) pss_nil)
    (pss_cons (ps_if (pt_cmpR op_gt (pe_fld (pv 1) rfl) (pe_op op_add (pe_fld (pv 2) rfl) pe_int) (nomark _)) (pss_cons (ps_asg (pe_met D_Builder_sides hr (by omega) (pv 0) (pa_cons (pv 1) pa_nil)) (pg_tup (n := 2) (by rfl) (pgs_cons (pg_name (i := 3) sc_row_joined.nd rfl (Or.inl rfl)) (pgs_cons (pg_name (i := 4) sc_row_joined.nd rfl (Or.inl rfl)) pgs_nil))))
    (pss_one (ps_ret (pe_cal C_even_pair hr (by omega) tk (pa_cons (pv 0) (pa_cons (pv 3) (pa_cons (pe_cal C_row_joined hr (by omega) tk (pa_cons (pv 0) (pa_cons (pv 4) (pa_cons (pv 2) pa_nil)))) pa_nil))))))) pss_nil)
    (pss_cons (ps_if (pt_cmpR op_gt (pe_fld (pv 2) rfl) (pe_op op_add (pe_fld (pv 1) rfl) pe_int) (nomark _)) (pss_cons (ps_asg (pe_met D_Builder_sides hr (by omega) (pv 0) (pa_cons (pv 2) pa_nil)) (pg_tup (n := 2) (by rfl) (pgs_cons (pg_name (i := 3) sc_row_joined.nd rfl (Or.inl rfl)) (pgs_cons (pg_name (i := 4) sc_row_joined.nd rfl (Or.inl rfl)) pgs_nil))))
    (pss_one (ps_ret (pe_cal C_even_pair hr (by omega) tk (pa_cons (pv 0) (pa_cons (pe_cal C_row_joined hr (by omega) tk (pa_cons (pv 0) (pa_cons (pv 1) (pa_cons (pv 3) pa_nil)))) (pa_cons (pv 4) pa_nil))))))) pss_nil)
    (pss_one (ps_ret (pe_met D_Builder_pair hr (by omega) (pv 0) (pa_cons (pv 1) (pa_cons (pv 2) pa_nil))))))))), ?_⟩
  refine i_start [some _, some _, some _, none, none] (by rfl) ?_
  try dsimp only [cxOf]
  walk_at "rd"
  cases l with
  | none =>
    obtain rfl : x = .non := hl
    walk_at "rd"
    exact q y H (Same.refl H) hr2
  | some l =>
    obtain ⟨ax, dxx, xl, xr, rfl, hax, hcx⟩ := Stm.at_ hl
    walk_at "rd"
    cases r with
    | none =>
      obtain rfl : y = .non := hr2
      walk_at "rd"
      exact q (.ref ax) H (Same.refl H) hl
    | some r =>
      obtain ⟨ay, dxy, yl, yr, rfl, hay, hcy⟩ := Stm.at_ hr2
      simp only [ohei] at hn
      walk_at "rd"
      refine i_fldR hax T.c_Stem T.n_Stem_height st_height ?_
      walk_at "rd"
      refine i_fldR hay T.c_Stem T.n_Stem_height st_height ?_
      walk_at "rd"
      refine i_dec (fun c1 => ?_) (fun c1 => ?_)
      · have c1' : hei r + 1 < hei l := by omega
        rcases hcx with ⟨rfl, _⟩ | ⟨u, v, rfl, hu1, hv1⟩
        · simp only [hei] at c1'; omega
        · have e1 : jo (some (.two u v)) (some r) = some (ep u (jn v r)) := by simp only [jo]; rw [jn_l c1']
          rw [e1] at q
          simp only [hei] at hn c1'
          obtain ⟨n', rfl⟩ : ∃ n', n = n' + 1 := ⟨n - 1, by omega⟩
          walk_at "rd"
          refine ⟨b, dx, [], rfl, hb, rfl, ?_⟩
          walk_at "rd"
          refine ⟨_, _, u, v, rfl, hl, fun p1 H1 x1 y1 s1 ht1 hu2 hv2 => ?_⟩
          walk_at "rd"
          refine ⟨p1, _, rfl, SqT.of ht1, rfl, ?_⟩
          walk_at "rd"
          refine ⟨b, dx, y1, .ref ay, some v, some r, rfl, s1 _ _ hb, hv2, Stm.mono hr2 s1, by simp only [ohei]; omega, fun w1 H2 s2 t2 => ?_⟩
          walk_at "rd"
          refine ⟨b, dx, _, _, u, jn v r, rfl, s2 _ _ (s1 _ _ hb), hu2.mono s2, t2, fun p3 H3 s3 t3 => ?_⟩
          exact q _ H3 ((s1.trans s2).trans s3) t3
      · walk_at "rd"
        refine i_fldR hay T.c_Stem T.n_Stem_height st_height ?_
        walk_at "rd"
        refine i_fldR hax T.c_Stem T.n_Stem_height st_height ?_
        walk_at "rd"
        have c1' : ¬ hei r + 1 < hei l := by omega
        refine i_dec (fun c2 => ?_) (fun c2 => ?_)
        · have c2' : hei l + 1 < hei r := by omega
          rcases hcy with ⟨rfl, _⟩ | ⟨u, v, rfl, hu1, hv1⟩
          · simp only [hei] at c2'; omega
          · have e1 : jo (some l) (some (.two u v)) = some (ep (jn l u) v) := by simp only [jo]; rw [jn_r c1' c2']
            rw [e1] at q
            simp only [hei] at hn c1' c2'
            obtain ⟨n', rfl⟩ : ∃ n', n = n' + 1 := ⟨n - 1, by omega⟩
            walk_at "rd"
            refine ⟨b, dx, [], rfl, hb, rfl, ?_⟩
            walk_at "rd"
            refine ⟨_, _, u, v, rfl, hr2, fun p1 H1 x1 y1 s1 ht1 hu2 hv2 => ?_⟩
            walk_at "rd"
            refine ⟨p1, _, rfl, SqT.of ht1, rfl, ?_⟩
            walk_at "rd"
            refine ⟨b, dx, .ref ax, x1, some l, some u, rfl, s1 _ _ hb, Stm.mono hl s1, hu2, by simp only [ohei]; omega, fun w1 H2 s2 t2 => ?_⟩
            walk_at "rd"
            refine ⟨b, dx, _, _, jn l u, v, rfl, s2 _ _ (s1 _ _ hb), t2, hv2.mono s2, fun p3 H3 s3 t3 => ?_⟩
            exact q _ H3 ((s1.trans s2).trans s3) t3
        · have e1 : jo (some l) (some r) = some (.two l r) := by simp only [jo]; rw [jn_e (by omega) (by omega)]
          rw [e1] at q
          walk_at "rd"
          refine ⟨b, dx, [], rfl, hb, rfl, ?_⟩
          walk_at "rd"
          refine ⟨_, _, _, l, r, rfl, hl, hr2, fun p1 H1 s1 t1 => ?_⟩
          exact q _ H1 s1 t1
theorem c_row_joined (T : Txt K mg) (n : Nat) : Cal P w K mg base (n + 4 + 1) "row_joined" (spRowJoined K n) := T.d_row_joined.rec_ sc_row_joined 4 (fun n vs H Q E h => by obtain ⟨_, _, _, _, _, _, rfl, _⟩ := h; rfl) (b_row_joined T (m_pair T) (m_sides T) (c_even_pair T)) n
/-! ### row_cut -/
def spRowCut (K : PySem.W.Frag) (n : Nat) : Sp := fun vs H Q _ => ∃ b dx x t k, vs = [.ref b, x, .int (k : Nat)] ∧ H b = some (.ins (CB K) dx []) ∧ Stm (CS K) H x t ∧ bal t ∧ k ≤ wid t ∧ hei t ≤ n ∧ hei t ≤ 45 ∧
  ∀ p H' u v, Same H H' → H' p = some (.tup [u, v]) → OStm (CS K) H' u (ct t k).1 → OStm (CS K) H' v (ct t k).2 → Q (.ref p) H'
theorem ct_0 (t : Sh) : ct t 0 = (none, some t) := by cases t <;> rfl
theorem ct_all {t : Sh} {k : Nat} (h : k = wid t) : ct t k = (some t, none) := by
  have := wid_pos t
  cases k with
  | zero => omega
  | succ k => cases t with
    | one => rfl
    | two l r => simp only [ct]; rw [if_pos h]
theorem ct_l {l r : Sh} {k : Nat} (h0 : k ≠ 0) (h : k ≠ wid (.two l r)) (h2 : k ≤ wid l) : ct (.two l r) k = ((ct l k).1, jo (ct l k).2 (some r)) := by
  cases k with
  | zero => exact absurd rfl h0
  | succ k => simp only [ct]; rw [if_neg h, if_pos h2]
theorem ct_r {l r : Sh} {k : Nat} (h0 : k ≠ 0) (h : k ≠ wid (.two l r)) (h2 : ¬ k ≤ wid l) : ct (.two l r) k = (jo (some l) (ct r (k - wid l)).1, (ct r (k - wid l)).2) := by
  cases k with
  | zero => exact absurd rfl h0
  | succ k => simp only [ct]; rw [if_neg h, if_neg h2]
abbrev s_row_cut : Stmt := (top 21)
theorem sc_row_cut : FnScope ["builder", "tree", "many", "left", "right", "first", "last"] ["builder", "tree", "many"] (defScope s_row_cut) := ⟨rfl, rfl, rfl, by decide +kernel, rfl, by decide +kernel, by decide +kernel⟩
theorem b_row_cut (T : Txt K mg) (D_Builder_sides : Met P w K mg base 1 (CB K) "sides" (spSides K)) (C_row_joined : Cal P w K mg base 105 "row_joined" (spRowJoined K 100)) (n : Nat)
    (C_row_cut : Cal P w K mg base (n + 105) "row_cut" (spPre (spRowCut K) n)) : Body P w K mg base (n + 105) ["builder", "tree", "many", "left", "right", "first", "last"] "row_cut" (defScope s_row_cut) (defBody s_row_cut) (spRowCut K n) := by
  intro f cdv A outer s H vs Q E hr h
  obtain ⟨b, dx, x, t, k, rfl, hb, ht, bt, hk, hn, h45, q⟩ := h
  obtain ⟨ax, dxx, xl, xr, rfl, hax, hcx⟩ := Stm.at_ ht
  have hu := hu_of hr
  have tk : Takes (cxOf (L2.CX P w) P w K mg base ["builder", "tree", "many", "left", "right", "first", "last"] "row_cut" (defScope s_row_cut) f cdv A outer s H E) (fun cls d _ H => E cls d H) := takes_of rfl rfl rfl rfl
  refine ⟨_, (pss_cons (ps_if (pt_cmpR op_eq (pv 2) pe_int (nomark _)) (pss_one (ps_ret (pe_tup (pa_cons pe_non (pa_cons (pv 1) pa_nil))))) pss_nil)
    (pss_cons (ps_if (pt_cmpR op_eq (pv 2) (pe_fld (pv 1) rfl) (nomark _)) (pss_one (ps_ret (pe_tup (pa_cons (pv 1) (pa_cons pe_non pa_nil))))) pss_nil)
    (pss_cons (ps_asg (pe_met D_Builder_sides hr (by omega) (pv 0) (pa_cons (pv 1) pa_nil)) (pg_tup (n := 2) (by rfl) (pgs_cons (pg_name (i := 3) sc_row_cut.nd rfl (Or.inl rfl)) (pgs_cons (pg_name (i := 4) sc_row_cut.nd rfl (Or.inl rfl)) pgs_nil))))
    (pss_cons (ps_if (pt_cmpR op_le (pv 2) (pe_fld (pv 3) rfl) (nomark _)) (pss_cons (ps_asg (pe_cal C_row_cut hr (by omega) tk (pa_cons (pv 0) (pa_cons (pv 3) (pa_cons (pv 2) pa_nil)))) (pg_tup (n := 2) (by rfl) (pgs_cons (pg_name (i := 5) sc_row_cut.nd rfl (Or.inl rfl)) (pgs_cons (pg_name (i := 6) sc_row_cut.nd rfl (Or.inl rfl)) pgs_nil))))
    (pss_one (ps_ret (pe_tup (pa_cons (pv 5) (pa_cons (pe_cal C_row_joined hr (by omega) tk (pa_cons (pv 0) (pa_cons (pv 6) (pa_cons (pv 4) pa_nil)))) pa_nil)))))) pss_nil)
    (pss_cons (ps_asg (pe_cal C_row_cut hr (by omega) tk (pa_cons (pv 0) (pa_cons (pv 4) (pa_cons (pe_op op_sub (pv 2) (pe_fld (pv 3) rfl)) pa_nil)))) (pg_tup (n := 2) (by rfl) (pgs_cons (pg_name (i := 5) sc_row_cut.nd rfl (Or.inl rfl)) (pgs_cons (pg_name (i := 6) sc_row_cut.nd rfl (Or.inl rfl)) pgs_nil))))
    (pss_one (ps_ret (pe_tup (pa_cons (pe_cal C_row_joined hr (by omega) tk (pa_cons (pv 0) (pa_cons (pv 3) (pa_cons (pv 5) pa_nil)))) (pa_cons (pv 6) pa_nil)))))))))), ?_⟩
  refine i_start [some _, some _, some _, none, none, none, none] (by rfl) ?_
  try dsimp only [cxOf]
  walk_at "rd"
  refine i_dec (fun c0 => ?_) (fun c0 => ?_)
  · have e : k = 0 := by omega
    subst e
    rw [ct_0] at q
    walk_at "rd"
    refine ⟨by show 2 ≤ sizeLine; decide, fun p hp => ?_⟩
    generalize eH1 : L2.upd H p _ = H1
    obtain ⟨s1, e1⟩ := laid eH1 hp
    walk_at "rd"
    exact q p H1 _ _ s1 e1 rfl (ht.mono s1)
  · walk_at "rd"
    refine i_fldR hax T.c_Stem T.n_Stem_width st_width ?_
    walk_at "rd"
    refine i_dec (fun c1 => ?_) (fun c1 => ?_)
    · rw [ct_all (by omega)] at q
      walk_at "rd"
      refine ⟨by show 2 ≤ sizeLine; decide, fun p hp => ?_⟩
      generalize eH1 : L2.upd H p _ = H1
      obtain ⟨s1, e1⟩ := laid eH1 hp
      walk_at "rd"
      exact q p H1 _ _ s1 e1 (ht.mono s1) rfl
    · rcases hcx with ⟨rfl, _⟩ | ⟨l, r, rfl, hl, hr2⟩
      · simp only [wid] at hk c1; omega
      · obtain ⟨b1, b2, b3, b4⟩ := bt
        have c1' : k ≠ wid (.two l r) := fun z => c1 (by rw [z])
        simp only [hei] at hn h45
        simp only [wid] at hk
        obtain ⟨n', rfl⟩ : ∃ n', n = n' + 1 := ⟨n - 1, by omega⟩
        walk_at "rd"
        refine ⟨b, dx, [], rfl, hb, rfl, ?_⟩
        walk_at "rd"
        refine ⟨_, _, l, r, rfl, ht, fun p1 H1 x1 y1 s1 ht1 hl1 hr1 => ?_⟩
        walk_at "rd"
        refine ⟨p1, _, rfl, SqT.of ht1, rfl, ?_⟩
        walk_at "rd"
        obtain ⟨a1, dx1, x1l, x1r, rfl, h1, hc1⟩ := hl1.at_
        refine i_fldR h1 T.c_Stem T.n_Stem_width st_width ?_
        walk_at "rd"
        refine i_dec (fun c2 => ?_) (fun c2 => ?_)
        · have c2' : k ≤ wid l := by omega
          obtain ⟨_, _, _, _, o1, o2⟩ := ct_ok l k b1 c2'
          rw [ct_l (by omega) c1' c2'] at q
          walk_at "rd"
          refine ⟨b, dx, _, l, k, rfl, s1 _ _ hb, hl1, b1, c2', by omega, by omega, fun p2 H2 u2 v2 s2 ht2 hu2 hv2 => ?_⟩
          walk_at "rd"
          refine ⟨p2, _, rfl, SqT.of ht2, rfl, ?_⟩
          walk_at "rd"
          refine ⟨b, dx, v2, y1, _, some r, rfl, s2 _ _ (s1 _ _ hb), hv2, hr1.mono s2, by simp only [ohei] at *; omega, fun w3 H3 s3 t3 => ?_⟩
          walk_at "rd"
          refine ⟨by show 2 ≤ sizeLine; decide, fun p hp => ?_⟩
          generalize eH4 : L2.upd H3 p _ = H4
          obtain ⟨s4, e4⟩ := laid eH4 hp
          walk_at "rd"
          exact q p H4 _ _ (((s1.trans s2).trans s3).trans s4) e4 (hu2.mono (s3.trans s4)) (t3.mono s4)
        · have c2' : ¬ k ≤ wid l := by omega
          have c2'' : k - wid l ≤ wid r := by omega
          obtain ⟨_, _, _, _, o1, o2⟩ := ct_ok r (k - wid l) b2 c2''
          rw [ct_r (by omega) c1' c2'] at q
          walk_at "rd"
          refine i_fldR h1 T.c_Stem T.n_Stem_width st_width ?_
          walk_at "rd"
          rw [show ((k : Nat) : Int) - ((wid l : Nat) : Int) = ((k - wid l : Nat) : Int) by omega]
          refine ⟨b, dx, _, r, k - wid l, rfl, s1 _ _ hb, hr1, b2, c2'', by omega, by omega, fun p2 H2 u2 v2 s2 ht2 hu2 hv2 => ?_⟩
          walk_at "rd"
          refine ⟨p2, _, rfl, SqT.of ht2, rfl, ?_⟩
          walk_at "rd"
          refine ⟨b, dx, .ref a1, u2, some l, _, rfl, s2 _ _ (s1 _ _ hb), hl1.mono s2, hu2, by simp only [ohei] at *; omega, fun w3 H3 s3 t3 => ?_⟩
          walk_at "rd"
          refine ⟨by show 2 ≤ sizeLine; decide, fun p hp => ?_⟩
          generalize eH4 : L2.upd H3 p _ = H4
          obtain ⟨s4, e4⟩ := laid eH4 hp
          walk_at "rd"
          exact q p H4 _ _ (((s1.trans s2).trans s3).trans s4) e4 (t3.mono s4) (hv2.mono (s3.trans s4))
theorem c_row_cut (T : Txt K mg) (n : Nat) : Cal P w K mg base (n + 105 + 1) "row_cut" (spRowCut K n) := T.d_row_cut.rec_ sc_row_cut 105 (fun n vs H Q E h => by obtain ⟨_, _, _, _, _, rfl, _⟩ := h; rfl) (b_row_cut T (m_sides T) (c_row_joined T 100)) n
end

end K62

set_option maxHeartbeats 4000000
namespace K62
open PySem PySem.Spec PyProof.Rows L2 KB KM
/-- the tuples stay, and what is of a type stays of it -/
def Keeps (H H' : Hp) : Prop := Tups H H' ∧ ∀ v n, tyN H v = some n → tyN H' v = some n
theorem Keeps.of {H H' : Hp} (s : Same H H') : Keeps H H' := ⟨Same.tups s, fun v n h => by
  cases v with
  | ref p =>
    have k3 : (match H p with
      | some (.lst _) => some "list"
      | some (.tup _) => some "tuple"
      | some (.dK _) => some "dict"
      | some (.dT _) => some "dict"
      | some (.frz _ (.lst _)) => some "list"
      | _ => none) = some n := h
    cases eo : H p with
    | none => rw [eo] at k3; cases k3
    | some o =>
      have e8 := s _ _ eo
      simp only [tyN, e8]
      rw [eo] at k3
      exact k3
  | _ => exact h⟩
theorem Keeps.trans {H H1 H2 : Hp} (a : Keeps H H1) (b : Keeps H1 H2) : Keeps H H2 := ⟨fun c xs h => b.1 c xs (a.1 c xs h), fun v n h => b.2 v n (a.2 v n h)⟩
theorem Keeps.updL {H : Hp} {p : Addr} {xs ys : List V} (h : H p = some (.lst xs)) : Keeps H (L2.upd H p (.lst ys)) := by
  refine ⟨SameX.tups (f := p) SameX.upd h, fun v n k => ?_⟩
  cases v with
  | ref a =>
    by_cases c : a = p
    · subst c
      simp only [tyN, h] at k
      simp only [tyN, upd_same]
      exact k
    · simp only [tyN, upd_ne c] at k ⊢
      exact k
  | _ => exact k
theorem Keeps.ofX {H H' : Hp} {p : Addr} {xs ys : List V} (s : SameX p H H') (h : H p = some (.lst xs)) (h' : H' p = some (.lst ys)) : Keeps H H' := by
  refine ⟨SameX.tups s h, fun v n k => ?_⟩
  cases v with
  | ref a =>
    by_cases c : a = p
    · subst c
      simp only [tyN, h] at k
      simp only [tyN, h']
      exact k
    · cases eo : H a with
      | none => simp only [tyN, eo] at k; cases k
      | some o =>
        have e8 := s _ _ c eo
        simp only [tyN, e8]
        simp only [tyN, eo] at k
        exact k
  | _ => exact k
theorem GShp.keep {H H' : Hp} {v : V} {g : GS} (h : GShp H v g) (s : Keeps H H') : GShp H' v g := by
  induction h with
  | one => exact .one
  | two a _ _ ih1 ih2 => exact .two (s.1 _ _ a) ih1 ih2
  | bad a k t =>
    refine .bad a ⟨s.2 _ _ k.1, k.2⟩ fun e => ?_
    obtain ⟨a, xs, e1, e2, e3⟩ := t e
    exact ⟨a, xs, e1, s.1 _ _ e2, e3⟩
/-- what is no shape: a ref to a tuple of another length, a list, a dict, a scalar -/
theorem bad_tup {H : Hp} {a : Addr} {xs : List V} (h : H a = some (.tup xs)) (hl : xs.length ≠ 2) : GShp H (.ref a) .bad :=
  .bad (by intro z; cases z) (n := "tuple") ⟨tyN_tup h, by decide⟩ fun _ => ⟨a, xs, rfl, h, hl⟩
theorem bad_ty {H : Hp} {v : V} {n : String} (h0 : v ≠ .non) (h : tyN H v = some n) (hm : n ∈ TYS) (hn : n ≠ "tuple") : GShp H v .bad := .bad h0 ⟨h, hm⟩ fun e => absurd e hn
/-! things in a row -/
inductive Pl (H : Hp) : List V → Nat → Prop where
  | nil : Pl H [] 0
  | cons {v : V} {g : GS} {vs : List V} {n : Nat} : GShp H v g → Pl H vs n → Pl H (v :: vs) (gl g + n)
theorem Pl.keep {H H' : Hp} {vs : List V} {n : Nat} (h : Pl H vs n) (s : Keeps H H') : Pl H' vs n := by
  induction h with
  | nil => exact .nil
  | cons a _ ih => exact .cons (a.keep s) ih
theorem Pl.rep {H : Hp} : ∀ n, Pl H (List.replicate n .non) n
  | 0 => .nil
  | n + 1 => by
    have := Pl.cons (H := H) (g := .one) .one (Pl.rep n)
    rw [show gl .one + n = n + 1 by simp only [gl]; omega] at this
    exact this
theorem Pl.set {H : Hp} {v : V} (h : GShp H v .bad) : ∀ (n i : Nat), Pl H ((List.replicate n .non).set i v) n
  | 0, i => .nil
  | n + 1, 0 => by
    have := Pl.cons h (Pl.rep n)
    rw [show gl .bad + n = n + 1 by simp only [gl]; omega] at this
    exact this
  | n + 1, i + 1 => by
    have := Pl.cons (H := H) (g := .one) .one (Pl.set h n i)
    rw [show gl .one + n = n + 1 by simp only [gl]; omega] at this
    exact this
theorem Pl.splice {H : Hp} : ∀ (a : Nat) (vs : List V) (n : Nat), Pl H vs n → a + 1 < vs.length → ∃ v1 v2 g1 g2, vs[a]? = some v1 ∧ vs[a + 1]? = some v2 ∧ GShp H v1 g1 ∧ GShp H v2 g2 ∧
    ∀ H' t, Keeps H H' → GShp H' t (.two g1 g2) → Pl H' (vs.take a ++ [t] ++ vs.drop (a + 2)) n
  | _, _, _, .nil, h => by simp at h
  | 0, _, _, .cons h1 .nil, h => by simp at h
  | 0, _, _, .cons h1 (.cons h2 h3), h => by
    refine ⟨_, _, _, _, rfl, rfl, h1, h2, fun H' t k z => ?_⟩
    have := Pl.cons z (h3.keep k)
    simp only [gl] at this
    rw [Nat.add_assoc] at this
    exact this
  | a + 1, _, _, .cons h1 h2, h => by
    obtain ⟨v1, v2, g1, g2, e1, e2, k1, k2, k3⟩ := Pl.splice a _ _ h2 (by simpa using h)
    refine ⟨v1, v2, g1, g2, e1, e2, k1, k2, fun H' t k z => ?_⟩
    exact Pl.cons (h1.keep k) (k3 H' t k z)
theorem Pl.one {H : Hp} {vs : List V} {n : Nat} (h : Pl H vs n) (hl : vs.length = 1) : ∃ v g, vs = [v] ∧ GShp H v g ∧ gl g = n := by
  cases h with
  | nil => simp at hl
  | cons a b =>
    cases b with
    | nil => exact ⟨_, _, rfl, a, rfl⟩
    | cons _ _ => simp at hl
theorem rep_flat {v : V} : ∀ n, (List.replicate n [v]).flatten = List.replicate n v
  | 0 => rfl
  | n + 1 => by rw [List.replicate_succ, List.flatten_cons, rep_flat n, List.replicate_succ]; rfl

end K62

set_option maxHeartbeats 4000000
namespace K62
open PySem PySem.Spec PyProof.Rows L2 KB KM
section
variable {P : Program} {w : World} {K : PySem.W.Frag} {mg : Str → Option Value} {base : Heap}
theorem GShp.mono {H H' : Hp} {v : V} {g : GS} (h : GShp H v g) (s : Same H H') : GShp H' v g := by
  induction h with
  | one => exact .one
  | two a _ _ ih1 ih2 => exact .two (s _ _ a) ih1 ih2
  | bad a k t =>
    refine .bad a (kn_stay k s) fun e => ?_
    obtain ⟨a, xs, e1, e2, e3⟩ := t e
    exact ⟨a, xs, e1, s _ _ e2, e3⟩
/-! ### _law_is_shape -/
def spIsShape (n : Nat) : Sp := fun vs H Q _ => ∃ v g, vs = [v] ∧ GShp H v g ∧ gh g ≤ n ∧ Q (.bl (isSh g)) H
abbrev s__law_is_shape : Stmt := (top 48)
theorem sc__law_is_shape : FnScope ["thing"] ["thing"] (defScope s__law_is_shape) := ⟨rfl, rfl, rfl, by decide +kernel, rfl, by decide +kernel, by decide +kernel⟩
theorem b_law_is_shape (T : Txt K mg) (n : Nat) (C__law_is_shape : Cal P w K mg base (n + 0) "_law_is_shape" (spPre spIsShape n)) : Body P w K mg base (n + 0) ["thing"] "_law_is_shape" (defScope s__law_is_shape) (defBody s__law_is_shape) (spIsShape n) := by
  intro f cdv A outer s H vs Q E hr h
  obtain ⟨v, g, rfl, hg, hm, q⟩ := h
  have hu := hu_of hr
  have tk : Takes (cxOf (L2.CX P w) P w K mg base ["thing"] "_law_is_shape" (defScope s__law_is_shape) f cdv A outer s H E) (fun cls d _ H => E cls d H) := takes_of rfl rfl rfl rfl
  refine ⟨_, (pss_cons (ps_if (pt_cmpR op_isN1 (pv 0) pe_non (nomark _)) (pss_one (ps_ret pe_bl)) pss_nil)
    (pss_cons (ps_if (PW.pt (pw_or (pt_not (pt_val (pe_callB call_isN1 (by rfl) T.g_isinstance (by decide +kernel) (pa_cons (pv 0) (pa_cons (pe_ty "tuple" T.g_tuple) pa_nil))))) (pw_or1 (pt_cmpR op_ne (pe_callB call_lenK (by rfl) T.g_len (by decide +kernel) (pa_cons (pv 0) pa_nil)) pe_int (nomark _))))) (pss_one (ps_ret pe_bl)) pss_nil)
    (pss_one (ps_ret (pe_and (pe_cal C__law_is_shape hr (by omega) tk (pa_cons (pe_ix ix_seq (pv 0) pe_int (fun _ _ => rfl)) pa_nil)) (pe_one (pe_cal C__law_is_shape hr (by omega) tk (pa_cons (pe_ix ix_seq (pv 0) pe_int (fun _ _ => rfl)) pa_nil)))))))), ?_⟩
  refine i_start [some _] (by rfl) ?_
  try dsimp only [cxOf]
  walk_at "rd"
  cases hg with
  | one =>
    walk_at "rd"
    exact q
  | @bad _ nn hv hk ht =>
    refine i_isNx hv ?_
    walk_at "rd"
    refine i_inst hk.1 (ty_tuple nn hk.2) ?_
    walk_at "rd"
    cases et : (nn == "tuple") with
    | false =>
      walk_at "rd"
      refine i_T ?_
      walk_at "rd"
      exact q
    | true =>
      obtain ⟨a, xs, rfl, ha, hl⟩ := ht (beq_iff_eq.mp et)
      refine i_F ?_
      walk_at "rd"
      refine i_lenT (SqT.of ha) ?_
      walk_at "rd"
      refine i_ndec (fun _ => ?_) (fun z => absurd (by omega) hl)
      walk_at "rd"
      exact q
  | @two a x y l r ha hx hy =>
    simp only [gh] at hm
    obtain ⟨n', rfl⟩ : ∃ n', n = n' + 1 := ⟨n - 1, by omega⟩
    walk_at "rd"
    refine i_inst (tyN_tup ha) (ty_tuple "tuple" (by decide)) ?_
    walk_at "rd"
    refine i_F ?_
    walk_at "rd"
    refine i_lenT (SqT.of ha) ?_
    walk_at "rd"
    refine i_ndec (fun z => absurd rfl z) (fun _ => ?_)
    walk_at "rd"
    refine i_ixST (SqT.of ha) rfl ?_
    walk_at "rd"
    refine ⟨x, l, rfl, hx, by omega, ?_⟩
    walk_at "rd"
    simp only [isSh] at q
    refine i_bool (fun e => ?_) (fun e => ?_)
    · rw [e, Bool.true_and] at q
      walk_at "rd"
      refine i_ixST (SqT.of ha) rfl ?_
      walk_at "rd"
      exact ⟨y, r, rfl, hy, by omega, q⟩
    · rw [e, Bool.false_and] at q
      walk_at "rd"
      exact q
theorem c_law_is_shape (T : Txt K mg) (n : Nat) : Cal P w K mg base (n + 0 + 1) "_law_is_shape" (spIsShape n) := T.d__law_is_shape.rec_ sc__law_is_shape 0 (fun n vs H Q E h => by obtain ⟨_, _, rfl, _⟩ := h; rfl) (b_law_is_shape T) n
/-! ### _law_sizes -/
def Szs (H : Hp) (v : V) : Option (Nat × Nat) → Prop
  | none => v = .non
  | some (a, b) => ∃ p, v = .ref p ∧ H p = some (.tup [.int (a : Nat), .int (b : Nat)])
theorem Szs.mono {H H' : Hp} {v : V} {o : Option (Nat × Nat)} (h : Szs H v o) (s : Same H H') : Szs H' v o := by
  match o, h with
  | none, h => exact h
  | some (a, b), ⟨p, e, hp⟩ => exact ⟨p, e, s _ _ hp⟩
def spSizes (n : Nat) : Sp := fun vs H Q _ => ∃ v g, vs = [v] ∧ GShp H v g ∧ gh g ≤ n ∧ ∀ v' H', Same H H' → Szs H' v' (gsz g) → Q v' H'
abbrev s__law_sizes : Stmt := (top 47)
theorem sc__law_sizes : FnScope ["shape", "one", "other"] ["shape"] (defScope s__law_sizes) := ⟨rfl, rfl, rfl, by decide +kernel, rfl, by decide +kernel, by decide +kernel⟩
theorem b_law_sizes (T : Txt K mg) (n : Nat) (C__law_sizes : Cal P w K mg base (n + 0) "_law_sizes" (spPre spSizes n)) : Body P w K mg base (n + 0) ["shape", "one", "other"] "_law_sizes" (defScope s__law_sizes) (defBody s__law_sizes) (spSizes n) := by
  intro f cdv A outer s H vs Q E hr h
  obtain ⟨v, g, rfl, hg, hm, q⟩ := h
  have hu := hu_of hr
  have tk : Takes (cxOf (L2.CX P w) P w K mg base ["shape", "one", "other"] "_law_sizes" (defScope s__law_sizes) f cdv A outer s H E) (fun cls d _ H => E cls d H) := takes_of rfl rfl rfl rfl
  refine ⟨_, (pss_cons (ps_if (pt_cmpR op_isN1 (pv 0) pe_non (nomark _)) (pss_one (ps_ret (pe_tup (pa_cons pe_int (pa_cons pe_int pa_nil))))) pss_nil)
    (pss_cons (ps_if (PW.pt (pw_or (pt_not (pt_val (pe_callB call_isN1 (by rfl) T.g_isinstance (by decide +kernel) (pa_cons (pv 0) (pa_cons (pe_ty "tuple" T.g_tuple) pa_nil))))) (pw_or1 (pt_cmpR op_ne (pe_callB call_lenK (by rfl) T.g_len (by decide +kernel) (pa_cons (pv 0) pa_nil)) pe_int (nomark _))))) (pss_one (ps_ret pe_non)) pss_nil)
    (pss_cons (ps_par (i := 1) (j := 2) (by rfl) sc__law_sizes.nd rfl rfl (by decide) rfl rfl (pa_cons (pe_cal C__law_sizes hr (by omega) tk (pa_cons (pe_ix ix_seq (pv 0) pe_int (fun _ _ => rfl)) pa_nil)) (pa_cons (pe_cal C__law_sizes hr (by omega) tk (pa_cons (pe_ix ix_seq (pv 0) pe_int (fun _ _ => rfl)) pa_nil)) pa_nil)) (by rfl))
    (pss_cons (ps_if (PW.pt (pw_or (pt_cmpR op_isN1 (pv 1) pe_non (nomark _)) (pw_or (pt_cmpR op_isN1 (pv 2) pe_non (nomark _)) (pw_or1 (pt_cmpR op_gt (pe_callB call_absK (by rfl) T.g_abs (by decide +kernel) (pa_cons (pe_op op_sub (pe_ix ix_seq (pv 1) pe_int (fun _ _ => rfl)) (pe_ix ix_seq (pv 2) pe_int (fun _ _ => rfl))) pa_nil)) pe_int (nomark _)))))) (pss_one (ps_ret pe_non)) pss_nil)
    (pss_one (ps_ret (pe_tup (pa_cons (pe_op op_add (pe_ix ix_seq (pv 1) pe_int (fun _ _ => rfl)) (pe_ix ix_seq (pv 2) pe_int (fun _ _ => rfl))) (pa_cons (pe_op op_add pe_int (pe_callB (call_max2K rfl) (by rfl) T.g_max (by decide +kernel) (pa_cons (pe_ix ix_seq (pv 1) pe_int (fun _ _ => rfl)) (pa_cons (pe_ix ix_seq (pv 2) pe_int (fun _ _ => rfl)) pa_nil)))) pa_nil))))))))), ?_⟩
  refine i_start [some _, none, none] (by rfl) ?_
  try dsimp only [cxOf]
  walk_at "rd"
  cases hg with
  | one =>
    walk_at "rd"
    refine ⟨by show 2 ≤ sizeLine; decide, fun p hp => ?_⟩
    walk_at "rd"
    exact q _ _ (Same.new hp) ⟨p, rfl, upd_same⟩
  | @bad _ nn hv hk ht =>
    refine i_isNx hv ?_
    walk_at "rd"
    refine i_inst hk.1 (ty_tuple nn hk.2) ?_
    walk_at "rd"
    cases et : (nn == "tuple") with
    | false =>
      walk_at "rd"
      refine i_T ?_
      walk_at "rd"
      exact q _ H (Same.refl H) rfl
    | true =>
      obtain ⟨a, xs, rfl, ha, hl⟩ := ht (beq_iff_eq.mp et)
      refine i_F ?_
      walk_at "rd"
      refine i_lenT (SqT.of ha) ?_
      walk_at "rd"
      refine i_ndec (fun _ => ?_) (fun z => absurd (by omega) hl)
      walk_at "rd"
      exact q _ H (Same.refl H) rfl
  | @two a x y l r ha hx hy =>
    simp only [gh] at hm
    obtain ⟨n', rfl⟩ : ∃ n', n = n' + 1 := ⟨n - 1, by omega⟩
    walk_at "rd"
    refine i_inst (tyN_tup ha) (ty_tuple "tuple" (by decide)) ?_
    walk_at "rd"
    refine i_F ?_
    walk_at "rd"
    refine i_lenT (SqT.of ha) ?_
    walk_at "rd"
    refine i_ndec (fun z => absurd rfl z) (fun _ => ?_)
    walk_at "rd"
    refine i_ixST (SqT.of ha) rfl ?_
    walk_at "rd"
    refine ⟨x, l, rfl, hx, by omega, fun v1 H1 s1 z1 => ?_⟩
    walk_at "rd"
    refine i_ixST (SqT.of (s1 _ _ ha)) rfl ?_
    walk_at "rd"
    refine ⟨y, r, rfl, hy.mono s1, by omega, fun v2 H2 s2 z2 => ?_⟩
    walk_at "rd"
    have S2 : Same H H2 := s1.trans s2
    simp only [gsz] at q
    cases el : gsz l with
    | none =>
      rw [el] at z1 q
      obtain rfl : v1 = .non := z1
      walk_at "rd"
      exact q _ H2 S2 rfl
    | some lz =>
      obtain ⟨a1, b1⟩ := lz
      rw [el] at z1 q
      obtain ⟨p1, rfl, hp1⟩ := z1
      walk_at "rd"
      cases er : gsz r with
      | none =>
        rw [er] at z2 q
        obtain rfl : v2 = .non := z2
        walk_at "rd"
        exact q _ H2 S2 rfl
      | some rz =>
        obtain ⟨a2, b2⟩ := rz
        rw [er] at z2 q
        obtain ⟨p2, rfl, hp2⟩ := z2
        have hp1' : H2 p1 = _ := s2 _ _ hp1
        walk_at "rd"
        refine i_ixST (SqT.of hp1') rfl ?_
        walk_at "rd"
        refine i_ixST (SqT.of hp2) rfl ?_
        walk_at "rd"
        refine i_dec (fun h1 => ?_) (fun h1 => ?_)
        · have e1 : ¬ (b1 ≤ b2 + 1 ∧ b2 ≤ b1 + 1) := by intro z; split at h1 <;> omega
          simp only [if_neg e1] at q
          walk_at "rd"
          exact q _ H2 S2 rfl
        · have e1 : b1 ≤ b2 + 1 ∧ b2 ≤ b1 + 1 := by constructor <;> (split at h1 <;> omega)
          simp only [if_pos e1] at q
          walk_at "rd"
          refine i_ixST (SqT.of hp1') rfl ?_
          walk_at "rd"
          refine i_ixST (SqT.of hp2) rfl ?_
          walk_at "rd"
          refine i_ixST (SqT.of hp1') rfl ?_
          walk_at "rd"
          refine i_ixST (SqT.of hp2) rfl ?_
          walk_at "rd"
          refine ⟨by show 2 ≤ sizeLine; decide, fun p hp => ?_⟩
          walk_at "rd"
          refine q _ _ (S2.trans (Same.new hp)) ⟨p, rfl, ?_⟩
          have e2 : ((a1 : Nat) : Int) + (a2 : Nat) = ((a1 + a2 : Nat) : Int) := by omega
          have e3 : (1 : Int) + max ((b1 : Nat) : Int) ((b2 : Nat) : Int) = ((1 + max b1 b2 : Nat) : Int) := by omega
          rw [upd_same, e2, e3]
theorem c_law_sizes (T : Txt K mg) (n : Nat) : Cal P w K mg base (n + 0 + 1) "_law_sizes" (spSizes n) := T.d__law_sizes.rec_ sc__law_sizes 0 (fun n vs H Q E h => by obtain ⟨_, _, rfl, _⟩ := h; rfl) (b_law_sizes T) n
/-! ### _law_trouble -/
def trb (g : GS) : Str := if isSh g = true then (if gsz g = none then "BadBalance" else "") else "BadShape"
def spTrouble : Sp := fun vs H Q _ => ∃ v g, vs = [v] ∧ GShp H v g ∧ gh g ≤ 40 ∧ ∀ H', Same H H' → Q (.str (trb g)) H'
abbrev s__law_trouble : Stmt := (top 46)
theorem sc__law_trouble : FnScope ["thing"] ["thing"] (defScope s__law_trouble) := ⟨rfl, rfl, rfl, by decide +kernel, rfl, by decide +kernel, by decide +kernel⟩
theorem b_law_trouble (T : Txt K mg) (C__law_is_shape : Cal P w K mg base 41 "_law_is_shape" (spIsShape 40)) (C__law_sizes : Cal P w K mg base 41 "_law_sizes" (spSizes 40)) : Body P w K mg base (41) ["thing"] "_law_trouble" (defScope s__law_trouble) (defBody s__law_trouble) spTrouble := by
  intro f cdv A outer s H vs Q E hr h
  obtain ⟨v, g, rfl, hg, hm, q⟩ := h
  unfold trb at q
  have hu := hu_of hr
  have tk : Takes (cxOf (L2.CX P w) P w K mg base ["thing"] "_law_trouble" (defScope s__law_trouble) f cdv A outer s H E) (fun cls d _ H => E cls d H) := takes_of rfl rfl rfl rfl
  refine ⟨_, (pss_cons (ps_if (pt_not (pt_val (pe_cal C__law_is_shape hr (by omega) tk (pa_cons (pv 0) pa_nil)))) (pss_one (ps_ret pe_str)) pss_nil)
    (pss_one (ps_ret (pe_ifExp (pt_cmpR op_isN1 (pe_cal C__law_sizes hr (by omega) tk (pa_cons (pv 0) pa_nil)) pe_non (nomark _)) pe_str pe_str)))), ?_⟩
  refine i_start [some _] (by rfl) ?_
  try dsimp only [cxOf]
  walk_at "rd"
  refine ⟨v, g, rfl, hg, hm, ?_⟩
  walk_at "rd"
  cases e : isSh g with
  | false =>
    rw [e] at q
    walk_at "rd"
    refine i_T ?_
    walk_at "rd"
    exact q H (Same.refl H)
  | true =>
    rw [e] at q
    refine i_F ?_
    walk_at "rd"
    refine ⟨v, g, rfl, hg, hm, fun v1 H1 s1 z1 => ?_⟩
    walk_at "rd"
    cases el : gsz g with
    | none =>
      rw [el] at z1 q
      obtain rfl : v1 = .non := z1
      walk_at "rd"
      exact q H1 s1
    | some lz =>
      obtain ⟨a1, b1⟩ := lz
      rw [el] at z1 q
      obtain ⟨p1, rfl, hp1⟩ := z1
      walk_at "rd"
      exact q H1 s1
theorem c_law_trouble (T : Txt K mg) : Cal P w K mg base 42 "_law_trouble" spTrouble := T.d__law_trouble.cal sc__law_trouble (fun vs H Q E h => by obtain ⟨_, _, rfl, _⟩ := h; rfl) (b_law_trouble T (c_law_is_shape T 40) (c_law_sizes T 40))
/-! ### _law_any_balanced -/
def spAnyBal : Sp := fun vs H Q _ => ∃ (fd : Addr) (m most : Nat) (xs : List V), vs = [.ref fd, .int (most : Nat)] ∧ H fd = some (.lst xs) ∧ FdL m xs ∧ 1 ≤ most ∧ most ≤ 1500 ∧ m ≤ 900000 ∧
  ∀ v s zs H', SameX fd H H' → H' fd = some (.lst zs) → FdL (m + 2 * most) zs → Shp H' v s → bal s → wid s ≤ most → hei s ≤ 40 → Q v H'
theorem fit_between {wd T h : Nat} (tl : Tl wd T) (h1 : 1 ≤ wd) (a : bits (wd - 1) ≤ h) (b : h ≤ T) : Fit wd h := by
  refine ⟨?_, ?_⟩
  · have := (tl.fit h1).1
    have := L_mono b
    omega
  · have k : wd - 1 < 2 ^ bits (wd - 1) := by
      by_cases c : wd - 1 = 0
      · rw [c]; exact Nat.two_pow_pos _
      · rw [bits_log _ c]; exact Nat.lt_log2_self
    have := Nat.pow_le_pow_right (show 0 < 2 by decide) a
    omega
theorem bits_le_tl {wd T : Nat} (tl : Tl wd T) (h1 : 1 ≤ wd) : bits (wd - 1) ≤ T := by
  have k := (tl.fit h1).2
  by_cases c : wd - 1 = 0
  · rw [c, bits_0]; omega
  · rw [bits_log _ c]
    have := (Nat.log2_lt c).mpr (show wd - 1 < 2 ^ T by omega)
    omega
abbrev s__law_any_balanced : Stmt := (top 43)
theorem sc__law_any_balanced : FnScope ["feed", "most", "width", "low"] ["feed", "most"] (defScope s__law_any_balanced) := ⟨rfl, rfl, rfl, by decide +kernel, rfl, by decide +kernel, by decide +kernel⟩
theorem b_law_any_balanced (T : Txt K mg) (C__law_draw : Cal P w K mg base 1 "_law_draw" spDraw) (C__law_tallest : Cal P w K mg base 2 "_law_tallest" spLTallest)
    (C__law_balanced : Cal P w K mg base 23 "_law_balanced" (spBalanced 20)) : Body P w K mg base (23) ["feed", "most", "width", "low"] "_law_any_balanced" (defScope s__law_any_balanced) (defBody s__law_any_balanced) spAnyBal := by
  intro f cdv A outer s H vs Q E hr h
  obtain ⟨fd, m, most, xs, rfl, hf, hF, h1, h2, hm, q⟩ := h
  have hu := hu_of hr
  have tk : Takes (cxOf (L2.CX P w) P w K mg base ["feed", "most", "width", "low"] "_law_any_balanced" (defScope s__law_any_balanced) f cdv A outer s H E) (fun cls d _ H => E cls d H) := takes_of rfl rfl rfl rfl
  refine ⟨_, (pss_cons (ps_set (i := 2) sc__law_any_balanced.nd rfl (Or.inl rfl) (pe_op op_add pe_int (pe_cal C__law_draw hr (by omega) tk (pa_cons (pv 0) (pa_cons (pv 1) pa_nil)))))
    (pss_cons (ps_set (i := 3) sc__law_any_balanced.nd rfl (Or.inl rfl) (pe_bits (pe_op op_sub (pv 2) pe_int)))
    (pss_one (ps_ret (pe_cal C__law_balanced hr (by omega) tk (pa_cons (pv 0) (pa_cons (pv 2) (pa_cons (pe_op op_add (pv 3) (pe_cal C__law_draw hr (by omega) tk (pa_cons (pv 0) (pa_cons (pe_op op_add (pe_op op_sub (pe_cal C__law_tallest hr (by omega) tk (pa_cons (pv 2) pa_nil)) (pv 3)) pe_int) pa_nil)))) pa_nil)))))))), ?_⟩
  refine i_start [some _, some _, none, none] (by rfl) ?_
  try dsimp only [cxOf]
  walk_at "rd"
  refine ⟨fd, most, m, xs, rfl, hf, hF, by omega, by omega, by omega, fun g ys g0 g1 hy => ?_⟩
  obtain ⟨wd, ewd⟩ : ∃ wd : Nat, 1 + g = (wd : Int) := ⟨(1 + g).toNat, by omega⟩
  walk_at "rd"
  rw [ewd, bits_is wd (by omega)]
  walk_at "rd"
  refine ⟨wd, rfl, by omega, fun T2 H1 s1 tl => ?_⟩
  have hT := tl.le (by omega)
  have lo := bits_le_tl tl (by omega)
  walk_at "rd"
  refine ⟨fd, _, m + 1, ys, rfl, s1 _ _ upd_same, hy, by omega, by omega, by omega, fun g' zs g0' g1' hz => ?_⟩
  walk_at "rd"
  obtain ⟨h, eh⟩ : ∃ h : Nat, ((bits (wd - 1) : Nat) : Int) + g' = (h : Int) := ⟨(((bits (wd - 1) : Nat) : Int) + g').toNat, by omega⟩
  rw [eh]
  refine ⟨fd, wd, h, m + 2, zs, rfl, upd_same, hz, fit_between tl (by omega) (by omega) (by omega), by omega, by omega, by omega, by omega, fun v sh us H' sx e1 e2 e3 e4 e5 e6 => ?_⟩
  refine q v sh us H' ?_ e1 (e2.mono (by omega)) e3 e4 (by omega) (by omega)
  exact SameX.trans (SameX.trans (SameX.trans SameX.upd (SameX.of s1)) SameX.upd) sx
theorem c_law_any_balanced (T : Txt K mg) : Cal P w K mg base 24 "_law_any_balanced" spAnyBal :=
  T.d__law_any_balanced.cal sc__law_any_balanced (fun vs H Q E h => by obtain ⟨_, _, _, _, rfl, _⟩ := h; rfl) (b_law_any_balanced T (c_draw T) (c_ltallest T) (c_balanced T 20))
end

end K62

set_option maxHeartbeats 4000000
namespace K62
open PySem PySem.Spec PyProof.Rows L2 KB KM
section
variable {P : Program} {w : World} {K : PySem.W.Frag} {mg : Str → Option Value} {base : Heap}
/-! ### _law_grown -/
def spGrown : Sp := fun vs H Q _ => ∃ (fd : Addr) (m many : Nat) (sp : Int) (xs : List V), vs = [.ref fd, .int (many : Nat), .int sp] ∧ H fd = some (.lst xs) ∧ FdL m xs ∧ 1 ≤ many ∧ many ≤ 12 ∧ sp < many ∧ m ≤ 900000 ∧
  ∀ v g zs H', SameX fd H H' → H' fd = some (.lst zs) → FdL (m + 20) zs → GShp H' v g → gl g = many → Q v H'
abbrev s__law_grown : Stmt := (top 44)
theorem sc__law_grown : FnScope ["feed", "many", "spoil", "pool", "turn", "at"] ["feed", "many", "spoil"] (defScope s__law_grown) := ⟨rfl, rfl, rfl, by decide +kernel, rfl, by decide +kernel, by decide +kernel⟩
theorem b_law_grown (T : Txt K mg) (C__law_one : Cal P w K mg base 2 "_law_one" spOne) (C__law_draw : Cal P w K mg base 1 "_law_draw" spDraw) : Body P w K mg base (2) ["feed", "many", "spoil", "pool", "turn", "at"] "_law_grown" (defScope s__law_grown) (defBody s__law_grown) spGrown := by
  intro f cdv A outer s H vs Q E hr h
  obtain ⟨fd, m, many, sp, xs, rfl, hf, hF, h1, h12, hsp, hm, q⟩ := h
  have line : (200 : Nat) ≤ sizeLine := by decide
  have hu := hu_of hr
  have tk : Takes (cxOf (L2.CX P w) P w K mg base ["feed", "many", "spoil", "pool", "turn", "at"] "_law_grown" (defScope s__law_grown) f cdv A outer s H E) (fun cls d _ H => E cls d H) := takes_of rfl rfl rfl rfl
  refine ⟨_, (pss_cons (ps_set (i := 3) sc__law_grown.nd rfl (Or.inl rfl) (pe_op op_rep (pe_lst (pa_cons pe_non pa_nil)) (pv 1)))
    (Evl.pss_cut (ps_if (pt_cmpR op_ge (pv 2) pe_int (nomark _)) (pss_one (ps_asg (pe_cal C__law_one hr (by omega) tk (pa_cons (pv 0) (pa_cons (pe_lst (pa_cons pe_bl (pa_cons pe_bl (pa_cons pe_int (pa_cons pe_int (pa_cons pe_str (pa_cons pe_str (pa_cons (pe_tup pa_nil) (pa_cons (pe_lst pa_nil) (pa_cons pe_dnewK (pa_cons (pe_tup (pa_cons pe_non pa_nil)) (pa_cons (pe_lst (pa_cons pe_non (pa_cons pe_non pa_nil))) (pa_cons (pe_tup (pa_cons pe_non (pa_cons pe_non (pa_cons pe_non pa_nil)))) pa_nil))))))))))))) pa_nil))) (pg_sub (pv 3) (pv 2) set_list))) pss_nil)
    (pss_cons (ps_for (passes_of rfl) rfl (pi_range1 rfl T.g_range (pa_cons (pe_op op_sub (pv 1) pe_int) pa_nil)) (pg_name (i := 4) sc__law_grown.nd rfl (Or.inl rfl)) (pss_cons (ps_set (i := 5) sc__law_grown.nd rfl (Or.inl rfl) (pe_cal C__law_draw hr (by omega) tk (pa_cons (pv 0) (pa_cons (pe_op op_sub (pe_callB call_lenK (by rfl) T.g_len (by decide +kernel) (pa_cons (pv 3) pa_nil)) pe_int) pa_nil))))
    (pss_one (ps_asg (pe_lst (pa_cons (pe_tup (pa_cons (pe_ix ix_list (pv 3) (pv 5) (fun _ _ => rfl)) (pa_cons (pe_ix ix_list (pv 3) (pe_op op_add (pv 5) pe_int) (fun _ _ => rfl)) pa_nil))) pa_nil)) (pg_slc (pv 3) (pv 5) (pe_op op_add (pv 5) pe_int))))))
    (pss_one (ps_ret (pe_ix ix_list (pv 3) pe_int (fun _ _ => rfl))))))), ?_⟩
  refine i_start [some _, some _, some _, none, none, none] (by rfl) ?_
  try dsimp only [cxOf]
  walk_at "rd"
  refine ⟨by show 1 ≤ sizeLine; decide, fun l0 hl0 => ?_⟩
  generalize eH1 : L2.upd H l0 _ = H1
  obtain ⟨s1, e1⟩ := laid eH1 hl0
  walk_at "rd"
  refine ⟨l0, _, _, rfl, rfl, e1, by omega, by omega, by rw [List.length_singleton, Int.toNat_natCast]; omega, fun pl hpl => ?_⟩
  rw [Int.toNat_natCast, rep_flat]
  generalize eH2 : L2.upd H1 pl _ = H2
  obtain ⟨s2, e2⟩ := laid eH2 hpl
  have S2 := s1.trans s2
  have npf : pl ≠ fd := fun z => by rw [z, s1 _ _ hf] at hpl; cases hpl
  have npH : H pl = none := s1.free hpl
  walk_at "rd"
  refine i_cut (fun s3 h3 => ∃ b3 b4 vs zs, s3 = [some (.ref fd), some (.int many), some (.int sp), some (.ref pl), b3, b4] ∧ SameX fd H h3 ∧ h3 fd = some (.lst zs) ∧ FdL (m + 1) zs ∧ h3 pl = some (.lst vs) ∧ vs.length = many ∧ Pl h3 vs many) ?_ ?_
  · walk_at "rd"
    refine i_dec (fun c => ?_) (fun c => ?_)
    · obtain ⟨sn, rfl⟩ : ∃ sn : Nat, sp = (sn : Int) := ⟨sp.toNat, by omega⟩
      walk_at "rd"
      refine ⟨Nat.zero_le _, fun t1 ht1 => ?_⟩
      generalize eH3 : L2.upd H2 t1 _ = H3
      obtain ⟨s3, e3⟩ := laid eH3 ht1
      walk_at "rd"
      refine ⟨Nat.zero_le _, fun t2 ht2 => ?_⟩
      generalize eH4 : L2.upd H3 t2 _ = H4
      obtain ⟨s4, e4⟩ := laid eH4 ht2
      walk_at "rd"
      refine fun t3 ht3 => ?_
      generalize eH5 : L2.upd H4 t3 _ = H5
      obtain ⟨s5, e5⟩ := laid eH5 ht3
      walk_at "rd"
      refine ⟨by show 1 ≤ sizeLine; decide, fun t4 ht4 => ?_⟩
      generalize eH6 : L2.upd H5 t4 _ = H6
      obtain ⟨s6, e6⟩ := laid eH6 ht4
      walk_at "rd"
      refine ⟨by show 2 ≤ sizeLine; decide, fun t5 ht5 => ?_⟩
      generalize eH7 : L2.upd H6 t5 _ = H7
      obtain ⟨s7, e7⟩ := laid eH7 ht5
      walk_at "rd"
      refine ⟨by show 3 ≤ sizeLine; decide, fun t6 ht6 => ?_⟩
      generalize eH8 : L2.upd H7 t6 _ = H8
      obtain ⟨s8, e8⟩ := laid eH8 ht6
      walk_at "rd"
      refine ⟨by show 12 ≤ sizeLine; decide, fun l9 hl9 => ?_⟩
      generalize eH9 : L2.upd H8 l9 _ = H9
      obtain ⟨s9, e9⟩ := laid eH9 hl9
      have S9 : Same H2 H9 := (((((s3.trans s4).trans s5).trans s6).trans s7).trans s8).trans s9
      have hf9 : H9 fd = some (.lst xs) := S9 _ _ (S2 _ _ hf)
      have n9 : l9 ≠ fd := fun z => by
        have : H8 fd = some (.lst xs) := (((((s3.trans s4).trans s5).trans s6).trans s7).trans s8) _ _ (S2 _ _ hf)
        rw [z, this] at hl9; cases hl9
      walk_at "rd"
      refine ⟨fd, l9, m, xs, _, rfl, hf9, hF, by omega, e9, n9, by simp, by show 12 ≤ 100000; decide, fun v zs hv hz => ?_⟩
      generalize eH10 : L2.upd H9 fd _ = H10
      have x10 : SameX fd H9 H10 := by rw [← eH10]; exact SameX.upd
      have f10 : H10 fd = some (.lst zs) := by rw [← eH10]; exact upd_same
      have k10 : Keeps H9 H10 := Keeps.ofX x10 hf9 f10
      have bad : GShp H10 v .bad := by
        refine GShp.keep ?_ k10
        simp only [List.mem_cons, List.not_mem_nil, or_false] at hv
        rcases hv with rfl | rfl | rfl | rfl | rfl | rfl | rfl | rfl | rfl | rfl | rfl | rfl
        · exact bad_ty (n := "bool") (by intro z; cases z) rfl (by decide) (by decide)
        · exact bad_ty (n := "bool") (by intro z; cases z) rfl (by decide) (by decide)
        · exact bad_ty (n := "int") (by intro z; cases z) rfl (by decide) (by decide)
        · exact bad_ty (n := "int") (by intro z; cases z) rfl (by decide) (by decide)
        · exact bad_ty (n := "str") (by intro z; cases z) rfl (by decide) (by decide)
        · exact bad_ty (n := "str") (by intro z; cases z) rfl (by decide) (by decide)
        · exact bad_tup ((((((s4.trans s5).trans s6).trans s7).trans s8).trans s9) _ _ e3) (by decide)
        · exact bad_ty (n := "list") (by intro z; cases z) (tyN_lst (((((s5.trans s6).trans s7).trans s8).trans s9) _ _ e4)) (by decide) (by decide)
        · exact bad_ty (n := "dict") (by intro z; cases z) (by simp only [tyN, ((((s6.trans s7).trans s8).trans s9) _ _ e5)]) (by decide) (by decide)
        · exact bad_tup (((s7.trans s8).trans s9) _ _ e6) (by decide)
        · exact bad_ty (n := "list") (by intro z; cases z) (tyN_lst ((s8.trans s9) _ _ e7)) (by decide) (by decide)
        · exact bad_tup (s9 _ _ e8) (by decide)
      have p10 : H10 pl = some (.lst (List.replicate many .non)) := x10 _ _ npf (S9 _ _ e2)
      walk_at "rd"
      refine i_setL p10 (j := sn) ?_ ?_
      · rw [List.length_replicate]
        exact Evl.ixN_nat (by omega)
      · walk_at "rd"
        have kk : Keeps H10 (L2.upd H10 pl (.lst ((List.replicate many V.non).set sn v))) := Keeps.updL p10
        refine ⟨_, _, _, zs, rfl, fun b o nb e => ?_, (upd_ne npf.symm).trans f10, hz, upd_same, by rw [List.length_set, List.length_replicate], (Pl.set bad many sn).keep kk⟩
        have nb2 : b ≠ pl := fun z => by rw [z, npH] at e; cases e
        rw [upd_ne nb2]
        exact x10 _ _ nb (S9 _ _ (S2 _ _ e))
    · walk_at "rd"
      exact ⟨_, _, _, xs, rfl, SameX.of S2, S2 _ _ hf, hF.mono (by omega), e2, List.length_replicate, Pl.rep many⟩
  · rintro s3 h3 ⟨b3, b4, vs, zs, rfl, sx, hf3, hF3, hp3, hlen, hpl3⟩
    clear S2
    walk_at "rd"
    refine ⟨_, rfl, by omega, by omega, ?_⟩
    refine for_range (lo := 0) (n := ((many : Int) - 1).toNat) (fun i s h => ∃ b4 b5 vs zs, s = [some (.ref fd), some (.int many), some (.int sp), some (.ref pl), b4, b5] ∧ SameX fd H h ∧ h fd = some (.lst zs) ∧ FdL (m + 1 + i) zs ∧ h pl = some (.lst vs) ∧ vs.length + i = many ∧ Pl h vs many)
      ⟨_, _, vs, zs, rfl, sx, hf3, hF3, hp3, by omega, hpl3⟩ ?_ ?_
    · rintro i s h hi ⟨b4, b5, vs, zs, rfl, sx, hf4, hF4, hp4, hlen, hpl4⟩
      have hi2 : i + 1 < many := by omega
      walk_at "rd"
      refine i_lenL (SqL.of hp4) ?_
      walk_at "rd"
      refine ⟨fd, _, m + 1 + i, zs, rfl, hf4, hF4, by omega, by omega, by omega, fun g ys g0 g1 hy => ?_⟩
      obtain ⟨a, rfl⟩ : ∃ a : Nat, g = (a : Int) := ⟨g.toNat, by omega⟩
      generalize eH5 : L2.upd h fd _ = H5
      have x5 : SameX fd h H5 := by rw [← eH5]; exact SameX.upd
      have f5 : H5 fd = some (.lst ys) := by rw [← eH5]; exact upd_same
      have k5 : Keeps h H5 := Keeps.ofX x5 hf4 f5
      have p5 : H5 pl = some (.lst vs) := x5 _ _ npf hp4
      obtain ⟨v1, v2, g1', g2', ev1, ev2, k1, k2, k3⟩ := Pl.splice a vs many (hpl4.keep k5) (by omega)
      walk_at "rd"
      refine i_ixL (SqL.of p5) (atI_nat ev1) ?_
      walk_at "rd"
      rw [show ((a : Nat) : Int) + 1 = ((a + 1 : Nat) : Int) by omega]
      refine i_ixL (SqL.of p5) (atI_nat ev2) ?_
      walk_at "rd"
      refine ⟨by show 2 ≤ sizeLine; decide, fun t6 ht6 => ?_⟩
      generalize eH6 : L2.upd H5 t6 _ = H6
      obtain ⟨s6, e6⟩ := laid eH6 ht6
      walk_at "rd"
      refine ⟨by show 1 ≤ sizeLine; decide, fun l7 hl7 => ?_⟩
      generalize eH7 : L2.upd H6 l7 _ = H7
      obtain ⟨s7, e7⟩ := laid eH7 hl7
      have S7 : Same H5 H7 := s6.trans s7
      have p7 : H7 pl = some (.lst vs) := S7 _ _ p5
      have n7 : pl ≠ l7 := fun z => by rw [← z, s6 _ _ p5] at hl7; cases hl7
      walk_at "rd"
      refine ⟨pl, l7, vs, _, a, a + 2, rfl, rfl, rfl, by rw [Int.natCast_add]; rfl, p7, e7, n7, by omega, by omega, by rw [List.length_singleton]; omega, ?_⟩
      walk_at "rd"
      have kp : Keeps H7 (L2.upd H7 pl (.lst (vs.take a ++ [.ref t6] ++ vs.drop (a + 2)))) := Keeps.updL p7
      refine ⟨_, _, _, ys, rfl, fun b o nb e => ?_, (upd_ne npf.symm).trans (S7 _ _ f5), hy, upd_same, ?_, k3 _ _ ((Keeps.of S7).trans kp) (.two (kp.1 _ _ (s7 _ _ e6)) (k1.keep ((Keeps.of S7).trans kp)) (k2.keep ((Keeps.of S7).trans kp)))⟩
      · have nb2 : b ≠ pl := fun z => by rw [z, npH] at e; cases e
        rw [upd_ne nb2]
        exact S7 _ _ (x5 _ _ nb (sx _ _ nb e))
      · rw [List.length_append, List.length_append, List.length_take, List.length_drop, List.length_singleton]
        omega
    · rintro s h ⟨b4, b5, vs, zs, rfl, sx, hf4, hF4, hp4, hlen, hpl4⟩
      obtain ⟨v, g, rfl, hg, hgl⟩ := hpl4.one (by omega)
      walk_at "rd"
      refine i_ixL (SqL.of hp4) rfl ?_
      walk_at "rd"
      exact q v g zs h sx hf4 (hF4.mono (by omega)) hg hgl
theorem c_law_grown (T : Txt K mg) : Cal P w K mg base 3 "_law_grown" spGrown := T.d__law_grown.cal sc__law_grown (fun vs H Q E h => by obtain ⟨_, _, _, _, _, rfl, _⟩ := h; rfl) (b_law_grown T (c_one T) (c_draw T))
/-! ### _law_shape -/
def spLShape : Sp := fun vs H Q _ => ∃ (fd : Addr) (m most : Nat) (xs : List V), vs = [.ref fd, .int (most : Nat)] ∧ H fd = some (.lst xs) ∧ FdL m xs ∧ 40 ≤ most ∧ most ≤ 1500 ∧ m ≤ 800000 ∧
  ∀ v g zs H', SameX fd H H' → H' fd = some (.lst zs) → FdL (m + 3100) zs → GShp H' v g → gh g ≤ 40 → gl g ≤ most → Q v H'
abbrev s__law_shape : Stmt := (top 45)
theorem sc__law_shape : FnScope ["feed", "most", "way", "many"] ["feed", "most"] (defScope s__law_shape) := ⟨rfl, rfl, rfl, by decide +kernel, rfl, by decide +kernel, by decide +kernel⟩
theorem b_law_shape (T : Txt K mg) (C__law_draw : Cal P w K mg base 1 "_law_draw" spDraw) (C__law_any_balanced : Cal P w K mg base 24 "_law_any_balanced" spAnyBal) (C__law_grown : Cal P w K mg base 3 "_law_grown" spGrown) : Body P w K mg base (24) ["feed", "most", "way", "many"] "_law_shape" (defScope s__law_shape) (defBody s__law_shape) spLShape := by
  intro f cdv A outer s H vs Q E hr h
  obtain ⟨fd, m, most, xs, rfl, hf, hF, h1, h2, hm, q⟩ := h
  have hu := hu_of hr
  have tk : Takes (cxOf (L2.CX P w) P w K mg base ["feed", "most", "way", "many"] "_law_shape" (defScope s__law_shape) f cdv A outer s H E) (fun cls d _ H => E cls d H) := takes_of rfl rfl rfl rfl
  refine ⟨_, (pss_cons (ps_set (i := 2) sc__law_shape.nd rfl (Or.inl rfl) (pe_cal C__law_draw hr (by omega) tk (pa_cons (pv 0) (pa_cons pe_int pa_nil))))
    (pss_cons (ps_if (pt_cmpR op_lt (pv 2) pe_int (nomark _)) (pss_one (ps_ret (pe_cal C__law_any_balanced hr (by omega) tk (pa_cons (pv 0) (pa_cons (pv 1) pa_nil))))) pss_nil)
    (pss_cons (ps_set (i := 3) sc__law_shape.nd rfl (Or.inl rfl) (pe_op op_add pe_int (pe_cal C__law_draw hr (by omega) tk (pa_cons (pv 0) (pa_cons pe_int pa_nil)))))
    (pss_one (ps_ret (pe_cal C__law_grown hr (by omega) tk (pa_cons (pv 0) (pa_cons (pv 3) (pa_cons (pe_ifExp (pt_cmpR op_eq (pv 2) pe_int (nomark _)) (pe_cal C__law_draw hr (by omega) tk (pa_cons (pv 0) (pa_cons (pv 3) pa_nil))) (pe_un un_neg pe_int)) pa_nil))))))))), ?_⟩
  refine i_start [some _, some _, none, none] (by rfl) ?_
  try dsimp only [cxOf]
  walk_at "rd"
  refine ⟨fd, 9, m, xs, rfl, hf, hF, by decide, by decide, by omega, fun g ys g0 g1 hy => ?_⟩
  walk_at "rd"
  refine i_dec (fun c => ?_) (fun c => ?_)
  · walk_at "rd"
    refine ⟨fd, m + 1, most, ys, rfl, upd_same, hy, by omega, h2, by omega, fun v sh zs H' sx e1 hz sp bl hw hh => ?_⟩
    exact q v sh.g zs H' (SameX.trans SameX.upd sx) e1 (hz.mono (by omega)) sp.g (by rw [hei_g]; exact hh) (by rw [wid_g]; exact hw)
  · walk_at "rd"
    refine ⟨fd, 12, m + 1, ys, rfl, upd_same, hy, by decide, by decide, by omega, fun g2 zs h0 h3 hz => ?_⟩
    rw [upd_upd]
    obtain ⟨many, em⟩ : ∃ many : Nat, 1 + g2 = (many : Int) := ⟨(1 + g2).toNat, by omega⟩
    walk_at "rd"
    rw [em]
    have fin : ∀ (sp : Int) (us : List V), sp < many → FdL (m + 3) us → spGrown [.ref fd, .int (many : Nat), .int sp] (L2.upd H fd (.lst us)) Q E0 := by
      intro sp us hsp hu3
      refine ⟨fd, m + 3, many, sp, us, rfl, upd_same, hu3, by omega, by omega, hsp, by omega, fun v g zs H' sx e1 hz hg hgl => ?_⟩
      have := gh_lt g
      exact q v g zs H' (SameX.trans SameX.upd sx) e1 (hz.mono (by omega)) hg (by omega) (by omega)
    refine i_dec (fun c6 => ?_) (fun c6 => ?_)
    · walk_at "rd"
      refine ⟨fd, _, m + 2, zs, rfl, upd_same, hz, by omega, by omega, by omega, fun g3 us h4 h5 hu3 => ?_⟩
      rw [upd_upd]
      walk_at "rd"
      exact fin g3 us h5 hu3
    · walk_at "rd"
      exact fin _ zs (by omega) (hz.mono (by omega))
theorem c_law_shape (T : Txt K mg) : Cal P w K mg base 25 "_law_shape" spLShape := T.d__law_shape.cal sc__law_shape (fun vs H Q E h => by obtain ⟨_, _, _, _, rfl, _⟩ := h; rfl) (b_law_shape T (c_draw T) (c_law_any_balanced T) (c_law_grown T))
end

end K62

set_option maxHeartbeats 4000000
namespace K62
open PySem PySem.Spec PyProof.Rows L2 KB KM
section
variable {P : Program} {w : World} {K : PySem.W.Frag} {mg : Str → Option Value} {base : Heap}
/-! ### _law_even -/
def KnOk (H : Hp) (kvs : List (Key × V)) : Prop := (∃ v, valV kvs (.inl 1) = some v) ∧ ∀ k v, valV kvs (.inl k) = some v → ∃ n : Nat, k = n ∧ 1 ≤ n ∧ Shp H v (evS n)
theorem KnOk.mono {H H' : Hp} {kvs : List (Key × V)} (h : KnOk H kvs) (t : Tups H H') : KnOk H' kvs := ⟨h.1, fun k v e => by
  obtain ⟨n, a, b, c⟩ := h.2 k v e
  exact ⟨n, a, b, c.mono t⟩⟩
theorem KnOk.put {H : Hp} {kvs : List (Key × V)} {n : Nat} {v : V} (h : KnOk H kvs) (hn : 1 ≤ n) (hv : Shp H v (evS n)) : KnOk H (putK kvs (.inl (n : Int)) v) := by
  refine ⟨?_, fun k u e => ?_⟩
  · obtain ⟨u, hu⟩ := h.1
    rw [valV_put]
    split
    · exact ⟨_, rfl⟩
    · exact ⟨u, hu⟩
  · rw [valV_put] at e
    split at e
    · rename_i c
      cases e
      exact ⟨n, Sum.inl.inj c, hn, hv⟩
    · exact h.2 k u e
theorem SameX.tupsD {f : Addr} {H H' : Hp} {xs : List (Key × V)} (a : SameX f H H') (h : H f = some (.dK xs)) : Tups H H' := fun b ys e => a b _ (ne_of e h (by intro z; cases z)) e
def spEven (n : Nat) : Sp := fun vs H Q _ => ∃ (wd : Nat) (d : Addr) (kvs : List (Key × V)), vs = [.int wd, .ref d] ∧ 1 ≤ wd ∧ wd ≤ 100000 ∧ hei (evS wd) ≤ n ∧ H d = some (.dK kvs) ∧ KnOk H kvs ∧ kvs.length + 2 ^ (n + 1) ≤ 10000000 ∧
  ∀ v H' kvs', SameX d H H' → H' d = some (.dK kvs') → KnOk H' kvs' → kvs'.length + 1 ≤ kvs.length + 2 ^ (n + 1) → Shp H' v (evS wd) → Q v H'
abbrev s__law_even : Stmt := (top 49)
theorem sc__law_even : FnScope ["width", "known"] ["width", "known"] (defScope s__law_even) := ⟨rfl, rfl, rfl, by decide +kernel, rfl, by decide +kernel, by decide +kernel⟩
theorem b_even (T : Txt K mg) (n : Nat) (C__law_even : Cal P w K mg base (n + 0) "_law_even" (spPre spEven n)) : Body P w K mg base (n + 0) ["width", "known"] "_law_even" (defScope s__law_even) (defBody s__law_even) (spEven n) := by
  intro f cdv A outer s H vs Q E hr h
  obtain ⟨wd, d, kvs, rfl, h1, h2, hn, hd, ok, hl, q⟩ := h
  have hu := hu_of hr
  have tk : Takes (cxOf (L2.CX P w) P w K mg base ["width", "known"] "_law_even" (defScope s__law_even) f cdv A outer s H E) (fun cls d _ H => E cls d H) := takes_of rfl rfl rfl rfl
  refine ⟨_, (pss_cons (ps_if (pt_cmp (pc_dnotin hu (pv 0) (pv 1))) (pss_one (ps_dput hu (pv 1) (pv 0) (pe_tup (pa_cons (pe_cal C__law_even hr (by omega) tk (pa_cons (pe_op op_fdiv (pe_op op_add (pv 0) pe_int) pe_int) (pa_cons (pv 1) pa_nil))) (pa_cons (pe_cal C__law_even hr (by omega) tk (pa_cons (pe_op op_fdiv (pv 0) pe_int) (pa_cons (pv 1) pa_nil))) pa_nil))) rfl)) pss_nil)
    (pss_one (ps_ret (pe_dget hu (pv 1) (pv 0) (fun _ _ => rfl))))), ?_⟩
  refine i_start [some _, some _] (by rfl) ?_
  try dsimp only [cxOf]
  have p2 : 1 ≤ 2 ^ n := Nat.one_le_two_pow
  have p2s : 2 ^ (n + 1) = 2 * 2 ^ n := by rw [Nat.pow_succ]; omega
  have line : sizeLine = 16777216 := sizeLine_eq
  walk_at "rd"
  refine ⟨d, _, rfl, DGet.k (k := Sum.inl (wd : Int)) hd, ?_⟩
  walk_at "rd"
  cases e : valV kvs (.inl (wd : Int)) with
  | some v =>
    refine i_F ?_
    walk_at "rd"
    refine ⟨d, v, rfl, by rw [← e]; exact DGet.k (k := Sum.inl (wd : Int)) hd, ?_⟩
    walk_at "rd"
    obtain ⟨m, em, _, hv⟩ := ok.2 _ _ e
    have em' : m = wd := by omega
    subst em'
    exact q v H kvs (SameX.refl _ _) hd ok (by omega) hv
  | none =>
    refine i_T ?_
    have w2 : ¬ wd ≤ 1 := fun z => by
      obtain ⟨u, hu⟩ := ok.1
      have e1 : wd = 1 := by omega
      subst e1
      rw [show ((1 : Nat) : Int) = 1 from rfl, hu] at e
      cases e
    have ev := evS_2 w2
    rw [ev] at hn
    simp only [hei] at hn
    obtain ⟨n', rfl⟩ : ∃ n', n = n' + 1 := ⟨n - 1, by omega⟩
    walk_at "rd"
    refine i_rI (by show (0 : Int) < 2 ∧ (2 : Int) < 1073741824; decide) ?_
    walk_at "rd"
    have a1 : ((wd : Int) + 1) / 2 = (((wd + 1) / 2 : Nat) : Int) := by omega
    have a2 : ((wd : Int)) / 2 = ((wd / 2 : Nat) : Int) := by omega
    rw [a1]
    refine ⟨(wd + 1) / 2, d, kvs, rfl, by omega, by omega, by omega, hd, ok, by omega, fun v1 H1 k1 sx1 d1 ok1 l1 sp1 => ?_⟩
    walk_at "rd"
    refine i_rI (by show (0 : Int) < 2 ∧ (2 : Int) < 1073741824; decide) ?_
    walk_at "rd"
    rw [a2]
    refine ⟨wd / 2, d, k1, rfl, by omega, by omega, by omega, d1, ok1, by omega, fun v2 H2 k2 sx2 d2 ok2 l2 sp2 => ?_⟩
    walk_at "rd"
    refine ⟨by show 2 ≤ sizeLine; decide, fun t ht => ?_⟩
    generalize eH3 : L2.upd H2 t _ = H3
    obtain ⟨s3, e3⟩ := laid eH3 ht
    walk_at "rd"
    have d3 := s3 _ _ d2
    refine ⟨d, _, rfl, DPut.k (k := Sum.inl (wd : Int)) d3 (by omega), ?_⟩
    walk_at "rd"
    have t12 : Tups H1 H2 := SameX.tupsD sx2 d1
    have t4 : Tups H3 (L2.upd H3 d (.dK (putK k2 (.inl (wd : Int)) (.ref t)))) := SameX.tupsD SameX.upd d3
    have hv : Shp (L2.upd H3 d (.dK (putK k2 (.inl (wd : Int)) (.ref t)))) (.ref t) (evS wd) := by
      rw [ev]
      exact .two (t4 _ _ e3) (((sp1.mono t12).mono (Same.tups s3)).mono t4) ((sp2.mono (Same.tups s3)).mono t4)
    refine ⟨d, .ref t, rfl, ?_, ?_⟩
    · have g := DGet.k (k := Sum.inl (wd : Int)) (upd_same (H := H3) (a := d) (o := .dK (putK k2 (.inl (wd : Int)) (.ref t))))
      rw [valV_put, if_pos rfl] at g
      exact g
    · walk_at "rd"
      have lp := length_putK k2 (Sum.inl (wd : Int)) (V.ref t)
      refine q (.ref t) _ _ (((sx1.trans sx2).trans (SameX.of s3)).trans SameX.upd) upd_same ?_ (by omega) hv
      exact KnOk.put ((ok2.mono (Same.tups s3)).mono t4) h1 hv
theorem c_even (T : Txt K mg) (n : Nat) : Cal P w K mg base (n + 0 + 1) "_law_even" (spEven n) := T.d__law_even.rec_ sc__law_even 0 (fun n vs H Q E h => by obtain ⟨_, _, _, rfl, _⟩ := h; rfl) (b_even T) n
theorem kn_one (H : Hp) : KnOk H [(.inl 1, .non)] := by
  refine ⟨⟨.non, rfl⟩, fun k v e => ?_⟩
  unfold valV at e
  rw [List.find?_cons] at e
  by_cases c : (Sum.inl 1 : Key) = Sum.inl k
  · rw [decide_eq_true c] at e
    cases e
    cases c
    exact ⟨1, rfl, Nat.le_refl 1, by rw [evS_1 (Nat.le_refl 1)]; exact .one⟩
  · rw [decide_eq_false c] at e
    cases e
end

end K62

set_option maxHeartbeats 4000000
namespace K62
open PySem PySem.Spec PyProof.Rows L2 KB KM
section
variable {P : Program} {w : World} {K : PySem.W.Frag} {mg : Str → Option Value} {base : Heap}
/-! ### need_balanced -/
/-- what is asked of a thing where a balanced shape is wanted -/
def Wants (K : PySem.W.Frag) (H : Hp) (g : GS) (E : XK) : Prop := (wIn 40 g = 0 → E (.ref (He.ga K "BadShape")) none H) ∧ (∀ s, g = s.g → hei s ≤ 40 → wid s ≤ 20000 → ¬ bal s → E (.ref (He.ga K "BadBalance")) none H)
def spNeedBal (K : PySem.W.Frag) : Sp := fun vs H Q E => ∃ v g, vs = [v] ∧ GShp H v g ∧ Wants K H g E ∧ ∀ s, g = s.g → Shp H v s → hei s ≤ 40 → wid s ≤ 20000 → bal s → Q (.int (wid s : Nat)) H
abbrev s_need_balanced : Stmt := (top 26)
theorem sc_need_balanced : FnScope ["shape", "width"] ["shape"] (defScope s_need_balanced) := ⟨rfl, rfl, rfl, by decide +kernel, rfl, by decide +kernel, by decide +kernel⟩
theorem b_need_balanced (T : Txt K mg) (C_need_shape : Cal P w K mg base 42 "need_shape" (spJudge K fun s => .int (wid s : Nat))) (C_balanced_height : Cal P w K mg base 41 "balanced_height" (spBalH 40)) :
    Body P w K mg base (42) ["shape", "width"] "need_balanced" (defScope s_need_balanced) (defBody s_need_balanced) (spNeedBal K) := by
  intro f cdv A outer s H vs Q E hr h
  obtain ⟨v, g, rfl, hg, ⟨q1, q2⟩, q3⟩ := h
  have hu := hu_of hr
  have tk : Takes (cxOf (L2.CX P w) P w K mg base ["shape", "width"] "need_balanced" (defScope s_need_balanced) f cdv A outer s H E) (fun cls d _ H => E cls d H) := takes_of rfl rfl rfl rfl
  refine ⟨_, (pss_cons (ps_set (i := 1) sc_need_balanced.nd rfl (Or.inl rfl) (pe_cal C_need_shape hr (by omega) tk (pa_cons (pv 0) pa_nil)))
    (pss_cons (ps_if (pt_cmpR op_lt (pe_cal C_balanced_height hr (by omega) tk (pa_cons (pv 0) pa_nil)) pe_int (nomark _)) (pss_one (ps_raiseX T.x_BadBalance tk)) pss_nil)
    (pss_one (ps_ret (pv 1))))), ?_⟩
  refine i_start [some _, none] (by rfl) ?_
  try dsimp only [cxOf]
  walk_at "rd"
  refine ⟨v, g, rfl, hg, q1, fun sh e hs h1 h2 => ?_⟩
  walk_at "rd"
  refine ⟨v, sh, rfl, hs, h1, ?_⟩
  walk_at "rd"
  refine i_dec (fun c => ?_) (fun c => ?_)
  · walk_at "rd"
    exact q2 sh e h1 h2 fun z => by have := bh_nonneg.mpr z; omega
  · walk_at "rd"
    exact q3 sh e hs h1 h2 (bh_nonneg.mp (by omega))
theorem c_need_balanced (T : Txt K mg) : Cal P w K mg base 43 "need_balanced" (spNeedBal K) :=
  T.d_need_balanced.cal sc_need_balanced (fun vs H Q E h => by obtain ⟨_, _, rfl, _⟩ := h; rfl) (b_need_balanced T (c_need_shape T) (c_balanced_height T 40))
/-! ### cut_shape -/
def spCutShape (K : PySem.W.Frag) : Sp := fun vs H Q E => ∃ v g x n, vs = [v, x] ∧ GShp H v g ∧ Kn H x n ∧ Wants K H g E ∧
  (∀ s, g = s.g → hei s ≤ 40 → wid s ≤ 20000 → bal s → (∀ i, x = .int i → ¬ (0 ≤ i ∧ i ≤ (wid s : Nat))) → E (.ref (He.ga K "BadCount")) none H) ∧
  ∀ (s : Sh) (k : Nat), g = s.g → hei s ≤ 40 → wid s ≤ 20000 → bal s → x = .int k → k ≤ wid s → ∀ p u t H', Same H H' → H' p = some (.tup [u, t]) → OShp H' u (ct s k).1 → OShp H' t (ct s k).2 → Q (.ref p) H'
abbrev s_cut_shape : Stmt := (top 33)
theorem sc_cut_shape : FnScope ["shape", "many", "first", "last"] ["shape", "many"] (defScope s_cut_shape) := ⟨rfl, rfl, rfl, by decide +kernel, rfl, by decide +kernel, by decide +kernel⟩
theorem b_cut_shape (T : Txt K mg) (C_need_balanced : Cal P w K mg base 43 "need_balanced" (spNeedBal K)) (C_need_count : Cal P w K mg base 2 "need_count" (spNeedCount K)) (C_stem_of : Cal P w K mg base 43 "stem_of" (spStemOf K 40))
    (C_row_cut : Cal P w K mg base 146 "row_cut" (spRowCut K 40)) (C_shape_of : Cal P w K mg base 42 "shape_of" (spShapeOf K 41)) : Body P w K mg base (146) ["shape", "many", "first", "last"] "cut_shape" (defScope s_cut_shape) (defBody s_cut_shape) (spCutShape K) := by
  intro f cdv A outer s H vs Q E hr h
  obtain ⟨v, g, x, n, rfl, hg, hk, hw, q1, q2⟩ := h
  have hu := hu_of hr
  have tk : Takes (cxOf (L2.CX P w) P w K mg base ["shape", "many", "first", "last"] "cut_shape" (defScope s_cut_shape) f cdv A outer s H E) (fun cls d _ H => E cls d H) := takes_of rfl rfl rfl rfl
  refine ⟨_, (pss_cons (ps_expr (pe_cal C_need_count hr (by omega) tk (pa_cons (pv 1) (pa_cons (pe_cal C_need_balanced hr (by omega) tk (pa_cons (pv 0) pa_nil)) pa_nil))))
    (pss_cons (ps_asg (pe_cal C_row_cut hr (by omega) tk (pa_cons (pe_bare T.b_Builder) (pa_cons (pe_cal C_stem_of hr (by omega) tk (pa_cons (pv 0) pa_nil)) (pa_cons (pv 1) pa_nil)))) (pg_tup (n := 2) (by rfl) (pgs_cons (pg_name (i := 2) sc_cut_shape.nd rfl (Or.inl rfl)) (pgs_cons (pg_name (i := 3) sc_cut_shape.nd rfl (Or.inl rfl)) pgs_nil))))
    (pss_one (ps_ret (pe_tup (pa_cons (pe_cal C_shape_of hr (by omega) tk (pa_cons (pv 2) pa_nil)) (pa_cons (pe_cal C_shape_of hr (by omega) tk (pa_cons (pv 3) pa_nil)) pa_nil))))))), ?_⟩
  refine i_start [some _, some _, none, none] (by rfl) ?_
  try dsimp only [cxOf]
  walk_at "rd"
  refine ⟨v, g, rfl, hg, hw, fun sh e hs h1 h2 bl => ?_⟩
  walk_at "rd"
  refine ⟨x, n, _, rfl, hk, fun i ei h3 h4 => ?_, fun z => q1 sh e h1 h2 bl z⟩
  subst ei
  obtain ⟨k, rfl⟩ : ∃ k : Nat, i = (k : Int) := ⟨i.toNat, by omega⟩
  walk_at "rd"
  intro b dx hb hdx hne
  generalize eH1 : L2.upd (L2.upd H dx _) b _ = H1
  have s1 : Same H H1 := by rw [← eH1]; exact Same.upd (Same.new hdx) hb
  have e1 : H1 b = some (.ins (CB K) dx []) := by rw [← eH1]; exact upd_same
  walk_at "rd"
  refine ⟨v, sh, rfl, hs.mono (Same.tups s1), h1, fun p1 H2 s2 t2 => ?_⟩
  walk_at "rd"
  obtain ⟨o1, o2, o3, o4, o5, o6⟩ := ct_ok sh k bl (by omega)
  refine ⟨b, dx, _, sh, k, rfl, s2 _ _ e1, t2, bl, by omega, h1, by omega, fun p H3 u t s3 e3 hu2 ht2 => ?_⟩
  walk_at "rd"
  refine ⟨p, _, rfl, SqT.of e3, rfl, ?_⟩
  walk_at "rd"
  refine ⟨u, _, rfl, hu2, by omega, fun v4 H4 s4 t4 => ?_⟩
  walk_at "rd"
  refine ⟨t, _, rfl, ht2.mono s4, by omega, fun v5 H5 s5 t5 => ?_⟩
  walk_at "rd"
  refine ⟨by show 2 ≤ sizeLine; decide, fun p6 hp6 => ?_⟩
  generalize eH6 : L2.upd H5 p6 _ = H6
  obtain ⟨s6, e6⟩ := laid eH6 hp6
  walk_at "rd"
  exact q2 sh k e h1 h2 bl rfl (by omega) p6 v4 v5 H6 (((((s1.trans s2).trans s3).trans s4).trans s5).trans s6) e6 (t4.mono (Same.tups (s5.trans s6))) (t5.mono (Same.tups s6))
theorem c_cut_shape (T : Txt K mg) : Cal P w K mg base 147 "cut_shape" (spCutShape K) :=
  T.d_cut_shape.cal sc_cut_shape (fun vs H Q E h => by obtain ⟨_, _, _, _, rfl, _⟩ := h; rfl) (b_cut_shape T (c_need_balanced T) (c_need_count T) (c_stem_of T 40) (c_row_cut T 40) (c_shape_of T 41))
end

end K62

set_option maxHeartbeats 4000000
namespace K62
open PySem PySem.Spec PyProof.Rows L2 KB KM
/-- a shape, or none, as data -/
def opd : Option Sh → PyData
  | none => .tuple []
  | some t => pd t
theorem opd_dp {K : PySem.W.Frag} {H : Hp} {v : V} {o : Option Sh} (h : OShp H v o) : Dp K H v (opd o) := by
  cases o with
  | none =>
    obtain ⟨p, rfl, hp⟩ := h
    exact .tup (SqT.of hp) .nil
  | some t => exact pd_dp h
theorem opd_lay : ∀ o : Option Sh, PyData.canLay0 (opd o) = true
  | none => rfl
  | some t => pd_lay t
theorem opd_depth : ∀ o : Option Sh, PyData.depth (opd o) ≤ ohei o + 1
  | none => by decide
  | some t => by rw [opd, pd_depth, ohei]; omega

end K62

set_option maxHeartbeats 4000000
namespace K62
open PySem PySem.Spec PyProof.Rows L2 KB KM
section
variable {P : Program} {w : World} {K : PySem.W.Frag} {mg : Str → Option Value} {base : Heap}
/-! ### row_with -/
def owt : Option Sh → Nat → Sh
  | none, _ => .one
  | some t, p => wt t p
theorem owt_ok {o : Option Sh} (p : Nat) (b : obal o) : bal (owt o p) ∧ wid (owt o p) = owid o + 1 ∧ hei (owt o p) ≤ ohei o + 1 := by
  cases o with
  | none => exact ⟨trivial, rfl, by simp only [owt, hei, ohei]; omega⟩
  | some t =>
    obtain ⟨x1, x2, x3, x4⟩ := wt_ok t p b
    exact ⟨x1, x2, x4⟩
def spRowWith (K : PySem.W.Frag) (n : Nat) : Sp := fun vs H Q _ => ∃ b dx x o k c, vs = [.ref b, x, .int (k : Nat), c] ∧ H b = some (.ins (CB K) dx []) ∧ OStm (CS K) H x o ∧ Stm (CS K) H c .one ∧ obal o ∧ k ≤ owid o ∧ ohei o ≤ n ∧
  ∀ v H', Same H H' → Stm (CS K) H' v (owt o k) → Q v H'
abbrev s_row_with : Stmt := (top 22)
theorem sc_row_with : FnScope ["builder", "tree", "place", "child", "left", "right"] ["builder", "tree", "place", "child"] (defScope s_row_with) := ⟨rfl, rfl, rfl, by decide +kernel, rfl, by decide +kernel, by decide +kernel⟩
theorem b_row_with (T : Txt K mg) (D_Builder_pair : Met P w K mg base 3 (CB K) "pair" (spPair K)) (D_Builder_sides : Met P w K mg base 1 (CB K) "sides" (spSides K)) (C_even_pair : Cal P w K mg base 4 "even_pair" (spEvenPair K)) (n : Nat)
    (C_row_with : Cal P w K mg base (n + 4) "row_with" (spPre (spRowWith K) n)) : Body P w K mg base (n + 4) ["builder", "tree", "place", "child", "left", "right"] "row_with" (defScope s_row_with) (defBody s_row_with) (spRowWith K n) := by
  intro f cdv A outer s H vs Q E hr h
  obtain ⟨b, dx, x, o, k, c, rfl, hb, hl, hc, bo, hk, hn, q⟩ := h
  have hu := hu_of hr
  have tk : Takes (cxOf (L2.CX P w) P w K mg base ["builder", "tree", "place", "child", "left", "right"] "row_with" (defScope s_row_with) f cdv A outer s H E) (fun cls d _ H => E cls d H) := takes_of rfl rfl rfl rfl
  refine ⟨_, (pss_cons (ps_if (pt_cmpR op_isN1 (pv 1) pe_non (nomark _)) (pss_one (ps_ret (pv 3))) pss_nil)
    (pss_cons (ps_if (pt_cmpR op_eq (pe_fld (pv 1) rfl) pe_int (nomark _)) (pss_one (ps_ret (pe_ifExp (pt_cmpR op_eq (pv 2) pe_int (nomark _)) (pe_met D_Builder_pair hr (by omega) (pv 0) (pa_cons (pv 3) (pa_cons (pv 1) pa_nil))) (pe_met D_Builder_pair hr (by omega) (pv 0) (pa_cons (pv 1) (pa_cons (pv 3) pa_nil)))))) pss_nil)
    (pss_cons (ps_asg (pe_met D_Builder_sides hr (by omega) (pv 0) (pa_cons (pv 1) pa_nil)) (pg_tup (n := 2) (by rfl) (pgs_cons (pg_name (i := 4) sc_row_with.nd rfl (Or.inl rfl)) (pgs_cons (pg_name (i := 5) sc_row_with.nd rfl (Or.inl rfl)) pgs_nil))))
    (pss_cons (ps_if (pt_cmpR op_le (pv 2) (pe_fld (pv 4) rfl) (nomark _)) (pss_one (ps_ret (pe_cal C_even_pair hr (by omega) tk (pa_cons (pv 0) (pa_cons (pe_cal C_row_with hr (by omega) tk (pa_cons (pv 0) (pa_cons (pv 4) (pa_cons (pv 2) (pa_cons (pv 3) pa_nil))))) (pa_cons (pv 5) pa_nil)))))) pss_nil)
    (pss_one (ps_ret (pe_cal C_even_pair hr (by omega) tk (pa_cons (pv 0) (pa_cons (pv 4) (pa_cons (pe_cal C_row_with hr (by omega) tk (pa_cons (pv 0) (pa_cons (pv 5) (pa_cons (pe_op op_sub (pv 2) (pe_fld (pv 4) rfl)) (pa_cons (pv 3) pa_nil))))) pa_nil)))))))))), ?_⟩
  refine i_start [some _, some _, some _, some _, none, none] (by rfl) ?_
  try dsimp only [cxOf]
  walk_at "rd"
  cases o with
  | none =>
    obtain rfl : x = .non := hl
    walk_at "rd"
    exact q c H (Same.refl H) hc
  | some t =>
    obtain ⟨ax, dxx, xl, xr, rfl, hax, hcx⟩ := Stm.at_ hl
    walk_at "rd"
    refine i_fldR hax T.c_Stem T.n_Stem_height st_height ?_
    walk_at "rd"
    simp only [owt, ohei, owid] at q hn hk
    rcases hcx with ⟨rfl, _, _⟩ | ⟨l, r, rfl, hl2, hr2⟩
    · refine i_dec (fun _ => ?_) (fun z => absurd rfl z)
      walk_at "rd"
      refine i_dec (fun _ => ?_) (fun _ => ?_)
      · walk_at "rd"
        refine ⟨b, dx, [], rfl, hb, rfl, ?_⟩
        walk_at "rd"
        exact ⟨_, _, _, .one, .one, rfl, hc, hl, fun p H1 s1 t1 => q _ H1 s1 t1⟩
      · walk_at "rd"
        refine ⟨b, dx, [], rfl, hb, rfl, ?_⟩
        walk_at "rd"
        exact ⟨_, _, _, .one, .one, rfl, hl, hc, fun p H1 s1 t1 => q _ H1 s1 t1⟩
    · refine i_dec (fun z => by simp only [hei] at z; omega) (fun _ => ?_)
      obtain ⟨b1, b2, b3, b4⟩ := bo
      simp only [hei, wid] at hn hk
      obtain ⟨n', rfl⟩ : ∃ n', n = n' + 1 := ⟨n - 1, by omega⟩
      walk_at "rd"
      refine ⟨b, dx, [], rfl, hb, rfl, ?_⟩
      walk_at "rd"
      refine ⟨_, _, l, r, rfl, hl, fun p1 H1 x1 y1 s1 ht1 hl3 hr3 => ?_⟩
      walk_at "rd"
      refine ⟨p1, _, rfl, SqT.of ht1, rfl, ?_⟩
      walk_at "rd"
      obtain ⟨a1, dx1, x1l, x1r, rfl, h1, hc1⟩ := hl3.at_
      refine i_fldR h1 T.c_Stem T.n_Stem_width st_width ?_
      walk_at "rd"
      simp only [wt] at q
      refine i_dec (fun c1 => ?_) (fun c1 => ?_)
      · rw [if_pos (show k ≤ wid l by omega)] at q
        walk_at "rd"
        refine ⟨b, dx, _, some l, k, c, rfl, s1 _ _ hb, hl3, hc.mono s1, b1, by simp only [owid]; omega, by simp only [ohei]; omega, fun v2 H2 s2 t2 => ?_⟩
        walk_at "rd"
        exact ⟨b, dx, _, _, _, r, rfl, s2 _ _ (s1 _ _ hb), t2, hr3.mono s2, fun p3 H3 s3 t3 => q _ H3 ((s1.trans s2).trans s3) t3⟩
      · rw [if_neg (show ¬ k ≤ wid l by omega)] at q
        walk_at "rd"
        refine i_fldR h1 T.c_Stem T.n_Stem_width st_width ?_
        walk_at "rd"
        rw [show ((k : Nat) : Int) - ((wid l : Nat) : Int) = ((k - wid l : Nat) : Int) by omega]
        refine ⟨b, dx, _, some r, k - wid l, c, rfl, s1 _ _ hb, hr3, hc.mono s1, b2, by simp only [owid]; omega, by simp only [ohei]; omega, fun v2 H2 s2 t2 => ?_⟩
        walk_at "rd"
        exact ⟨b, dx, _, _, l, _, rfl, s2 _ _ (s1 _ _ hb), hl3.mono s2, t2, fun p3 H3 s3 t3 => q _ H3 ((s1.trans s2).trans s3) t3⟩
theorem c_row_with (T : Txt K mg) (n : Nat) : Cal P w K mg base (n + 4 + 1) "row_with" (spRowWith K n) := T.d_row_with.rec_ sc_row_with 4 (fun n vs H Q E h => by obtain ⟨_, _, _, _, _, _, rfl, _⟩ := h; rfl) (b_row_with T (m_pair T) (m_sides T) (c_even_pair T)) n
/-! ### row_without -/
def spRowWithout (K : PySem.W.Frag) (n : Nat) : Sp := fun vs H Q _ => ∃ b dx x t k, vs = [.ref b, x, .int (k : Nat)] ∧ H b = some (.ins (CB K) dx []) ∧ Stm (CS K) H x t ∧ k < wid t ∧ hei t ≤ n ∧
  ∀ v H', Same H H' → OStm (CS K) H' v (wo t k) → Q v H'
abbrev s_row_without : Stmt := (top 23)
theorem sc_row_without : FnScope ["builder", "tree", "place", "left", "right", "less"] ["builder", "tree", "place"] (defScope s_row_without) := ⟨rfl, rfl, rfl, by decide +kernel, rfl, by decide +kernel, by decide +kernel⟩
theorem b_row_without (T : Txt K mg) (D_Builder_sides : Met P w K mg base 1 (CB K) "sides" (spSides K)) (C_even_pair : Cal P w K mg base 4 "even_pair" (spEvenPair K)) (n : Nat)
    (C_row_without : Cal P w K mg base (n + 4) "row_without" (spPre (spRowWithout K) n)) : Body P w K mg base (n + 4) ["builder", "tree", "place", "left", "right", "less"] "row_without" (defScope s_row_without) (defBody s_row_without) (spRowWithout K n) := by
  intro f cdv A outer s H vs Q E hr h
  obtain ⟨b, dx, x, t, k, rfl, hb, hl, hk, hn, q⟩ := h
  obtain ⟨ax, dxx, xl, xr, rfl, hax, hcx⟩ := Stm.at_ hl
  have hu := hu_of hr
  have tk : Takes (cxOf (L2.CX P w) P w K mg base ["builder", "tree", "place", "left", "right", "less"] "row_without" (defScope s_row_without) f cdv A outer s H E) (fun cls d _ H => E cls d H) := takes_of rfl rfl rfl rfl
  refine ⟨_, (pss_cons (ps_if (pt_cmpR op_eq (pe_fld (pv 1) rfl) pe_int (nomark _)) (pss_one (ps_ret pe_non)) pss_nil)
    (pss_cons (ps_asg (pe_met D_Builder_sides hr (by omega) (pv 0) (pa_cons (pv 1) pa_nil)) (pg_tup (n := 2) (by rfl) (pgs_cons (pg_name (i := 3) sc_row_without.nd rfl (Or.inl rfl)) (pgs_cons (pg_name (i := 4) sc_row_without.nd rfl (Or.inl rfl)) pgs_nil))))
    (pss_cons (ps_if (pt_cmpR op_lt (pv 2) (pe_fld (pv 3) rfl) (nomark _)) (pss_cons (ps_set (i := 5) sc_row_without.nd rfl (Or.inl rfl) (pe_cal C_row_without hr (by omega) tk (pa_cons (pv 0) (pa_cons (pv 3) (pa_cons (pv 2) pa_nil)))))
    (pss_one (ps_ret (pe_ifExp (pt_cmpR op_isN1 (pv 5) pe_non (nomark _)) (pv 4) (pe_cal C_even_pair hr (by omega) tk (pa_cons (pv 0) (pa_cons (pv 5) (pa_cons (pv 4) pa_nil)))))))) pss_nil)
    (pss_cons (ps_set (i := 5) sc_row_without.nd rfl (Or.inl rfl) (pe_cal C_row_without hr (by omega) tk (pa_cons (pv 0) (pa_cons (pv 4) (pa_cons (pe_op op_sub (pv 2) (pe_fld (pv 3) rfl)) pa_nil)))))
    (pss_one (ps_ret (pe_ifExp (pt_cmpR op_isN1 (pv 5) pe_non (nomark _)) (pv 3) (pe_cal C_even_pair hr (by omega) tk (pa_cons (pv 0) (pa_cons (pv 3) (pa_cons (pv 5) pa_nil))))))))))), ?_⟩
  refine i_start [some _, some _, some _, none, none, none] (by rfl) ?_
  try dsimp only [cxOf]
  walk_at "rd"
  refine i_fldR hax T.c_Stem T.n_Stem_height st_height ?_
  walk_at "rd"
  rcases hcx with ⟨rfl, _, _⟩ | ⟨l, r, rfl, hl2, hr2⟩
  · refine i_dec (fun _ => ?_) (fun z => absurd rfl z)
    walk_at "rd"
    exact q _ H (Same.refl H) rfl
  · refine i_dec (fun z => by simp only [hei] at z; omega) (fun _ => ?_)
    simp only [hei, wid] at hn hk
    obtain ⟨n', rfl⟩ : ∃ n', n = n' + 1 := ⟨n - 1, by omega⟩
    walk_at "rd"
    refine ⟨b, dx, [], rfl, hb, rfl, ?_⟩
    walk_at "rd"
    refine ⟨_, _, l, r, rfl, hl, fun p1 H1 x1 y1 s1 ht1 hl3 hr3 => ?_⟩
    walk_at "rd"
    refine ⟨p1, _, rfl, SqT.of ht1, rfl, ?_⟩
    walk_at "rd"
    obtain ⟨a1, dx1, x1l, x1r, rfl, h1, hc1⟩ := hl3.at_
    obtain ⟨a2, dx2, x2l, x2r, rfl, h2, hc2⟩ := hr3.at_
    refine i_fldR h1 T.c_Stem T.n_Stem_width st_width ?_
    walk_at "rd"
    simp only [wo] at q
    refine i_dec (fun c1 => ?_) (fun c1 => ?_)
    · rw [if_pos (show k < wid l by omega)] at q
      walk_at "rd"
      refine ⟨b, dx, _, l, k, rfl, s1 _ _ hb, hl3, by omega, by omega, fun v2 H2 s2 t2 => ?_⟩
      walk_at "rd"
      cases e : wo l k with
      | none =>
        rw [e] at t2 q
        obtain rfl : v2 = .non := t2
        walk_at "rd"
        exact q _ H2 (s1.trans s2) (hr3.mono s2)
      | some z =>
        rw [e] at t2 q
        obtain ⟨a3, dx3, x3l, x3r, rfl, h3, _⟩ := Stm.at_ t2
        walk_at "rd"
        exact ⟨b, dx, _, _, _, r, rfl, s2 _ _ (s1 _ _ hb), t2, hr3.mono s2, fun p3 H3 s3 t3 => q _ H3 ((s1.trans s2).trans s3) t3⟩
    · rw [if_neg (show ¬ k < wid l by omega)] at q
      walk_at "rd"
      refine i_fldR h1 T.c_Stem T.n_Stem_width st_width ?_
      walk_at "rd"
      rw [show ((k : Nat) : Int) - ((wid l : Nat) : Int) = ((k - wid l : Nat) : Int) by omega]
      refine ⟨b, dx, _, r, k - wid l, rfl, s1 _ _ hb, hr3, by omega, by omega, fun v2 H2 s2 t2 => ?_⟩
      walk_at "rd"
      cases e : wo r (k - wid l) with
      | none =>
        rw [e] at t2 q
        obtain rfl : v2 = .non := t2
        walk_at "rd"
        exact q _ H2 (s1.trans s2) (hl3.mono s2)
      | some z =>
        rw [e] at t2 q
        obtain ⟨a3, dx3, x3l, x3r, rfl, h3, _⟩ := Stm.at_ t2
        walk_at "rd"
        exact ⟨b, dx, _, _, l, _, rfl, s2 _ _ (s1 _ _ hb), hl3.mono s2, t2, fun p3 H3 s3 t3 => q _ H3 ((s1.trans s2).trans s3) t3⟩
theorem c_row_without (T : Txt K mg) (n : Nat) : Cal P w K mg base (n + 4 + 1) "row_without" (spRowWithout K n) := T.d_row_without.rec_ sc_row_without 4 (fun n vs H Q E h => by obtain ⟨_, _, _, _, _, rfl, _⟩ := h; rfl) (b_row_without T (m_sides T) (c_even_pair T)) n
/-! ### joined_shapes -/
/-- a builder that was just made -/
theorem bld {H : Hp} {b dx : Addr} (hb : H b = none) (hdx : H dx = none) : Same H (L2.upd (L2.upd H dx (.own b)) b (.ins (CB K) dx [])) := Same.upd (Same.new hdx) hb
def spJoined (K : PySem.W.Frag) : Sp := fun vs H Q E => ∃ v1 v2 g1 g2, vs = [v1, v2] ∧ GShp H v1 g1 ∧ GShp H v2 g2 ∧ Wants K H g1 E ∧
  ∀ s1, g1 = s1.g → hei s1 ≤ 40 → wid s1 ≤ 20000 → bal s1 → Wants K H g2 E ∧ ∀ s2, g2 = s2.g → hei s2 ≤ 40 → wid s2 ≤ 20000 → bal s2 →
    (20000 < wid s1 + wid s2 → E (.ref (He.ga K "BadBalance")) none H) ∧ (wid s1 + wid s2 ≤ 20000 → ∀ v H', Same H H' → Shp H' v (jn s1 s2) → Q v H')
abbrev s_joined_shapes : Stmt := (top 32)
theorem sc_joined_shapes : FnScope ["shape", "other", "width"] ["shape", "other"] (defScope s_joined_shapes) := ⟨rfl, rfl, rfl, by decide +kernel, rfl, by decide +kernel, by decide +kernel⟩
theorem b_joined_shapes (T : Txt K mg) (C_need_balanced : Cal P w K mg base 43 "need_balanced" (spNeedBal K)) (C_stem_of : Cal P w K mg base 43 "stem_of" (spStemOf K 40)) (C_row_joined : Cal P w K mg base 105 "row_joined" (spRowJoined K 100))
    (C_shape_of : Cal P w K mg base 42 "shape_of" (spShapeOf K 41)) : Body P w K mg base (105) ["shape", "other", "width"] "joined_shapes" (defScope s_joined_shapes) (defBody s_joined_shapes) (spJoined K) := by
  intro f cdv A outer s H vs Q E hr h
  obtain ⟨v1, v2, g1, g2, rfl, h1, h2, w1, q⟩ := h
  have hu := hu_of hr
  have tk : Takes (cxOf (L2.CX P w) P w K mg base ["shape", "other", "width"] "joined_shapes" (defScope s_joined_shapes) f cdv A outer s H E) (fun cls d _ H => E cls d H) := takes_of rfl rfl rfl rfl
  refine ⟨_, (pss_cons (ps_set (i := 2) sc_joined_shapes.nd rfl (Or.inl rfl) (pe_cal C_need_balanced hr (by omega) tk (pa_cons (pv 0) pa_nil)))
    (pss_cons (ps_if (pt_cmpR op_gt (pe_op op_add (pv 2) (pe_cal C_need_balanced hr (by omega) tk (pa_cons (pv 1) pa_nil))) (pe_gint T.g_MOST_NODES) (nomark _)) (pss_one (ps_raiseX T.x_BadBalance tk)) pss_nil)
    (pss_one (ps_ret (pe_cal C_shape_of hr (by omega) tk (pa_cons (pe_cal C_row_joined hr (by omega) tk (pa_cons (pe_bare T.b_Builder) (pa_cons (pe_cal C_stem_of hr (by omega) tk (pa_cons (pv 0) pa_nil)) (pa_cons (pe_cal C_stem_of hr (by omega) tk (pa_cons (pv 1) pa_nil)) pa_nil)))) pa_nil)))))), ?_⟩
  refine i_start [some _, some _, none] (by rfl) ?_
  try dsimp only [cxOf]
  walk_at "rd"
  refine ⟨v1, g1, rfl, h1, w1, fun s1 e1 hs1 he1 hw1 b1 => ?_⟩
  obtain ⟨w2, q⟩ := q s1 e1 he1 hw1 b1
  walk_at "rd"
  refine ⟨v2, g2, rfl, h2, w2, fun s2 e2 hs2 he2 hw2 b2 => ?_⟩
  obtain ⟨q1, q2⟩ := q s2 e2 he2 hw2 b2
  walk_at "rd"
  refine i_dec (fun c => ?_) (fun c => ?_)
  · walk_at "rd"
    exact q1 (by omega)
  · walk_at "rd"
    intro b dx hb hdx hne
    have sb := bld (K := K) hb hdx
    generalize eH1 : L2.upd (L2.upd H dx _) b _ = H1
    rw [eH1] at sb
    have eb : H1 b = some (.ins (CB K) dx []) := by rw [← eH1]; exact upd_same
    walk_at "rd"
    refine ⟨v1, s1, rfl, hs1.mono (Same.tups sb), he1, fun p2 H2 t2 m2 => ?_⟩
    walk_at "rd"
    refine ⟨v2, s2, rfl, hs2.mono (Same.tups (sb.trans t2)), he2, fun p3 H3 t3 m3 => ?_⟩
    walk_at "rd"
    obtain ⟨y1, y2, y3, y4⟩ := jn_ok b1 b2
    refine ⟨b, dx, _, _, some s1, some s2, rfl, t3 _ _ (t2 _ _ eb), m2.mono t3, m3, by simp only [ohei]; omega, fun v4 H4 t4 m4 => ?_⟩
    walk_at "rd"
    refine ⟨v4, some (jn s1 s2), rfl, m4, by simp only [ohei]; omega, fun v5 H5 t5 m5 => ?_⟩
    exact q2 (by omega) v5 H5 ((((sb.trans t2).trans t3).trans t4).trans t5) m5
theorem c_joined_shapes (T : Txt K mg) : Cal P w K mg base 106 "joined_shapes" (spJoined K) :=
  T.d_joined_shapes.cal sc_joined_shapes (fun vs H Q E h => by obtain ⟨_, _, _, _, rfl, _⟩ := h; rfl) (b_joined_shapes T (c_need_balanced T) (c_stem_of T 40) (c_row_joined T 100) (c_shape_of T 41))
/-! ### put_shape -/
theorem opd_none (o : Option Sh) : PyData.eqv (opd o) (.tuple []) = o.isNone := by
  cases o with
  | none => rfl
  | some t => cases t <;> rfl
theorem opd_shaped {o : Option Sh} (h : ohei o ≤ 60) : SeqAt.shaped (opd o) = true := by
  unfold SeqAt.shaped
  have := opd_depth o
  rw [opd_lay, decide_eq_true (show PyData.depth (opd o) ≤ 64 by omega)]
  rfl
def spPut : Sp := fun vs H Q _ => ∃ v o k, vs = [v, .int (k : Nat)] ∧ OShp H v o ∧ obal o ∧ ohei o ≤ 40 ∧ owid o < 20000 ∧ k ≤ owid o ∧ ∀ v' H', Same H H' → Shp H' v' (owt o k) → Q v' H'
abbrev s_put_shape : Stmt := (top 34)
theorem sc_put_shape : FnScope ["shape", "place", "width", "tree"] ["shape", "place"] (defScope s_put_shape) := ⟨rfl, rfl, rfl, by decide +kernel, rfl, by decide +kernel, by decide +kernel⟩
theorem b_put_shape (T : Txt K mg) (C_need_balanced : Cal P w K mg base 43 "need_balanced" (spNeedBal K)) (C_need_count : Cal P w K mg base 2 "need_count" (spNeedCount K)) (C_stem_of : Cal P w K mg base 43 "stem_of" (spStemOf K 40))
    (C_row_with : Cal P w K mg base 45 "row_with" (spRowWith K 40)) (C_shape_of : Cal P w K mg base 42 "shape_of" (spShapeOf K 41)) : Body P w K mg base (45) ["shape", "place", "width", "tree"] "put_shape" (defScope s_put_shape) (defBody s_put_shape) spPut := by
  intro f cdv A outer s H vs Q E hr h
  obtain ⟨v, o, k, rfl, ho, bo, hh, hw, hk, q⟩ := h
  obtain ⟨z1, z2, z3⟩ := owt_ok k bo
  have fin : ∀ (H4 : Hp) (v4 : V) (b dx : Addr), Same H H4 → OStm (CS K) H4 v4 o → H4 b = some (.ins (CB K) dx []) → ∀ p5 H5, Same H4 H5 → Stm (CS K) H5 (.ref p5) .one →
      spRowWith K 40 [.ref b, v4, .int (k : Nat), .ref p5] H5 (fun v6 H6 => spShapeOf K 41 [v6] H6 Q E0) E0 := by
    intro H4 v4 b dx sa m4 hb4 p5 H5 t5 m5
    refine ⟨b, dx, v4, o, k, _, rfl, t5 _ _ hb4, m4.mono t5, m5, bo, hk, hh, fun v6 H6 t6 m6 => ?_⟩
    exact ⟨v6, some (owt o k), rfl, m6, by simp only [ohei]; omega, fun v7 H7 t7 m7 => q v7 H7 (((sa.trans t5).trans t6).trans t7) m7⟩
  have hu := hu_of hr
  have tk : Takes (cxOf (L2.CX P w) P w K mg base ["shape", "place", "width", "tree"] "put_shape" (defScope s_put_shape) f cdv A outer s H E) (fun cls d _ H => E cls d H) := takes_of rfl rfl rfl rfl
  refine ⟨_, (pss_cons (ps_set (i := 2) sc_put_shape.nd rfl (Or.inl rfl) (pe_hold (pe_ifExp (pt_cmpR (op_eqD hr.units) (pv 0) (pe_tup pa_nil) (nomark _)) pe_int (pe_cal C_need_balanced hr (by omega) tk (pa_cons (pv 0) pa_nil)))))
    (pss_cons (ps_if (pt_cmpR op_eq (pv 2) (pe_gint T.g_MOST_NODES) (nomark _)) (pss_one (ps_raiseX T.x_BadBalance tk)) pss_nil)
    (pss_cons (ps_expr (pe_cal C_need_count hr (by omega) tk (pa_cons (pv 1) (pa_cons (pv 2) pa_nil))))
    (pss_cons (ps_set (i := 3) sc_put_shape.nd rfl (Or.inl rfl) (pe_hold (pe_ifExp (pt_cmpR (op_eqD hr.units) (pv 0) (pe_tup pa_nil) (nomark _)) pe_non (pe_cal C_stem_of hr (by omega) tk (pa_cons (pv 0) pa_nil)))))
    (pss_one (ps_ret (pe_cal C_shape_of hr (by omega) tk (pa_cons (pe_cal C_row_with hr (by omega) tk (pa_cons (pe_bare T.b_Builder) (pa_cons (pv 3) (pa_cons (pv 1) (pa_cons (pe_cal C_stem_of hr (by omega) tk (pa_cons pe_non pa_nil)) pa_nil))))) pa_nil)))))))), ?_⟩
  refine i_start [some _, some _, none, none] (by rfl) ?_
  try dsimp only [cxOf]
  walk_at "rd"
  refine i_hold (fun x H' => x = .int (owid o : Nat) ∧ Same H H') (fun Q' kk => ?_) ?_
  · walk_at "rd"
    refine ⟨Nat.zero_le _, fun p1 hp1 => ?_⟩
    generalize eH1 : L2.upd H p1 _ = H1
    obtain ⟨s1, e1⟩ := laid eH1 hp1
    walk_at "rd"
    refine ⟨opd o, .tuple [], opd_dp (ho.mono (Same.tups s1)), .tup (SqT.of e1) .nil, opd_shaped (by omega), by decide, ?_⟩
    rw [opd_none]
    walk_at "rd"
    cases o with
    | none =>
      refine i_T ?_
      walk_at "rd"
      exact kk _ _ ⟨rfl, s1⟩
    | some t =>
      refine i_F ?_
      walk_at "rd"
      have ht : Shp H1 v t := Shp.mono ho (Same.tups s1)
      refine ⟨v, t.g, rfl, ht.g, ⟨fun z => ?_, fun s e _ _ nb => absurd bo (by rw [g_inj e]; exact nb)⟩, fun s e _ _ _ _ => ?_⟩
      · rw [wIn_sh t 40 hh (by simp only [owid] at hw; omega)] at z
        have := wid_pos t
        omega
      · rw [← g_inj e]
        exact kk _ _ ⟨rfl, s1⟩
  · rintro x H' ⟨rfl, sa⟩
    walk_at "rd"
    refine i_decF (by omega) ?_
    walk_at "rd"
    refine ⟨.int k, "int", _, rfl, ⟨rfl, by decide⟩, fun i e h1 h2 => ?_, fun z => absurd ⟨by omega, by omega⟩ (z k rfl)⟩
    walk_at "rd"
    refine i_hold (fun x H2 => OStm (CS K) H2 x o ∧ Same H H2) (fun Q' kk => ?_) ?_
    · walk_at "rd"
      refine ⟨Nat.zero_le _, fun p1 hp1 => ?_⟩
      generalize eH1 : L2.upd H' p1 _ = H1
      obtain ⟨s1, e1⟩ := laid eH1 hp1
      have s2 := sa.trans s1
      walk_at "rd"
      refine ⟨opd o, .tuple [], opd_dp (ho.mono (Same.tups s2)), .tup (SqT.of e1) .nil, opd_shaped (by omega), by decide, ?_⟩
      rw [opd_none]
      walk_at "rd"
      cases o with
      | none =>
        refine i_T ?_
        walk_at "rd"
        exact kk _ _ ⟨rfl, s2⟩
      | some t =>
        refine i_F ?_
        walk_at "rd"
        exact ⟨v, t, rfl, Shp.mono ho (Same.tups s2), hh, fun p3 H3 s3 m3 => kk _ _ ⟨m3, s2.trans s3⟩⟩
    · rintro x H2 ⟨m2, sb⟩
      walk_at "rd"
      intro b dx hb hdx hne
      have sc := bld (K := K) hb hdx
      generalize eH3 : L2.upd (L2.upd H2 dx _) b _ = H3
      rw [eH3] at sc
      have eb : H3 b = some (.ins (CB K) dx []) := by rw [← eH3]; exact upd_same
      walk_at "rd"
      refine ⟨.non, .one, rfl, .one, Nat.zero_le _, fun p5 H5 t5 m5 => ?_⟩
      walk_at "rd"
      exact fin H3 x b dx (sb.trans sc) (m2.mono sc) eb p5 H5 t5 m5
theorem c_put_shape (T : Txt K mg) : Cal P w K mg base 46 "put_shape" spPut :=
  T.d_put_shape.cal sc_put_shape (fun vs H Q E h => by obtain ⟨_, _, _, rfl, _⟩ := h; rfl) (b_put_shape T (c_need_balanced T) (c_need_count T) (c_stem_of T 40) (c_row_with T 40) (c_shape_of T 41))
/-! ### taken_shape -/
def spTaken : Sp := fun vs H Q _ => ∃ v t k, vs = [v, .int (k : Nat)] ∧ Shp H v t ∧ bal t ∧ hei t ≤ 40 ∧ wid t ≤ 20000 ∧ k < wid t ∧ ∀ v' H', Same H H' → OShp H' v' (wo t k) → Q v' H'
theorem wo_hei {t : Sh} {k : Nat} (b : bal t) : ohei (wo t k) ≤ hei t := by
  rcases wo_ok t k b with ⟨_, e⟩ | ⟨x, e, _, _, _, h⟩
  · rw [e]; exact Nat.zero_le _
  · rw [e]; exact h
abbrev s_taken_shape : Stmt := (top 35)
theorem sc_taken_shape : FnScope ["shape", "place"] ["shape", "place"] (defScope s_taken_shape) := ⟨rfl, rfl, rfl, by decide +kernel, rfl, by decide +kernel, by decide +kernel⟩
theorem b_taken_shape (T : Txt K mg) (C_need_balanced : Cal P w K mg base 43 "need_balanced" (spNeedBal K)) (C_need_count : Cal P w K mg base 2 "need_count" (spNeedCount K)) (C_stem_of : Cal P w K mg base 43 "stem_of" (spStemOf K 40))
    (C_row_without : Cal P w K mg base 45 "row_without" (spRowWithout K 40)) (C_shape_of : Cal P w K mg base 42 "shape_of" (spShapeOf K 41)) : Body P w K mg base (45) ["shape", "place"] "taken_shape" (defScope s_taken_shape) (defBody s_taken_shape) spTaken := by
  intro f cdv A outer s H vs Q E hr h
  obtain ⟨v, t, k, rfl, ht, bt, hh, hw, hk, q⟩ := h
  have hu := hu_of hr
  have tk : Takes (cxOf (L2.CX P w) P w K mg base ["shape", "place"] "taken_shape" (defScope s_taken_shape) f cdv A outer s H E) (fun cls d _ H => E cls d H) := takes_of rfl rfl rfl rfl
  refine ⟨_, (pss_cons (ps_expr (pe_cal C_need_count hr (by omega) tk (pa_cons (pv 1) (pa_cons (pe_op op_sub (pe_cal C_need_balanced hr (by omega) tk (pa_cons (pv 0) pa_nil)) pe_int) pa_nil))))
    (pss_one (ps_ret (pe_cal C_shape_of hr (by omega) tk (pa_cons (pe_cal C_row_without hr (by omega) tk (pa_cons (pe_bare T.b_Builder) (pa_cons (pe_cal C_stem_of hr (by omega) tk (pa_cons (pv 0) pa_nil)) (pa_cons (pv 1) pa_nil)))) pa_nil))))), ?_⟩
  refine i_start [some _, some _] (by rfl) ?_
  try dsimp only [cxOf]
  walk_at "rd"
  refine ⟨v, t.g, rfl, ht.g, ⟨fun z => ?_, fun s e _ _ nb => absurd bt (by rw [g_inj e]; exact nb)⟩, fun s e _ _ _ _ => ?_⟩
  · rw [wIn_sh t 40 hh hw] at z
    have := wid_pos t
    omega
  · have et := g_inj e
    subst et
    walk_at "rd"
    refine ⟨.int k, "int", _, rfl, ⟨rfl, by decide⟩, fun i e h1 h2 => ?_, fun z => absurd ⟨by omega, by omega⟩ (z k rfl)⟩
    walk_at "rd"
    intro b dx hb hdx hne
    have sc := bld (K := K) hb hdx
    generalize eH3 : L2.upd (L2.upd H dx _) b _ = H3
    rw [eH3] at sc
    have eb : H3 b = some (.ins (CB K) dx []) := by rw [← eH3]; exact upd_same
    walk_at "rd"
    refine ⟨v, t, rfl, ht.mono (Same.tups sc), hh, fun p4 H4 t4 m4 => ?_⟩
    walk_at "rd"
    refine ⟨b, dx, _, t, k, rfl, t4 _ _ eb, m4, hk, hh, fun v5 H5 t5 m5 => ?_⟩
    walk_at "rd"
    refine ⟨v5, wo t k, rfl, m5, by have := wo_hei (k := k) bt; omega, fun v6 H6 t6 m6 => ?_⟩
    exact q v6 H6 (((sc.trans t4).trans t5).trans t6) m6
theorem c_taken_shape (T : Txt K mg) : Cal P w K mg base 46 "taken_shape" spTaken :=
  T.d_taken_shape.cal sc_taken_shape (fun vs H Q E h => by obtain ⟨_, _, _, rfl, _⟩ := h; rfl) (b_taken_shape T (c_need_balanced T) (c_need_count T) (c_stem_of T 40) (c_row_without T 40) (c_shape_of T 41))
/-! ### is_shape -/
def spIsSh : Sp := fun vs H Q _ => ∃ v g, vs = [v] ∧ GShp H v g ∧ Q (.bl (decide (0 < wIn 40 g))) H
abbrev s_is_shape : Stmt := (top 27)
theorem sc_is_shape : FnScope ["thing"] ["thing"] (defScope s_is_shape) := ⟨rfl, rfl, rfl, by decide +kernel, rfl, by decide +kernel, by decide +kernel⟩
theorem b_is_shape (T : Txt K mg) (C_width_in : Cal P w K mg base 41 "width_in" (spWidthIn 40)) : Body P w K mg base (41) ["thing"] "is_shape" (defScope s_is_shape) (defBody s_is_shape) spIsSh := by
  intro f cdv A outer s H vs Q E hr h
  obtain ⟨v, g, rfl, hg, q⟩ := h
  have hu := hu_of hr
  have tk : Takes (cxOf (L2.CX P w) P w K mg base ["thing"] "is_shape" (defScope s_is_shape) f cdv A outer s H E) (fun cls d _ H => E cls d H) := takes_of rfl rfl rfl rfl
  refine ⟨_, (pss_one (ps_ret (pe_cmpR op_gt (pe_cal C_width_in hr (by omega) tk (pa_cons (pv 0) (pa_cons (pe_gint T.g_MOST_HEIGHT) pa_nil))) pe_int (nomark _)))), ?_⟩
  refine i_start [some _] (by rfl) ?_
  try dsimp only [cxOf]
  walk_at "rd"
  refine ⟨v, 40, g, rfl, hg, Nat.le_refl _, ?_⟩
  walk_at "rd"
  have e : decide (0 < wIn 40 g) = decide ((0 : Int) < ((wIn 40 g : Nat) : Int)) := decide_eq_decide.mpr (by omega)
  rw [← e]
  exact q
theorem c_is_shape (T : Txt K mg) : Cal P w K mg base 42 "is_shape" spIsSh := T.d_is_shape.cal sc_is_shape (fun vs H Q E h => by obtain ⟨_, _, rfl, _⟩ := h; rfl) (b_is_shape T (c_width_in T 40))
end

end K62

set_option maxHeartbeats 4000000
namespace K62
open PySem PySem.Spec PyProof.Rows L2 KB KM
theorem trb_bad {g : GS} (h : gh g ≤ 40) (h2 : gl g ≤ 20000) (z : wIn 40 g = 0) : trb g = "BadShape" := by
  unfold trb
  cases e : isSh g with
  | false => rfl
  | true =>
    obtain ⟨s, rfl⟩ := sh_of g e
    rw [hei_g] at h
    rw [wid_g] at h2
    rw [wIn_sh s 40 h h2] at z
    have := wid_pos s
    omega
theorem trb_nb {s : Sh} (h : ¬ bal s) : trb s.g = "BadBalance" := by
  unfold trb
  rw [isSh_g, if_pos rfl, (gsz_is s).2 h, if_pos rfl]
theorem trb_bal {s : Sh} (h : bal s) : trb s.g = "" := by
  unfold trb
  rw [isSh_g, if_pos rfl, (gsz_is s).1 h, if_neg (by intro z; cases z)]
theorem trb_ok {g : GS} (h : trb g = "") : ∃ s, g = s.g ∧ bal s := by
  unfold trb at h
  cases e : isSh g with
  | false =>
    rw [e, if_neg (by decide)] at h
    exact absurd h (by decide)
  | true =>
    rw [e, if_pos rfl] at h
    cases e2 : gsz g with
    | none =>
      rw [e2, if_pos rfl] at h
      exact absurd h (by decide)
    | some ab =>
      obtain ⟨a, b⟩ := ab
      obtain ⟨s, rfl, b1, _, _⟩ := gsz_some e2
      exact ⟨s, rfl, b1⟩
/-- the word 'shape' and a shape -/
def ws (t : Sh) : PyData := .tuple [.str "shape", pd t]
theorem ws_lay (t : Sh) : PyData.canLay0 (ws t) = true := by
  simp only [ws, PyData.canLay0, PyData.canLayAll0, pd_lay, Bool.and_self, Bool.and_true]
  decide +kernel
theorem ws_shaped {t : Sh} (h : hei t ≤ 60) : SeqAt.shaped (ws t) = true := by
  unfold SeqAt.shaped
  have d : PyData.depth (ws t) ≤ 64 := by
    simp only [ws, PyData.depth, PyData.depthAll, pd_depth]
    omega
  rw [ws_lay, decide_eq_true d]
  rfl
theorem ws_refl (t : Sh) : PyData.eqv (ws t) (ws t) = true := PySem.SeqAt.eqv_refl _ (ws_lay t)
section
variable {P : Program} {w : World} {K : PySem.W.Frag} {mg : Str → Option Value} {base : Heap}
/-! ### _law_joined -/
/-- the word that is due for two things, and the shape -/
def Word (g1 g2 : GS) (wd : Str) (H : Hp) (sv : V) : Prop := (trb g1 ≠ "" → wd = trb g1) ∧ (trb g1 = "" → trb g2 ≠ "" → wd = trb g2) ∧
  ∀ s1 s2, g1 = s1.g → g2 = s2.g → bal s1 → bal s2 → (20000 < wid s1 + wid s2 → wd = "BadBalance") ∧ (wid s1 + wid s2 ≤ 20000 → wd = "shape" ∧ Shp H sv (jn s1 s2))
def spLJoined : Sp := fun vs H Q _ => ∃ v1 v2 g1 g2, vs = [v1, v2] ∧ GShp H v1 g1 ∧ GShp H v2 g2 ∧ gh g1 ≤ 40 ∧ gl g1 ≤ 20000 ∧ gh g2 ≤ 40 ∧ gl g2 ≤ 20000 ∧
  ∀ p wd sv H', Same H H' → H' p = some (.tup [.str wd, sv]) → Word g1 g2 wd H' sv → Q (.ref p) H'
abbrev s__law_joined : Stmt := (top 50)
theorem sc__law_joined : FnScope ["one", "other", "got"] ["one", "other"] (defScope s__law_joined) := ⟨rfl, rfl, rfl, by decide +kernel, rfl, by decide +kernel, by decide +kernel⟩
theorem b_law_joined (T : Txt K mg) (C_joined_shapes : Cal P w K mg base 106 "joined_shapes" (spJoined K)) : Body P w K mg base (106) ["one", "other", "got"] "_law_joined" (defScope s__law_joined) (defBody s__law_joined) spLJoined := by
  intro f cdv A outer s H vs Q E hr h
  obtain ⟨v1, v2, g1, g2, rfl, hg1, hg2, hh1, hl1, hh2, hl2, q⟩ := h
  have hu := hu_of hr
  have tk : Takes (cxOf (L2.CX P w) P w K mg base ["one", "other", "got"] "_law_joined" (defScope s__law_joined) f cdv A outer s H E) (fun cls d _ H => E cls d H) := takes_of rfl rfl rfl rfl
  refine ⟨_, (pss_cons (ps_try_many rfl rfl tk (fun W pn xe tk _ => (pss_one (ps_set (i := 2) sc__law_joined.nd rfl (Or.inl rfl) (pe_tup (pa_cons pe_str (pa_cons (pe_cal C_joined_shapes hr (by omega) tk (pa_cons (pv 0) (pa_cons (pv 1) pa_nil))) pa_nil)))))) (.cons ⟨rfl, by decide, .inl T.x_BadShape.at_⟩ (fun a oe cls d pn _ _ => (pss_one (ps_set (i := 2) sc__law_joined.nd rfl (Or.inl rfl) (pe_tup (pa_cons pe_str (pa_cons pe_non pa_nil)))))) (.cons ⟨rfl, by decide, .inl T.x_BadBalance.at_⟩ (fun a oe cls d pn _ _ => (pss_one (ps_set (i := 2) sc__law_joined.nd rfl (Or.inl rfl) (pe_tup (pa_cons pe_str (pa_cons pe_non pa_nil)))))) .nil)))
    (pss_one (ps_ret (pv 2)))), ?_⟩
  refine i_start [some _, some _, none] (by rfl) ?_
  try dsimp only [cxOf]
  walk_at "rd"
  have bad : ∀ (t : Str), (∀ H', Word g1 g2 t H' .non) → ∀ p, H p = none → Q (.ref p) (L2.upd H p (.tup [.str t, .non])) := fun t k p hp => q p t .non _ (Same.new hp) upd_same (k _)
  refine ⟨v1, v2, g1, g2, rfl, hg1, hg2, ⟨fun z => ?_, fun sh e h1 h2 nb => ?_⟩, fun s1 e1 h1 h2 b1 => ⟨⟨fun z => ?_, fun sh e h3 h4 nb => ?_⟩, fun s2 e2 h3 h4 b2 => ⟨fun c => ?_, fun c v3 H3 t3 m3 => ?_⟩⟩⟩
  · have et := trb_bad hh1 hl1 z
    refine ⟨true, T.e_BadShape_BadShape, fun _ a ha => ?_, (fun z => nomatch z)⟩
    walk_at "rd"
    refine ⟨by show 2 ≤ sizeLine; decide, fun p hp => ?_⟩
    walk_at "rd"
    refine bad _ (fun H' => ⟨fun _ => et.symm, fun k => absurd (et.symm.trans k) (by decide), fun s1 s2 e1 _ b1 _ => ?_⟩) p hp
    subst e1
    exact absurd (et.symm.trans (trb_bal b1)) (by decide)
  · subst e
    have et := trb_nb nb
    refine ⟨false, T.e_BadBalance_BadShape, (fun z => nomatch z), fun _ => ⟨true, T.e_BadBalance_BadBalance, fun _ a ha => ?_, (fun z => nomatch z)⟩⟩
    walk_at "rd"
    refine ⟨by show 2 ≤ sizeLine; decide, fun p hp => ?_⟩
    walk_at "rd"
    refine bad _ (fun H' => ⟨fun _ => et.symm, fun k => absurd (et.symm.trans k) (by decide), fun s1 s2 e1 _ b1 _ => absurd b1 (by rw [← g_inj e1]; exact nb)⟩) p hp
  · subst e1
    have et := trb_bad hh2 hl2 z
    refine ⟨true, T.e_BadShape_BadShape, fun _ a ha => ?_, (fun z => nomatch z)⟩
    walk_at "rd"
    refine ⟨by show 2 ≤ sizeLine; decide, fun p hp => ?_⟩
    walk_at "rd"
    refine bad _ (fun H' => ⟨fun k => absurd (trb_bal b1) k, fun _ _ => et.symm, fun s1' s2 _ e2 _ b2 => ?_⟩) p hp
    subst e2
    exact absurd (et.symm.trans (trb_bal b2)) (by decide)
  · subst e1
    subst e
    have et := trb_nb nb
    refine ⟨false, T.e_BadBalance_BadShape, (fun z => nomatch z), fun _ => ⟨true, T.e_BadBalance_BadBalance, fun _ a ha => ?_, (fun z => nomatch z)⟩⟩
    walk_at "rd"
    refine ⟨by show 2 ≤ sizeLine; decide, fun p hp => ?_⟩
    walk_at "rd"
    exact bad _ (fun H' => ⟨fun k => absurd (trb_bal b1) k, fun _ _ => et.symm, fun s1' s2 _ e2 _ b2 => absurd b2 (by rw [← g_inj e2]; exact nb)⟩) p hp
  · subst e1
    subst e2
    refine ⟨false, T.e_BadBalance_BadShape, (fun z => nomatch z), fun _ => ⟨true, T.e_BadBalance_BadBalance, fun _ a ha => ?_, (fun z => nomatch z)⟩⟩
    walk_at "rd"
    refine ⟨by show 2 ≤ sizeLine; decide, fun p hp => ?_⟩
    walk_at "rd"
    exact bad _ (fun H' => ⟨fun k => absurd (trb_bal b1) k, fun _ k => absurd (trb_bal b2) k, fun s1' s2' e1 e2 _ _ => ⟨fun _ => rfl, fun z => by rw [← g_inj e1, ← g_inj e2] at z; omega⟩⟩) p hp
  · subst e1
    subst e2
    walk_at "rd"
    refine ⟨by show 2 ≤ sizeLine; decide, fun p4 hp4 => ?_⟩
    generalize eH4 : L2.upd H3 p4 _ = H4
    obtain ⟨t4, e4⟩ := laid eH4 hp4
    walk_at "rd"
    exact q p4 _ v3 H4 (t3.trans t4) e4 ⟨fun k => absurd (trb_bal b1) k, fun _ k => absurd (trb_bal b2) k, fun s1' s2' e1 e2 _ _ => ⟨fun z => by rw [← g_inj e1, ← g_inj e2] at z; omega, fun _ => ⟨rfl, by rw [← g_inj e1, ← g_inj e2]; exact m3.mono (Same.tups t4)⟩⟩⟩
theorem c_law_joined (T : Txt K mg) : Cal P w K mg base 107 "_law_joined" spLJoined := T.d__law_joined.cal sc__law_joined (fun vs H Q E h => by obtain ⟨_, _, _, _, rfl, _⟩ := h; rfl) (b_law_joined T (c_joined_shapes T))
/-! ### _law_right -/
def spRight : Sp := fun vs H Q _ => ∃ v1 v2 g1 g2, vs = [v1, v2] ∧ GShp H v1 g1 ∧ GShp H v2 g2 ∧ gh g1 ≤ 40 ∧ gl g1 ≤ 20000 ∧ gh g2 ≤ 40 ∧ gl g2 ≤ 20000 ∧ ∀ H', Same H H' → Q (.bl true) H'
abbrev s__law_right : Stmt := (top 51)
theorem sc__law_right : FnScope ["one", "other", "word", "shape", "thing", "width", "sizes"] ["one", "other"] (defScope s__law_right) := ⟨rfl, rfl, rfl, by decide +kernel, rfl, by decide +kernel, by decide +kernel⟩
theorem b_law_right (T : Txt K mg) (C__law_joined : Cal P w K mg base 107 "_law_joined" spLJoined) (C__law_trouble : Cal P w K mg base 42 "_law_trouble" spTrouble) (C__law_sizes : Cal P w K mg base 42 "_law_sizes" (spSizes 41)) : Body P w K mg base (107) ["one", "other", "word", "shape", "thing", "width", "sizes"] "_law_right" (defScope s__law_right) (defBody s__law_right) spRight := by
  intro f cdv A outer s H vs Q E hr h
  obtain ⟨v1, v2, g1, g2, rfl, hg1, hg2, hh1, hl1, hh2, hl2, q⟩ := h
  have hu := hu_of hr
  have tk : Takes (cxOf (L2.CX P w) P w K mg base ["one", "other", "word", "shape", "thing", "width", "sizes"] "_law_right" (defScope s__law_right) f cdv A outer s H E) (fun cls d _ H => E cls d H) := takes_of rfl rfl rfl rfl
  refine ⟨_, (pss_cons (ps_asg (pe_cal C__law_joined hr (by omega) tk (pa_cons (pv 0) (pa_cons (pv 1) pa_nil))) (pg_tup (n := 2) (by rfl) (pgs_cons (pg_name (i := 2) sc__law_right.nd rfl (Or.inl rfl)) (pgs_cons (pg_name (i := 3) sc__law_right.nd rfl (Or.inl rfl)) pgs_nil))))
    (pss_cons (ps_for (passes_of rfl) rfl (pi_list (pe_lst (pa_cons (pv 0) (pa_cons (pv 1) pa_nil)))) (pg_name (i := 4) sc__law_right.nd rfl (Or.inl rfl)) (pss_one (ps_if (pt_cmpR op_ne (pe_cal C__law_trouble hr (by omega) tk (pa_cons (pv 4) pa_nil)) pe_str (nomark _)) (pss_one (ps_ret (pe_cmpR op_eq (pv 2) (pe_cal C__law_trouble hr (by omega) tk (pa_cons (pv 4) pa_nil)) (nomark _)))) pss_nil)))
    (pss_cons (ps_set (i := 5) sc__law_right.nd rfl (Or.inl rfl) (pe_op op_add (pe_ix ix_seq (pe_cal C__law_sizes hr (by omega) tk (pa_cons (pv 0) pa_nil)) pe_int (fun _ _ => rfl)) (pe_ix ix_seq (pe_cal C__law_sizes hr (by omega) tk (pa_cons (pv 1) pa_nil)) pe_int (fun _ _ => rfl))))
    (pss_cons (ps_if (pt_cmpR op_gt (pv 5) pe_int (nomark _)) (pss_one (ps_ret (pe_cmpR op_eq (pv 2) pe_str (nomark _)))) pss_nil)
    (pss_cons (ps_set (i := 6) sc__law_right.nd rfl (Or.inl rfl) (pe_cal C__law_sizes hr (by omega) tk (pa_cons (pv 3) pa_nil)))
    (pss_cons (ps_if (PW.pt (pw_or (pt_cmpR op_ne (pv 2) pe_str (nomark _)) (pw_or (pt_cmpR op_isN1 (pv 6) pe_non (nomark _)) (pw_or1 (pt_cmpR op_ne (pe_ix ix_seq (pv 6) pe_int (fun _ _ => rfl)) (pv 5) (nomark _)))))) (pss_one (ps_ret pe_bl)) pss_nil)
    (pss_one (ps_ret (pe_cmpR (op_eqD hr.units) (pe_cal C__law_joined hr (by omega) tk (pa_cons (pv 0) (pa_cons (pv 1) pa_nil))) (pe_tup (pa_cons pe_str (pa_cons (pv 3) pa_nil))) (nomark _)))))))))), ?_⟩
  refine i_start [some _, some _, none, none, none, none, none] (by rfl) ?_
  try dsimp only [cxOf]
  walk_at "rd"
  refine ⟨v1, v2, g1, g2, rfl, hg1, hg2, hh1, hl1, hh2, hl2, fun p wd sv H1 s1 e1 wo => ?_⟩
  obtain ⟨wo1, wo2, wo3⟩ := wo
  walk_at "rd"
  refine ⟨p, _, rfl, SqT.of e1, rfl, ?_⟩
  walk_at "rd"
  refine ⟨by show 2 ≤ sizeLine; decide, fun l2 hl2' => ?_⟩
  generalize eH2 : L2.upd H1 l2 _ = H2
  obtain ⟨s2, e2⟩ := laid eH2 hl2'
  have S2 := s1.trans s2
  walk_at "rd"
  refine ⟨l2, rfl, ⟨_, SqL.of e2⟩, for_list (xs := [v1, v2]) (fun i s h => ∃ b4, s = [some v1, some v2, some (.str wd), some sv, b4, none, none] ∧ Same H2 h ∧ (0 < i → trb g1 = "") ∧ (1 < i → trb g2 = "")) ⟨none, rfl, Same.refl _, fun z => absurd z (by decide), fun z => absurd z (by decide)⟩ ?_ ?_ ?_⟩
  · rintro i s h _ ⟨b4, rfl, sa, _⟩
    exact SqL.of (sa _ _ e2)
  · rintro i x s h hi ⟨b4, rfl, sa, ti1, ti2⟩
    have Sa := S2.trans sa
    match i, hi with
    | 0, hi =>
      cases hi
      walk_at "rd"
      refine ⟨v1, g1, rfl, hg1.mono Sa, hh1, fun H3 s3 => ?_⟩
      walk_at "rd"
      refine i_ndec (fun k => ?_) (fun k => ?_)
      · walk_at "rd"
        refine ⟨v1, g1, rfl, hg1.mono (Sa.trans s3), hh1, fun H4 s4 => ?_⟩
        walk_at "rd"
        rw [decide_eq_true (wo1 k)]
        exact q H4 ((Sa.trans s3).trans s4)
      · walk_at "rd"
        exact ⟨_, rfl, sa.trans s3, fun _ => k, fun z => absurd z (by decide)⟩
    | 1, hi =>
      cases hi
      have k1 := ti1 (by decide)
      walk_at "rd"
      refine ⟨v2, g2, rfl, hg2.mono Sa, hh2, fun H3 s3 => ?_⟩
      walk_at "rd"
      refine i_ndec (fun k => ?_) (fun k => ?_)
      · walk_at "rd"
        refine ⟨v2, g2, rfl, hg2.mono (Sa.trans s3), hh2, fun H4 s4 => ?_⟩
        walk_at "rd"
        rw [decide_eq_true (wo2 k1 k)]
        exact q H4 ((Sa.trans s3).trans s4)
      · walk_at "rd"
        exact ⟨_, rfl, sa.trans s3, fun _ => k1, fun _ => k⟩
    | i + 2, hi => simp at hi
  · rintro s h ⟨b4, rfl, sa, ti1, ti2⟩
    have Sa := S2.trans sa
    obtain ⟨t1, rfl, b1⟩ := trb_ok (ti1 (by show 0 < 2; decide))
    obtain ⟨t2, rfl, b2⟩ := trb_ok (ti2 (by show 1 < 2; decide))
    obtain ⟨wo4, wo5⟩ := wo3 t1 t2 rfl rfl b1 b2
    obtain ⟨y1, y2, y3, y4⟩ := jn_ok b1 b2
    walk_at "rd"
    refine ⟨v1, _, rfl, hg1.mono Sa, by omega, fun v3 H3 s3 z3 => ?_⟩
    rw [(gsz_is t1).1 b1] at z3
    obtain ⟨p3, rfl, hp3⟩ := z3
    walk_at "rd"
    refine i_ixST (SqT.of hp3) rfl ?_
    walk_at "rd"
    refine ⟨v2, _, rfl, hg2.mono (Sa.trans s3), by omega, fun v4 H4 s4 z4 => ?_⟩
    rw [(gsz_is t2).1 b2] at z4
    obtain ⟨p4, rfl, hp4⟩ := z4
    walk_at "rd"
    refine i_ixST (SqT.of hp4) rfl ?_
    walk_at "rd"
    have S4 := (Sa.trans s3).trans s4
    have T4 : Same H1 H4 := ((s2.trans sa).trans s3).trans s4
    refine i_dec (fun c => ?_) (fun c => ?_)
    · walk_at "rd"
      rw [decide_eq_true (wo4 (by omega))]
      exact q H4 S4
    · obtain ⟨rfl, hs⟩ := wo5 (by omega)
      have hs4 : Shp H4 sv (jn t1 t2) := hs.mono (Same.tups T4)
      rw [hei_g] at hh1 hh2
      have hj := hei_20 y1 (by omega)
      walk_at "rd"
      refine ⟨sv, _, rfl, hs4.g, by rw [hei_g]; omega, fun v5 H5 s5 z5 => ?_⟩
      rw [(gsz_is (jn t1 t2)).1 y1] at z5
      obtain ⟨p5, rfl, hp5⟩ := z5
      walk_at "rd"
      refine i_ndec (fun z => absurd rfl z) (fun _ => ?_)
      walk_at "rd"
      refine i_ixST (SqT.of hp5) rfl ?_
      walk_at "rd"
      refine i_ndec (fun z => absurd (by rw [y2]; omega) z) (fun _ => ?_)
      walk_at "rd"
      have S5 := S4.trans s5
      refine ⟨v1, v2, _, _, rfl, hg1.mono S5, hg2.mono S5, by rw [hei_g]; exact hh1, hl1, by rw [hei_g]; exact hh2, hl2, fun p6 wd6 sv6 H6 s6 e6 wo6 => ?_⟩
      obtain ⟨rfl, hs6⟩ := (wo6.2.2 t1 t2 rfl rfl b1 b2).2 (by omega)
      walk_at "rd"
      refine ⟨by show 2 ≤ sizeLine; decide, fun p7 hp7 => ?_⟩
      generalize eH7 : L2.upd H6 p7 _ = H7
      obtain ⟨s7, e7⟩ := laid eH7 hp7
      walk_at "rd"
      refine ⟨ws (jn t1 t2), ws (jn t1 t2), .tup (SqT.of (s7 _ _ e6)) (.cons (.str _) (.cons (pd_dp (hs6.mono (Same.tups s7))) .nil)),
        .tup (SqT.of e7) (.cons (.str _) (.cons (pd_dp (hs4.mono (Same.tups ((s5.trans s6).trans s7)))) .nil)), ws_shaped (by omega), ws_shaped (by omega), ?_⟩
      rw [ws_refl]
      exact q H7 ((S5.trans s6).trans s7)
theorem c_law_right (T : Txt K mg) : Cal P w K mg base 108 "_law_right" spRight :=
  T.d__law_right.cal sc__law_right (fun vs H Q E h => by obtain ⟨_, _, _, _, rfl, _⟩ := h; rfl) (b_law_right T (c_law_joined T) (c_law_trouble T) (c_law_sizes T 41))
end

end K62

set_option maxHeartbeats 4000000
namespace K62
open PySem PySem.Spec PyProof.Rows L2 KB KM
section
variable {P : Program} {w : World} {K : PySem.W.Frag} {mg : Str → Option Value} {base : Heap}
/-! ### _law_asked_one -/
abbrev s__law_asked_one : Stmt := (top 52)
theorem sc__law_asked_one : FnScope ["script", "k", "feed", "wide", "one", "other", "known", "first", "both"] ["script"] (defScope s__law_asked_one) := ⟨rfl, rfl, rfl, by decide +kernel, rfl, by decide +kernel, by decide +kernel⟩
theorem b_asked_one (T : Txt K mg) (C__law_feed : Cal P w K mg base 1 "_law_feed" (spFeed K)) (C__law_draw : Cal P w K mg base 1 "_law_draw" spDraw) (C__law_shape : Cal P w K mg base 25 "_law_shape" spLShape)
    (C__law_even : Cal P w K mg base 16 "_law_even" (spEven 15)) (C__law_right : Cal P w K mg base 108 "_law_right" spRight) : Body P w K mg base (108) ["script", "k", "feed", "wide", "one", "other", "known", "first", "both"] "_law_asked_one" (defScope s__law_asked_one) (defBody s__law_asked_one) (spAsked K) := by
  intro f cdv A outer s H vs Q E hr h
  obtain ⟨a, ns, rfl, hS, hb, hl, q⟩ := h
  have hu := hu_of hr
  have tk : Takes (cxOf (L2.CX P w) P w K mg base ["script", "k", "feed", "wide", "one", "other", "known", "first", "both"] "_law_asked_one" (defScope s__law_asked_one) f cdv A outer s H E) (fun cls d _ H => E cls d H) := takes_of rfl rfl rfl rfl
  refine ⟨_, (pss_cons (ps_for (passes_of rfl) rfl (pi_range1 rfl T.g_range (pa_cons (pe_callB (call_max2K rfl) (by rfl) T.g_max (by decide +kernel) (pa_cons pe_int (pa_cons (pe_callB (call_min2K rfl) (by rfl) T.g_min (by decide +kernel) (pa_cons pe_int (pa_cons (pe_callB call_lenK (by rfl) T.g_len (by decide +kernel) (pa_cons (pv 0) pa_nil)) pa_nil))) pa_nil))) pa_nil)) (pg_name (i := 1) sc__law_asked_one.nd rfl (Or.inl rfl)) (pss_cons (ps_set (i := 2) sc__law_asked_one.nd rfl (Or.inl rfl) (pe_cal C__law_feed hr (by omega) tk (pa_cons (pv 0) (pa_cons (pv 1) pa_nil))))
    (pss_cons (ps_set (i := 3) sc__law_asked_one.nd rfl (Or.inl rfl) (pe_cal C__law_draw hr (by omega) tk (pa_cons (pv 2) (pa_cons pe_int pa_nil))))
    (pss_cons (ps_par (i := 4) (j := 5) (by rfl) sc__law_asked_one.nd rfl rfl (by decide) rfl rfl (pa_cons (pe_cal C__law_shape hr (by omega) tk (pa_cons (pv 2) (pa_cons (pe_hold (pe_ifExp (PW.pt (pw_and (pt_cmpR op_eq (pv 1) pe_int (nomark _)) (pw_and1 (pt_cmpR op_eq (pv 3) pe_int (nomark _))))) pe_int pe_int)) pa_nil))) (pa_cons (pe_cal C__law_shape hr (by omega) tk (pa_cons (pv 2) (pa_cons pe_int pa_nil))) pa_nil)) (by rfl))
    (Evl.pss_cut (ps_if (PW.pt (pw_and (pt_cmpR op_eq (pv 3) pe_int (nomark _)) (pw_and1 (pt_cmpR op_eq (pv 1) pe_int (nomark _))))) (pss_cons (ps_set (i := 6) sc__law_asked_one.nd rfl (Or.inl rfl) (pe_disp (pps_cons pe_int pe_non pps_nil) rfl rfl (by decide) (by decide)))
    (pss_cons (ps_par (i := 7) (j := 8) (by rfl) sc__law_asked_one.nd rfl rfl (by decide) rfl rfl (pa_cons (pe_op op_add pe_int (pe_cal C__law_draw hr (by omega) tk (pa_cons (pv 2) (pa_cons pe_int pa_nil)))) (pa_cons (pe_op op_add pe_int (pe_cal C__law_draw hr (by omega) tk (pa_cons (pv 2) (pa_cons pe_int pa_nil)))) pa_nil)) (by rfl))
    (pss_one (ps_par (i := 4) (j := 5) (by rfl) sc__law_asked_one.nd rfl rfl (by decide) rfl rfl (pa_cons (pe_cal C__law_even hr (by omega) tk (pa_cons (pv 7) (pa_cons (pv 6) pa_nil))) (pa_cons (pe_cal C__law_even hr (by omega) tk (pa_cons (pe_op op_sub (pv 8) (pv 7)) (pa_cons (pv 6) pa_nil))) pa_nil)) (by rfl))))) pss_nil)
    (pss_one (ps_if (pt_not (pt_val (pe_cal C__law_right hr (by omega) tk (pa_cons (pv 4) (pa_cons (pv 5) pa_nil))))) (pss_one (ps_ret pe_bl)) pss_nil)))))))
    (pss_one (ps_ret pe_bl))), ?_⟩
  refine i_start [some _, none, none, none, none, none, none, none, none] (by rfl) ?_
  try dsimp only [cxOf]
  walk_at "rd"
  refine i_lenL hS ?_
  walk_at "rd"
  rw [List.length_map]
  refine ⟨_, rfl, by omega, by omega, ?_⟩
  refine for_range (lo := 0) (n := (max (3 : Int) (min (63 : Int) (ns.length : Nat))).toNat) (fun i s h => ∃ b1 b2 b3 b4 b5 b6 b7 b8, s = [some (.ref a), b1, b2, b3, b4, b5, b6, b7, b8] ∧ Same H h)
    ⟨none, none, none, none, none, none, none, none, rfl, Same.refl H⟩ ?_ ?_
  · rintro i s h hi ⟨b1, b2, b3, b4, b5, b6, b7, b8, rfl, sH⟩
    have hi63 : i < 63 := by omega
    rw [Int.zero_add]
    walk_at "rd"
    refine ⟨a, ns, i, rfl, sH.seq hS, hb, by omega, fun fd xs H1 nf s1 e1 hF => ?_⟩
    have nfh : h fd = none := nf
    walk_at "rd"
    refine ⟨fd, 6, 0, xs, rfl, e1, hF, by decide, by decide, by decide, fun g ys g0 g1 hy => ?_⟩
    generalize eH2 : L2.upd H1 fd _ = H2
    have x2 : SameX fd H1 H2 := by rw [← eH2]; exact SameX.upd
    have e2 : H2 fd = some (.lst ys) := by rw [← eH2]; exact upd_same
    have S2 : Same h H2 := SameX.fresh x2 s1 nfh
    walk_at "rd"
    refine i_hold (fun x H' => ∃ most : Nat, x = .int most ∧ H' = H2 ∧ 40 ≤ most ∧ most ≤ 1500) (fun Q' kk => ?_) ?_
    · walk_at "rd"
      refine i_dec (fun c => ?_) (fun c => ?_)
      · walk_at "rd"
        refine i_dec (fun c2 => ?_) (fun c2 => ?_)
        · walk_at "rd"
          exact kk _ _ ⟨1500, rfl, rfl, by decide, by decide⟩
        · walk_at "rd"
          exact kk _ _ ⟨40, rfl, rfl, by decide, by decide⟩
      · walk_at "rd"
        exact kk _ _ ⟨40, rfl, rfl, by decide, by decide⟩
    · rintro x H' ⟨most, rfl, rfl, m1, m2⟩
      walk_at "rd"
      refine ⟨fd, 1, most, ys, rfl, e2, hy, m1, m2, by decide, fun v1 g1' zs H3 sx3 e3 hz hg1 hh1 hl1 => ?_⟩
      walk_at "rd"
      refine ⟨fd, 3101, 40, zs, rfl, e3, hz, by decide, by decide, by decide, fun v2 g2' us H4 sx4 e4 hu4 hg2 hh2 hl2 => ?_⟩
      have k4 := Keeps.ofX sx4 e3 e4
      have S4 : Same h H4 := SameX.fresh sx4 (SameX.fresh sx3 S2 nfh) nfh
      have hg1' := hg1.keep k4
      walk_at "rd"
      refine i_cut (fun s5 h5 => ∃ u1 u2 k1 k2 c6 c7 c8, s5 = [some (.ref a), some (.int (i : Nat)), some (.ref fd), some (.int g), some u1, some u2, c6, c7, c8] ∧ Same h h5 ∧ GShp h5 u1 k1 ∧ GShp h5 u2 k2 ∧ gh k1 ≤ 40 ∧ gl k1 ≤ 20000 ∧ gh k2 ≤ 40 ∧ gl k2 ≤ 20000) ?_ ?_
      · walk_at "rd"
        have pass : ∃ u1 u2 k1 k2 c6 c7 c8, [some (.ref a), some (.int (i : Nat)), some (.ref fd), some (.int g), some v1, some v2, b6, b7, b8] = [some (V.ref a), some (.int (i : Nat)), some (.ref fd), some (.int g), some u1, some u2, c6, c7, c8] ∧ Same h H4 ∧ GShp H4 u1 k1 ∧ GShp H4 u2 k2 ∧ gh k1 ≤ 40 ∧ gl k1 ≤ 20000 ∧ gh k2 ≤ 40 ∧ gl k2 ≤ 20000 :=
          ⟨v1, v2, g1', g2', b6, b7, b8, rfl, S4, hg1', hg2, hh1, by omega, hh2, by omega⟩
        refine i_dec (fun c => ?_) (fun c => ?_)
        · walk_at "rd"
          refine i_dec (fun c2 => ?_) (fun c2 => ?_)
          · walk_at "rd"
            refine i_disp fun d hd => ?_
            walk_at "rd"
            refine ⟨upd_same, [(.inl 1, .non)], rfl, by decide, ?_⟩
            rw [upd_upd, show mergeK [] [((.inl 1 : Key), V.non)] = [(.inl 1, .non)] from rfl]
            generalize eH5 : L2.upd H4 d _ = H5
            obtain ⟨s5, e5⟩ := laid eH5 hd
            have ndf : d ≠ fd := fun z => by rw [z, e4] at hd; cases hd
            walk_at "rd"
            refine ⟨fd, 19997, 6201, us, rfl, s5 _ _ e4, hu4, by decide, by decide, by decide, fun ga gys ga0 ga1 hga => ?_⟩
            walk_at "rd"
            refine ⟨fd, 4, 6202, gys, rfl, upd_same, hga, by decide, by decide, by decide, fun gb gzs gb0 gb1 hgb => ?_⟩
            rw [upd_upd]
            generalize eH6 : L2.upd H5 fd _ = H6
            have x6 : SameX fd H5 H6 := by rw [← eH6]; exact SameX.upd
            have e6 : H6 d = some (.dK [(.inl 1, .non)]) := x6 _ _ ndf e5
            have S6 : Same h H6 := SameX.fresh x6 (S4.trans s5) nfh
            have ndh : h d = none := S4.free hd
            obtain ⟨fw, efw⟩ : ∃ fw : Nat, 2 + ga = (fw : Int) := ⟨(2 + ga).toNat, by omega⟩
            obtain ⟨bw, ebw⟩ : ∃ bw : Nat, 19999 + gb = (bw : Int) := ⟨(19999 + gb).toNat, by omega⟩
            walk_at "rd"
            rw [efw, ebw]
            have l1 := evS_low (show 1 ≤ fw by omega) (by omega)
            refine ⟨fw, d, _, rfl, by omega, by omega, l1, e6, kn_one _, by decide, fun u1 H7 kv7 sx7 e7 ok7 len7 sp7 => ?_⟩
            walk_at "rd"
            rw [show ((bw : Nat) : Int) - ((fw : Nat) : Int) = ((bw - fw : Nat) : Int) by omega]
            have l2 := evS_low (show 1 ≤ bw - fw by omega) (by omega)
            have len7' : kv7.length ≤ 65536 := by
              have : kv7.length + 1 ≤ 1 + 65536 := len7
              omega
            refine ⟨bw - fw, d, kv7, rfl, by omega, by omega, l2, e7, ok7, by show kv7.length + 65536 ≤ 10000000; omega, fun u2 H8 kv8 sx8 e8 ok8 len8 sp8 => ?_⟩
            walk_at "rd"
            have t8 : Tups H7 H8 := SameX.tupsD sx8 e7
            have w1 := evS_wid fw (by omega)
            have w2 := evS_wid (bw - fw) (by omega)
            exact ⟨u1, u2, (evS fw).g, (evS (bw - fw)).g, _, _, _, rfl, SameX.fresh sx8 (SameX.fresh sx7 S6 ndh) ndh, (sp7.mono t8).g, sp8.g, by rw [hei_g]; omega, by rw [wid_g]; omega, by rw [hei_g]; omega, by rw [wid_g]; omega⟩
          · walk_at "rd"
            exact pass
        · walk_at "rd"
          exact pass
      · rintro s5 h5 ⟨u1, u2, k1, k2, c6, c7, c8, rfl, S5, hk1, hk2, hh3, hl3, hh4, hl4⟩
        walk_at "rd"
        refine ⟨u1, u2, k1, k2, rfl, hk1, hk2, hh3, hl3, hh4, hl4, fun H6 s6 => ?_⟩
        walk_at "rd"
        refine i_F ?_
        walk_at "rd"
        exact ⟨_, _, _, _, _, _, _, _, rfl, sH.trans (S5.trans s6)⟩
  · rintro s h ⟨b1, b2, b3, b4, b5, b6, b7, b8, rfl, sH⟩
    walk_at "rd"
    exact q h sH
theorem c_asked_one (T : Txt K mg) : Cal P w K mg base 109 "_law_asked_one" (spAsked K) := T.d__law_asked_one.cal sc__law_asked_one (fun vs H Q E h => by obtain ⟨_, _, rfl, _⟩ := h; rfl)
  (b_asked_one T (c_feed T) (c_draw T) (c_law_shape T) (c_even T 15) (c_law_right T))
/-! ### _law_held -/
def spHeld : Sp := fun vs H Q _ => ∃ v o k, vs = [v, .int (k : Nat)] ∧ OShp H v o ∧ obal o ∧ owid o = k ∧ k ≤ 20000 ∧ ∀ H', Same H H' → Q (.bl true) H'
theorem judge {K : PySem.W.Frag} {f : Sh → V} {H : Hp} {v : V} {s : Sh} {Q : VK} {E : XK} (h : Shp H v s) (h1 : hei s ≤ 40) (h2 : wid s ≤ 20000) (q : Q (f s) H) : spJudge K f [v] H Q E := by
  refine ⟨v, s.g, rfl, h.g, fun z => ?_, fun s' e _ _ _ => ?_⟩
  · rw [wIn_sh s 40 h1 h2] at z
    have := wid_pos s
    omega
  · rw [← g_inj e]
    exact q
abbrev s__law_held : Stmt := (top 53)
theorem sc__law_held : FnScope ["shape", "width", "sizes"] ["shape", "width"] (defScope s__law_held) := ⟨rfl, rfl, rfl, by decide +kernel, rfl, by decide +kernel, by decide +kernel⟩
theorem b_law_held (T : Txt K mg) (C_is_shape : Cal P w K mg base 42 "is_shape" spIsSh) (C__law_sizes : Cal P w K mg base 42 "_law_sizes" (spSizes 41)) (C__law_tallest : Cal P w K mg base 2 "_law_tallest" spLTallest) (C_tallest : Cal P w K mg base 3 "tallest" (spTallest K))
    (C_is_balanced : Cal P w K mg base 43 "is_balanced" (spJudge K fun s => .bl (decide (0 ≤ bh s)))) (C_width_of : Cal P w K mg base 43 "width_of" (spJudge K fun s => .int (wid s : Nat))) (C_height_of : Cal P w K mg base 43 "height_of" (spJudge K fun s => .int (hei s : Nat))) :
    Body P w K mg base (43) ["shape", "width", "sizes"] "_law_held" (defScope s__law_held) (defBody s__law_held) spHeld := by
  intro f cdv A outer s H vs Q E hr h
  obtain ⟨v, o, k, rfl, ho, bo, hw, hk, q⟩ := h
  have hu := hu_of hr
  have tk : Takes (cxOf (L2.CX P w) P w K mg base ["shape", "width", "sizes"] "_law_held" (defScope s__law_held) f cdv A outer s H E) (fun cls d _ H => E cls d H) := takes_of rfl rfl rfl rfl
  refine ⟨_, (pss_cons (ps_if (pt_cmpR op_eq (pv 1) pe_int (nomark _)) (pss_one (ps_ret (pe_and (pe_cmpR (op_eqD hr.units) (pv 0) (pe_tup pa_nil) (nomark _)) (pe_one (pe_cmpR op_isBl (pe_cal C_is_shape hr (by omega) tk (pa_cons (pv 0) pa_nil)) pe_bl (nomark _)))))) pss_nil)
    (pss_cons (ps_set (i := 2) sc__law_held.nd rfl (Or.inl rfl) (pe_cal C__law_sizes hr (by omega) tk (pa_cons (pv 0) pa_nil)))
    (pss_cons (ps_if (PW.pt (pw_or (pt_cmpR op_isN1 (pv 2) pe_non (nomark _)) (pw_or (pt_cmpR op_ne (pe_ix ix_seq (pv 2) pe_int (fun _ _ => rfl)) (pv 1) (nomark _)) (pw_or (pt_cmpR op_gt (pe_ix ix_seq (pv 2) pe_int (fun _ _ => rfl)) (pe_cal C__law_tallest hr (by omega) tk (pa_cons (pv 1) pa_nil)) (nomark _)) (pw_or1 (pt_cmpR op_lt (pe_cal C_tallest hr (by omega) tk (pa_cons (pv 1) pa_nil)) (pe_ix ix_seq (pv 2) pe_int (fun _ _ => rfl)) (nomark _))))))) (pss_one (ps_ret pe_bl)) pss_nil)
    (pss_cons (ps_if (PW.pt (pw_or (pt_cmpR op_notBl (pe_cal C_is_shape hr (by omega) tk (pa_cons (pv 0) pa_nil)) pe_bl (nomark _)) (pw_or1 (pt_cmpR op_notBl (pe_cal C_is_balanced hr (by omega) tk (pa_cons (pv 0) pa_nil)) pe_bl (nomark _))))) (pss_one (ps_ret pe_bl)) pss_nil)
    (pss_one (ps_ret (pe_and (pe_cmpR op_eq (pe_cal C_width_of hr (by omega) tk (pa_cons (pv 0) pa_nil)) (pv 1) (nomark _)) (pe_one (pe_cmpR op_eq (pe_cal C_height_of hr (by omega) tk (pa_cons (pv 0) pa_nil)) (pe_ix ix_seq (pv 2) pe_int (fun _ _ => rfl)) (nomark _)))))))))), ?_⟩
  refine i_start [some _, some _, none] (by rfl) ?_
  try dsimp only [cxOf]
  walk_at "rd"
  cases o with
  | none =>
    simp only [owid] at hw
    subst hw
    obtain ⟨p, rfl, hp⟩ := ho
    refine i_decT rfl ?_
    walk_at "rd"
    refine ⟨Nat.zero_le _, fun p2 hp2 => ?_⟩
    generalize eH2 : L2.upd H p2 _ = H2
    obtain ⟨s2, e2⟩ := laid eH2 hp2
    walk_at "rd"
    refine ⟨.tuple [], .tuple [], .tup (SqT.of (s2 _ _ hp)) .nil, .tup (SqT.of e2) .nil, by decide, by decide, ?_⟩
    walk_at "rd"
    refine i_T ?_
    walk_at "rd"
    refine ⟨_, .bad, rfl, bad_tup (s2 _ _ hp) (by decide), ?_⟩
    walk_at "rd"
    exact q H2 s2
  | some t =>
    have := wid_pos t
    simp only [owid] at hw
    subst hw
    have bt : bal t := bo
    have h20 := hei_20 bt hk
    have ht : Shp H v t := ho
    refine i_decF (by omega) ?_
    walk_at "rd"
    refine ⟨v, t.g, rfl, ht.g, by rw [hei_g]; omega, fun v1 H1 s1 z1 => ?_⟩
    rw [(gsz_is t).1 bt] at z1
    obtain ⟨p1, rfl, hp1⟩ := z1
    walk_at "rd"
    refine i_ixST (SqT.of hp1) rfl ?_
    walk_at "rd"
    refine i_ndec (fun z => absurd rfl z) (fun _ => ?_)
    walk_at "rd"
    refine i_ixST (SqT.of hp1) rfl ?_
    walk_at "rd"
    refine ⟨wid t, rfl, by omega, fun h2 H2 s2 tl2 => ?_⟩
    walk_at "rd"
    have a1 := hei_tl bt tl2
    refine i_decF (by omega) ?_
    walk_at "rd"
    refine ⟨.int (wid t), "int", rfl, ⟨rfl, by decide⟩, fun n2 e hn2 h3 H3 s3 tl3 => ?_, fun z => absurd ⟨by omega, by omega⟩ (z (wid t) rfl)⟩
    have en2 : n2 = wid t := by have := V.int.inj e; omega
    subst en2
    walk_at "rd"
    have a2 := hei_tl bt tl3
    refine i_ixST (SqT.of ((s2.trans s3) _ _ hp1)) rfl ?_
    walk_at "rd"
    refine i_decF (by omega) ?_
    walk_at "rd"
    have ht3 : Shp H3 v t := ht.mono (Same.tups ((s1.trans s2).trans s3))
    refine ⟨v, t.g, rfl, ht3.g, ?_⟩
    rw [wIn_sh t 40 (by omega) hk, decide_eq_true (by omega)]
    walk_at "rd"
    refine i_F ?_
    walk_at "rd"
    refine judge ht3 (by omega) hk ?_
    rw [decide_eq_true (bh_nonneg.mpr bt)]
    walk_at "rd"
    refine i_F ?_
    walk_at "rd"
    refine judge ht3 (by omega) hk ?_
    walk_at "rd"
    refine i_decT rfl ?_
    walk_at "rd"
    refine judge ht3 (by omega) hk ?_
    walk_at "rd"
    refine i_ixST (SqT.of ((s2.trans s3) _ _ hp1)) rfl ?_
    walk_at "rd"
    rw [decide_eq_true rfl]
    exact q H3 ((s1.trans s2).trans s3)
theorem c_law_held (T : Txt K mg) : Cal P w K mg base 44 "_law_held" spHeld := T.d__law_held.cal sc__law_held (fun vs H Q E h => by obtain ⟨_, _, _, rfl, _⟩ := h; rfl)
  (b_law_held T (c_is_shape T) (c_law_sizes T 41) (c_ltallest T) (c_tallest T) (c_is_balanced T) (c_width_of T) (c_height_of T))
end

end K62

set_option maxHeartbeats 4000000
namespace K62
open PySem PySem.Spec PyProof.Rows L2 KB KM
/-! held shapes -/
def HeldAt (H : Hp) (v : V) (s : Sh) : Prop := ∃ p sv, v = .ref p ∧ H p = some (.tup [sv, .int (wid s : Nat)]) ∧ Shp H sv s ∧ bal s ∧ wid s ≤ 90
theorem HeldAt.mono {H H' : Hp} {v : V} {s : Sh} (h : HeldAt H v s) (k : Tups H H') : HeldAt H' v s := by
  obtain ⟨p, sv, e, hp, hs, b, w⟩ := h
  exact ⟨p, sv, e, k _ _ hp, hs.mono k, b, w⟩
inductive HL (H : Hp) : List V → List Sh → Prop where
  | nil : HL H [] []
  | cons {v : V} {s : Sh} {vs : List V} {ss : List Sh} : HeldAt H v s → HL H vs ss → HL H (v :: vs) (s :: ss)
theorem HL.mono {H H' : Hp} {vs : List V} {ss : List Sh} (h : HL H vs ss) (k : Tups H H') : HL H' vs ss := by
  induction h with
  | nil => exact .nil
  | cons a _ ih => exact .cons (a.mono k) ih
theorem HL.len {H : Hp} {vs : List V} {ss : List Sh} (h : HL H vs ss) : vs.length = ss.length := by
  induction h with
  | nil => rfl
  | cons _ _ ih => rw [List.length_cons, List.length_cons, ih]
theorem HL.at_ {H : Hp} {vs : List V} {ss : List Sh} (h : HL H vs ss) : ∀ i, i < vs.length → ∃ v s, vs[i]? = some v ∧ ss[i]? = some s ∧ HeldAt H v s := by
  induction h with
  | nil => intro i z; simp at z
  | cons a _ ih =>
    intro i z
    cases i with
    | zero => exact ⟨_, _, rfl, rfl, a⟩
    | succ i => exact ih i (by simpa using z)
theorem HL.app {H : Hp} {vs : List V} {ss : List Sh} {v : V} {s : Sh} (h : HL H vs ss) (a : HeldAt H v s) : HL H (vs ++ [v]) (ss ++ [s]) := by
  induction h with
  | nil => exact .cons a .nil
  | cons b _ ih => exact .cons b ih
theorem HL.w90 {H : Hp} {vs : List V} {ss : List Sh} (h : HL H vs ss) : ∀ s ∈ ss, wid s ≤ 90 := by
  induction h with
  | nil => intro s z; cases z
  | cons a _ ih =>
    intro s z
    rcases List.mem_cons.mp z with rfl | z
    · obtain ⟨_, _, _, _, _, _, w⟩ := a; exact w
    · exact ih s z
inductive ML (H : Hp) : List V → List (Option Sh) → Prop where
  | nil : ML H [] []
  | cons {v : V} {o : Option Sh} {vs : List V} {os : List (Option Sh)} : OShp H v o → ML H vs os → ML H (v :: vs) (o :: os)
theorem ML.mono {H H' : Hp} {vs : List V} {os : List (Option Sh)} (h : ML H vs os) (k : Tups H H') : ML H' vs os := by
  induction h with
  | nil => exact .nil
  | cons a _ ih => exact .cons (a.mono k) ih
theorem ML.len {H : Hp} {vs : List V} {os : List (Option Sh)} (h : ML H vs os) : vs.length = os.length := by
  induction h with
  | nil => rfl
  | cons _ _ ih => rw [List.length_cons, List.length_cons, ih]
theorem ML.at_ {H : Hp} {vs : List V} {os : List (Option Sh)} (h : ML H vs os) : ∀ (i : Nat) (v : V), vs[i]? = some v → ∃ o, os[i]? = some o ∧ OShp H v o := by
  induction h with
  | nil => intro i v z; simp at z
  | cons a _ ih =>
    intro i v z
    cases i with
    | zero => cases z; exact ⟨_, rfl, a⟩
    | succ i => exact ih i v z
/-! sums of widths -/
def sw (ss : List Sh) (n : Nat) : Nat := ((ss.take n).map wid).sum
theorem sw_succ {ss : List Sh} {i : Nat} {s : Sh} (h : ss[i]? = some s) : sw ss (i + 1) = sw ss i + wid s := by
  unfold sw
  rw [List.take_add_one, h, List.map_append, List.sum_append]
  simp
theorem sw_le {ss : List Sh} (h : ∀ s ∈ ss, wid s ≤ 90) (n : Nat) : sw ss n ≤ 90 * n := by
  unfold sw
  induction ss generalizing n with
  | nil => simp
  | cons s r ih =>
    cases n with
    | zero => simp
    | succ n =>
      rw [List.take_succ_cons, List.map_cons, List.sum_cons]
      have := ih (fun s z => h s (List.mem_cons_of_mem _ z)) n
      have := h s List.mem_cons_self
      omega
theorem sw_pos {ss : List Sh} {n : Nat} (h : ss ≠ []) (hn : 0 < n) : 1 ≤ sw ss n := by
  unfold sw
  cases ss with
  | nil => exact absurd rfl h
  | cons s r =>
    obtain ⟨n, rfl⟩ : ∃ m, n = m + 1 := ⟨n - 1, by omega⟩
    rw [List.take_succ_cons, List.map_cons, List.sum_cons]
    have := wid_pos s
    omega
section
variable {P : Program} {w : World} {K : PySem.W.Frag} {mg : Str → Option Value} {base : Heap}
theorem joined_good {H : Hp} {v1 v2 : V} {s1 s2 : Sh} {Q : VK} {E : XK} (h1 : Shp H v1 s1) (h2 : Shp H v2 s2) (b1 : bal s1) (b2 : bal s2) (hw : wid s1 + wid s2 ≤ 20000) (q : ∀ v H', Same H H' → Shp H' v (jn s1 s2) → Q v H') : spJoined K [v1, v2] H Q E := by
  have k1 := hei_20 b1 (by omega)
  have k2 := hei_20 b2 (by omega)
  have p1 := wid_pos s1
  have p2 := wid_pos s2
  refine ⟨v1, v2, _, _, rfl, h1.g, h2.g, ⟨fun z => ?_, fun s e _ _ nb => absurd b1 (by rw [g_inj e]; exact nb)⟩, fun t1 e1 _ _ _ => ⟨⟨fun z => ?_, fun s e _ _ nb => absurd b2 (by rw [g_inj e]; exact nb)⟩, fun t2 e2 _ _ _ => ⟨fun c => ?_, fun _ => ?_⟩⟩⟩
  · rw [wIn_sh s1 40 (by omega) (by omega)] at z
    omega
  · rw [wIn_sh s2 40 (by omega) (by omega)] at z
    omega
  · rw [← g_inj e1, ← g_inj e2] at c
    omega
  · rw [← g_inj e1, ← g_inj e2]
    exact q
theorem cut_good {H : Hp} {v : V} {t : Sh} {k : Nat} {Q : VK} {E : XK} (h : Shp H v t) (b : bal t) (hw : wid t ≤ 20000) (hk : k ≤ wid t)
    (q : ∀ p u x H', Same H H' → H' p = some (.tup [u, x]) → OShp H' u (ct t k).1 → OShp H' x (ct t k).2 → Q (.ref p) H') : spCutShape K [v, .int (k : Nat)] H Q E := by
  have k1 := hei_20 b hw
  have p1 := wid_pos t
  refine ⟨v, t.g, .int k, "int", rfl, h.g, ⟨rfl, by decide⟩, ⟨fun z => ?_, fun s e _ _ nb => absurd b (by rw [g_inj e]; exact nb)⟩, fun s e _ _ _ hi => ?_, fun s j e _ _ _ ej _ => ?_⟩
  · rw [wIn_sh t 40 (by omega) hw] at z
    omega
  · rw [← g_inj e] at hi
    exact absurd ⟨by omega, by omega⟩ (hi k rfl)
  · rw [← g_inj e]
    have : j = k := by have := V.int.inj ej; omega
    subst this
    exact q
/-! ### _law_deed -/
def spDeed : Sp := fun vs H Q _ => ∃ (fd hl : Addr) (m : Nat) (xs hs : List V) (ss : List Sh), vs = [.ref fd, .ref hl] ∧ H fd = some (.lst xs) ∧ FdL m xs ∧ m ≤ 100 ∧ H hl = some (.lst hs) ∧ HL H hs ss ∧ hs ≠ [] ∧ hs.length ≤ 200 ∧ hl ≠ fd ∧
  ∀ p g m1 a1 w1 (gs : List Int) ms as (os : List (Option Sh)) H', SameX fd H H' → H' p = some (.tup [.ref g, .ref m1, .ref a1, .ref w1]) → H' g = some (.lst (gs.map V.int)) → H' m1 = some (.lst ms) → H' a1 = some (.lst as) →
    H' w1 = some (.lst (os.map fun o => V.int (owid o : Nat))) → ML H' ms os → ML H' as os → (∀ o ∈ os, obal o ∧ owid o ≤ 90) → os.length ≤ 2 → Q (.ref p) H'
abbrev s__law_deed : Stmt := (top 54)
theorem sc__law_deed : FnScope ["feed", "held", "at", "shape", "width", "other", "way", "made", "many", "place"] ["feed", "held"] (defScope s__law_deed) := ⟨rfl, rfl, rfl, by decide +kernel, rfl, by decide +kernel, by decide +kernel⟩
theorem b_law_deed (T : Txt K mg) (C__law_draw : Cal P w K mg base 1 "_law_draw" spDraw) (C_joined_shapes : Cal P w K mg base 106 "joined_shapes" (spJoined K)) (C_cut_shape : Cal P w K mg base 147 "cut_shape" (spCutShape K))
    (C_put_shape : Cal P w K mg base 46 "put_shape" spPut) (C_taken_shape : Cal P w K mg base 46 "taken_shape" spTaken) : Body P w K mg base (147) ["feed", "held", "at", "shape", "width", "other", "way", "made", "many", "place"] "_law_deed" (defScope s__law_deed) (defBody s__law_deed) spDeed := by
  intro f cdv A outer s H vs Q E hr h
  obtain ⟨fd, hl, m, xs, hs, ss, rfl, hf, hF, hm, hh, hL, hne, h200, nhf, q⟩ := h
  have hpos : 0 < hs.length := List.length_pos_iff.mpr hne
  have hu := hu_of hr
  have tk : Takes (cxOf (L2.CX P w) P w K mg base ["feed", "held", "at", "shape", "width", "other", "way", "made", "many", "place"] "_law_deed" (defScope s__law_deed) f cdv A outer s H E) (fun cls d _ H => E cls d H) := takes_of rfl rfl rfl rfl
  refine ⟨_, (pss_cons (ps_set (i := 2) sc__law_deed.nd rfl (Or.inl rfl) (pe_cal C__law_draw hr (by omega) tk (pa_cons (pv 0) (pa_cons (pe_callB call_lenK (by rfl) T.g_len (by decide +kernel) (pa_cons (pv 1) pa_nil)) pa_nil))))
    (pss_cons (ps_asg (pe_ix ix_list (pv 1) (pv 2) (fun _ _ => rfl)) (pg_tup (n := 2) (by rfl) (pgs_cons (pg_name (i := 3) sc__law_deed.nd rfl (Or.inl rfl)) (pgs_cons (pg_name (i := 4) sc__law_deed.nd rfl (Or.inl rfl)) pgs_nil))))
    (pss_cons (ps_set (i := 5) sc__law_deed.nd rfl (Or.inl rfl) (pe_cal C__law_draw hr (by omega) tk (pa_cons (pv 0) (pa_cons (pe_callB call_lenK (by rfl) T.g_len (by decide +kernel) (pa_cons (pv 1) pa_nil)) pa_nil))))
    (pss_cons (ps_set (i := 6) sc__law_deed.nd rfl (Or.inl rfl) (pe_cal C__law_draw hr (by omega) tk (pa_cons (pv 0) (pa_cons pe_int pa_nil))))
    (Evl.pss_cut (ps_if (PW.pt (pw_and (pt_cmpR op_eq (pv 6) pe_int (nomark _)) (pw_and (pt_cmpR op_ne (pv 5) (pv 2) (nomark _)) (pw_and1 (pt_cmpR op_le (pe_op op_add (pv 4) (pe_ix ix_tup (pe_ix ix_list (pv 1) (pv 5) (fun _ _ => rfl)) pe_int (fun _ _ => rfl))) pe_int (nomark _)))))) (pss_cons (ps_set (i := 7) sc__law_deed.nd rfl (Or.inl rfl) (pe_cal C_joined_shapes hr (by omega) tk (pa_cons (pv 3) (pa_cons (pe_ix ix_tup (pe_ix ix_list (pv 1) (pv 5) (fun _ _ => rfl)) pe_int (fun _ _ => rfl)) pa_nil))))
    (pss_one (ps_ret (pe_tup (pa_cons (pe_lst (pa_cons (pv 2) (pa_cons (pv 5) pa_nil))) (pa_cons (pe_lst (pa_cons (pv 7) pa_nil)) (pa_cons (pe_lst (pa_cons (pe_cal C_joined_shapes hr (by omega) tk (pa_cons (pv 3) (pa_cons (pe_ix ix_tup (pe_ix ix_list (pv 1) (pv 5) (fun _ _ => rfl)) pe_int (fun _ _ => rfl)) pa_nil))) pa_nil)) (pa_cons (pe_lst (pa_cons (pe_op op_add (pv 4) (pe_ix ix_tup (pe_ix ix_list (pv 1) (pv 5) (fun _ _ => rfl)) pe_int (fun _ _ => rfl))) pa_nil)) pa_nil)))))))) pss_nil)
    (Evl.pss_cut (ps_if (PW.pt (pw_and (pt_cmpR op_eq (pv 6) pe_int (nomark _)) (pw_and1 (pt_cmpR op_lt (pe_callB call_lenK (by rfl) T.g_len (by decide +kernel) (pa_cons (pv 1) pa_nil)) pe_int (nomark _))))) (pss_cons (ps_set (i := 8) sc__law_deed.nd rfl (Or.inl rfl) (pe_cal C__law_draw hr (by omega) tk (pa_cons (pv 0) (pa_cons (pe_op op_add (pv 4) pe_int) pa_nil))))
    (pss_one (ps_ret (pe_tup (pa_cons (pe_lst (pa_cons (pv 2) pa_nil)) (pa_cons (pe_callTy call_list_of (by rfl) T.g_list (by decide +kernel) (pa_cons (pe_cal C_cut_shape hr (by omega) tk (pa_cons (pv 3) (pa_cons (pv 8) pa_nil))) pa_nil)) (pa_cons (pe_callTy call_list_of (by rfl) T.g_list (by decide +kernel) (pa_cons (pe_cal C_cut_shape hr (by omega) tk (pa_cons (pv 3) (pa_cons (pv 8) pa_nil))) pa_nil)) (pa_cons (pe_lst (pa_cons (pv 8) (pa_cons (pe_op op_sub (pv 4) (pv 8)) pa_nil))) pa_nil)))))))) pss_nil)
    (Evl.pss_cut (ps_if (PW.pt (pw_and (pt_cmpR op_eq (pv 6) pe_int (nomark _)) (pw_and1 (pt_cmpR op_lt (pe_callB call_lenK (by rfl) T.g_len (by decide +kernel) (pa_cons (pv 1) pa_nil)) pe_int (nomark _))))) (pss_one (ps_ret (pe_tup (pa_cons (pe_lst pa_nil) (pa_cons (pe_lst (pa_cons (pe_cal C_put_shape hr (by omega) tk (pa_cons (pe_tup pa_nil) (pa_cons pe_int pa_nil))) pa_nil)) (pa_cons (pe_lst (pa_cons (pe_cal C_put_shape hr (by omega) tk (pa_cons (pe_tup pa_nil) (pa_cons pe_int pa_nil))) pa_nil)) (pa_cons (pe_lst (pa_cons pe_int pa_nil)) pa_nil))))))) pss_nil)
    (Evl.pss_cut (ps_if (PW.pt (pw_and (pt_cmpR op_lt (pv 6) pe_int (nomark _)) (pw_and1 (pt_cmpR op_lt (pv 4) pe_int (nomark _))))) (pss_cons (ps_set (i := 9) sc__law_deed.nd rfl (Or.inl rfl) (pe_cal C__law_draw hr (by omega) tk (pa_cons (pv 0) (pa_cons (pe_op op_add (pv 4) pe_int) pa_nil))))
    (pss_one (ps_ret (pe_tup (pa_cons (pe_lst (pa_cons (pv 2) pa_nil)) (pa_cons (pe_lst (pa_cons (pe_cal C_put_shape hr (by omega) tk (pa_cons (pv 3) (pa_cons (pv 9) pa_nil))) pa_nil)) (pa_cons (pe_lst (pa_cons (pe_cal C_put_shape hr (by omega) tk (pa_cons (pv 3) (pa_cons (pv 9) pa_nil))) pa_nil)) (pa_cons (pe_lst (pa_cons (pe_op op_add (pv 4) pe_int) pa_nil)) pa_nil)))))))) pss_nil)
    (pss_cons (ps_set (i := 9) sc__law_deed.nd rfl (Or.inl rfl) (pe_cal C__law_draw hr (by omega) tk (pa_cons (pv 0) (pa_cons (pv 4) pa_nil))))
    (pss_one (ps_ret (pe_tup (pa_cons (pe_lst (pa_cons (pv 2) pa_nil)) (pa_cons (pe_lst (pa_cons (pe_cal C_taken_shape hr (by omega) tk (pa_cons (pv 3) (pa_cons (pv 9) pa_nil))) pa_nil)) (pa_cons (pe_lst (pa_cons (pe_cal C_taken_shape hr (by omega) tk (pa_cons (pv 3) (pa_cons (pv 9) pa_nil))) pa_nil)) (pa_cons (pe_lst (pa_cons (pe_op op_sub (pv 4) pe_int) pa_nil)) pa_nil)))))))))))))))), ?_⟩
  refine i_start [some _, some _, none, none, none, none, none, none, none, none] (by rfl) ?_
  try dsimp only [cxOf]
  walk_at "rd"
  refine i_lenL (SqL.of hh) ?_
  walk_at "rd"
  refine ⟨fd, _, m, xs, rfl, hf, hF, by omega, by omega, by omega, fun g0 ys g00 g01 hy => ?_⟩
  generalize eH1 : L2.upd H fd _ = H1
  have x1 : SameX fd H H1 := by rw [← eH1]; exact SameX.upd
  have f1 : H1 fd = some (.lst ys) := by rw [← eH1]; exact upd_same
  have hh1 : H1 hl = some (.lst hs) := x1 _ _ nhf hh
  have hL1 : HL H1 hs ss := hL.mono (SameX.tups x1 hf)
  obtain ⟨at', rfl⟩ : ∃ a : Nat, g0 = (a : Int) := ⟨g0.toNat, by omega⟩
  obtain ⟨v1, s1, ev1, es1, ⟨p1, sv1, rfl, hp1, hs1, b1, w1⟩⟩ := hL1.at_ at' (by omega)
  walk_at "rd"
  refine i_ixL (SqL.of hh1) (atI_nat ev1) ?_
  walk_at "rd"
  refine ⟨p1, _, rfl, SqT.of hp1, rfl, ?_⟩
  walk_at "rd"
  refine i_lenL (SqL.of hh1) ?_
  walk_at "rd"
  refine ⟨fd, _, m + 1, ys, rfl, f1, hy, by omega, by omega, by omega, fun g2 zs g20 g21 hz => ?_⟩
  generalize eH2 : L2.upd H1 fd _ = H2
  have x2 : SameX fd H1 H2 := by rw [← eH2]; exact SameX.upd
  have f2 : H2 fd = some (.lst zs) := by rw [← eH2]; exact upd_same
  obtain ⟨ot, rfl⟩ : ∃ a : Nat, g2 = (a : Int) := ⟨g2.toNat, by omega⟩
  walk_at "rd"
  refine ⟨fd, 5, m + 2, zs, rfl, f2, hz, by decide, by decide, by omega, fun way us g30 g31 hu3 => ?_⟩
  generalize eH3 : L2.upd H2 fd _ = H3
  have x3 : SameX fd H2 H3 := by rw [← eH3]; exact SameX.upd
  have f3 : H3 fd = some (.lst us) := by rw [← eH3]; exact upd_same
  have X3 : SameX fd H H3 := (x1.trans x2).trans x3
  have hh3 : H3 hl = some (.lst hs) := X3 _ _ nhf hh
  have T13 : Tups H1 H3 := fun a xs e => SameX.tups x3 f2 a xs (SameX.tups x2 f1 a xs e)
  have hL3 : HL H3 hs ss := hL1.mono T13
  have hs3 : Shp H3 sv1 s1 := hs1.mono T13
  obtain ⟨v2, s2, ev2, es2, ⟨p2, sv2, rfl, hp2, hs2, b2, w2⟩⟩ := hL3.at_ ot (by omega)
  -- what the last row leaves
  have fin : ∀ (gs : List Int) (ms as : List V) (os : List (Option Sh)) (g m1 a1 w1 p : Addr) (H4 H8 H9 : Hp), SameX fd H H4 → Same H4 H8 → H8 g = some (.lst (gs.map V.int)) → H8 m1 = some (.lst ms) → H8 a1 = some (.lst as) →
      H8 w1 = some (.lst (os.map fun o => V.int (owid o : Nat))) → ML H8 ms os → ML H8 as os → (∀ o ∈ os, obal o ∧ owid o ≤ 90) → os.length ≤ 2 → L2.upd H8 p (.tup [.ref g, .ref m1, .ref a1, .ref w1]) = H9 → H8 p = none → Q (.ref p) H9 := by
    intro gs ms as os g m1 a1 w1 p H4 H8 H9 sx sa k1 k2 k3 k4 k5 k6 k7 k8 e9 hp
    obtain ⟨s9, e9'⟩ := laid e9 hp
    exact q p g m1 a1 w1 gs ms as os H9 (sx.trans (SameX.of (sa.trans s9))) e9' (s9 _ _ k1) (s9 _ _ k2) (s9 _ _ k3) (s9 _ _ k4) (k5.mono (Same.tups s9)) (k6.mono (Same.tups s9)) k7 k8
  refine i_cut (fun s5 h5 => s5 = [some (V.ref fd), some (.ref hl), some (.int (at' : Nat)), some sv1, some (.int (wid s1 : Nat)), some (.int (ot : Nat)), some (.int way), none, none, none] ∧ h5 = H3) ?_ ?_
  · walk_at "rd"
    refine i_dec (fun c0 => ?_) (fun c0 => ?_)
    · walk_at "rd"
      refine i_ndec (fun c1 => ?_) (fun c1 => ?_)
      · walk_at "rd"
        refine i_ixL (SqL.of hh3) (atI_nat ev2) ?_
        walk_at "rd"
        refine i_ixT (SqT.of hp2) rfl ?_
        walk_at "rd"
        refine i_dec (fun c2 => ?_) (fun c2 => ?_)
        · walk_at "rd"
          refine i_ixL (SqL.of hh3) (atI_nat ev2) ?_
          walk_at "rd"
          refine i_ixT (SqT.of hp2) rfl ?_
          walk_at "rd"
          refine joined_good hs3 hs2 b1 b2 (by omega) fun v4 H4 t4 m4 => ?_
          walk_at "rd"
          refine ⟨by show 2 ≤ sizeLine; decide, fun l5 hl5 => ?_⟩
          generalize eH5 : L2.upd H4 l5 _ = H5
          obtain ⟨t5, e5⟩ := laid eH5 hl5
          walk_at "rd"
          refine ⟨by show 1 ≤ sizeLine; decide, fun l6 hl6 => ?_⟩
          generalize eH6 : L2.upd H5 l6 _ = H6
          obtain ⟨t6, e6⟩ := laid eH6 hl6
          walk_at "rd"
          have T6 : Same H3 H6 := (t4.trans t5).trans t6
          refine i_ixL (SqL.of (T6 _ _ hh3)) (atI_nat ev2) ?_
          walk_at "rd"
          refine i_ixT (SqT.of (T6 _ _ hp2)) rfl ?_
          walk_at "rd"
          refine joined_good (hs3.mono (Same.tups T6)) (hs2.mono (Same.tups T6)) b1 b2 (by omega) fun v7 H7 t7 m7 => ?_
          walk_at "rd"
          refine ⟨by show 1 ≤ sizeLine; decide, fun l8 hl8 => ?_⟩
          generalize eH8 : L2.upd H7 l8 _ = H8
          obtain ⟨t8, e8⟩ := laid eH8 hl8
          walk_at "rd"
          have T8 : Same H3 H8 := (T6.trans t7).trans t8
          refine i_ixL (SqL.of (T8 _ _ hh3)) (atI_nat ev2) ?_
          walk_at "rd"
          refine i_ixT (SqT.of (T8 _ _ hp2)) rfl ?_
          walk_at "rd"
          refine ⟨by show 1 ≤ sizeLine; decide, fun l9 hl9 => ?_⟩
          generalize eH9 : L2.upd H8 l9 _ = H9
          obtain ⟨t9, e9⟩ := laid eH9 hl9
          walk_at "rd"
          have T9 : Same H3 H9 := T8.trans t9
          obtain ⟨y1, y2, y3, y4⟩ := jn_ok b1 b2
          rw [show ((wid s1 : Nat) : Int) + ((wid s2 : Nat) : Int) = ((wid (jn s1 s2) : Nat) : Int) by rw [y2]; omega] at e9
          refine ⟨by show 4 ≤ sizeLine; decide, fun p10 hp10 => ?_⟩
          generalize eH10 : L2.upd H9 p10 _ = H10
          walk_at "rd"
          exact fin [at', ot] [v4] [v7] [some (jn s1 s2)] l5 l6 l8 l9 p10 H3 H9 H10 X3 T9 ((((t6.trans t7).trans t8).trans t9) _ _ e5) (((t7.trans t8).trans t9) _ _ e6) (t9 _ _ e8) e9
            (.cons (m4.mono (Same.tups (((((t5.trans t6).trans t7).trans t8).trans t9)))) .nil) (.cons (m7.mono (Same.tups (t8.trans t9))) .nil) (fun o ho => by rw [List.mem_singleton] at ho; subst ho; exact ⟨y1, by simp only [owid]; omega⟩) (by simp) eH10 hp10
        · walk_at "rd"
          exact ⟨rfl, rfl⟩
      · walk_at "rd"
        exact ⟨rfl, rfl⟩
    · walk_at "rd"
      exact ⟨rfl, rfl⟩
  · rintro s5 h5 ⟨rfl, rfl⟩
    walk_at "rd"
    refine i_cut (fun s5 h6 => s5 = [some (V.ref fd), some (.ref hl), some (.int (at' : Nat)), some sv1, some (.int (wid s1 : Nat)), some (.int (ot : Nat)), some (.int way), none, none, none] ∧ h6 = h5) ?_ ?_
    · walk_at "rd"
      refine i_dec (fun c0 => ?_) (fun c0 => ?_)
      · walk_at "rd"
        refine i_lenL (SqL.of hh3) ?_
        walk_at "rd"
        refine i_dec (fun c1 => ?_) (fun c1 => ?_)
        · walk_at "rd"
          refine ⟨fd, _, m + 3, us, rfl, f3, hu3, by omega, by omega, by omega, fun g5 vs5 g50 g51 hv5 => ?_⟩
          generalize eH4 : L2.upd h5 fd _ = H4
          have x4 : SameX fd h5 H4 := by rw [← eH4]; exact SameX.upd
          obtain ⟨k, rfl⟩ : ∃ a : Nat, g5 = (a : Int) := ⟨g5.toNat, by omega⟩
          have hs4 := hs3.mono (SameX.tups x4 f3)
          obtain ⟨o1, o2, o3, o4, o5, o6⟩ := ct_ok s1 k b1 (by omega)
          walk_at "rd"
          refine ⟨by show 1 ≤ sizeLine; decide, fun l5 hl5 => ?_⟩
          generalize eH5 : L2.upd H4 l5 _ = H5
          obtain ⟨t5, e5⟩ := laid eH5 hl5
          walk_at "rd"
          refine cut_good (hs4.mono (Same.tups t5)) b1 (by omega) (by omega) fun p6 u6 x6 H6 t6 e6 mu6 mx6 => ?_
          walk_at "rd"
          refine ⟨p6, [u6, x6], rfl, .inr (SqT.of e6), fun l7 hl7 => ?_⟩
          generalize eH7 : L2.upd H6 l7 _ = H7
          obtain ⟨t7, e7⟩ := laid eH7 hl7
          have T7 : Same H4 H7 := (t5.trans t6).trans t7
          walk_at "rd"
          refine cut_good (hs4.mono (Same.tups T7)) b1 (by omega) (by omega) fun p8 u8 x8 H8 t8 e8 mu8 mx8 => ?_
          walk_at "rd"
          refine ⟨p8, [u8, x8], rfl, .inr (SqT.of e8), fun l9 hl9 => ?_⟩
          generalize eH9 : L2.upd H8 l9 _ = H9
          obtain ⟨t9, e9⟩ := laid eH9 hl9
          walk_at "rd"
          refine ⟨by show 2 ≤ sizeLine; decide, fun l10 hl10 => ?_⟩
          generalize eH10 : L2.upd H9 l10 _ = H10
          obtain ⟨t10, e10⟩ := laid eH10 hl10
          walk_at "rd"
          rw [show ((k : Nat) : Int) = ((owid (ct s1 k).1 : Nat) : Int) by rw [o3], show ((wid s1 : Nat) : Int) - ((owid (ct s1 k).1 : Nat) : Int) = ((owid (ct s1 k).2 : Nat) : Int) by rw [o3, o4]; omega] at e10
          refine ⟨by show 4 ≤ sizeLine; decide, fun p11 hp11 => ?_⟩
          generalize eH11 : L2.upd H10 p11 _ = H11
          walk_at "rd"
          exact fin [at'] [u6, x6] [u8, x8] [(ct s1 k).1, (ct s1 k).2] l5 l7 l9 l10 p11 H4 H10 H11 (X3.trans x4) (((T7.trans t8).trans t9).trans t10) (((((t6.trans t7).trans t8).trans t9).trans t10) _ _ e5) (((t8.trans t9).trans t10) _ _ e7) (t10 _ _ e9) e10
            (.cons (mu6.mono (Same.tups (((t7.trans t8).trans t9).trans t10))) (.cons (mx6.mono (Same.tups (((t7.trans t8).trans t9).trans t10))) .nil)) (.cons (mu8.mono (Same.tups (t9.trans t10))) (.cons (mx8.mono (Same.tups (t9.trans t10))) .nil))
            (fun o ho => by simp only [List.mem_cons, List.not_mem_nil, or_false] at ho; rcases ho with rfl | rfl; exact ⟨o1, by omega⟩; exact ⟨o2, by omega⟩) (by simp) eH11 hp11
        · walk_at "rd"
          exact ⟨rfl, rfl⟩
      · walk_at "rd"
        exact ⟨rfl, rfl⟩
    · rintro s5 h6 ⟨rfl, rfl⟩
      walk_at "rd"
      refine i_cut (fun s5 h7 => s5 = [some (V.ref fd), some (.ref hl), some (.int (at' : Nat)), some sv1, some (.int (wid s1 : Nat)), some (.int (ot : Nat)), some (.int way), none, none, none] ∧ h7 = h6) ?_ ?_
      · walk_at "rd"
        refine i_dec (fun c0 => ?_) (fun c0 => ?_)
        · walk_at "rd"
          refine i_lenL (SqL.of hh3) ?_
          walk_at "rd"
          refine i_dec (fun c1 => ?_) (fun c1 => ?_)
          · walk_at "rd"
            refine ⟨Nat.zero_le _, fun l4 hl4 => ?_⟩
            generalize eH4 : L2.upd h6 l4 _ = H4
            obtain ⟨t4, e4⟩ := laid eH4 hl4
            walk_at "rd"
            refine ⟨Nat.zero_le _, fun l5 hl5 => ?_⟩
            generalize eH5 : L2.upd H4 l5 _ = H5
            obtain ⟨t5, e5⟩ := laid eH5 hl5
            walk_at "rd"
            refine ⟨.ref l5, none, 0, rfl, ⟨l5, rfl, e5⟩, trivial, by decide, by decide, by decide, fun v6 H6 t6 m6 => ?_⟩
            walk_at "rd"
            refine ⟨by show 1 ≤ sizeLine; decide, fun l7 hl7 => ?_⟩
            generalize eH7 : L2.upd H6 l7 _ = H7
            obtain ⟨t7, e7⟩ := laid eH7 hl7
            walk_at "rd"
            refine ⟨Nat.zero_le _, fun l8 hl8 => ?_⟩
            generalize eH8 : L2.upd H7 l8 _ = H8
            obtain ⟨t8, e8⟩ := laid eH8 hl8
            walk_at "rd"
            refine ⟨.ref l8, none, 0, rfl, ⟨l8, rfl, e8⟩, trivial, by decide, by decide, by decide, fun v9 H9 t9 m9 => ?_⟩
            walk_at "rd"
            refine ⟨by show 1 ≤ sizeLine; decide, fun l10 hl10 => ?_⟩
            generalize eH10 : L2.upd H9 l10 _ = H10
            obtain ⟨t10, e10⟩ := laid eH10 hl10
            walk_at "rd"
            refine ⟨by show 1 ≤ sizeLine; decide, fun l11 hl11 => ?_⟩
            generalize eH11 : L2.upd H10 l11 _ = H11
            obtain ⟨t11, e11⟩ := laid eH11 hl11
            walk_at "rd"
            refine ⟨by show 4 ≤ sizeLine; decide, fun p12 hp12 => ?_⟩
            generalize eH12 : L2.upd H11 p12 _ = H12
            walk_at "rd"
            have T7 := (t8.trans t9).trans (t10.trans t11)
            exact fin [] [v6] [v9] [some .one] l4 l7 l10 l11 p12 h6 H11 H12 X3 (((t4.trans t5).trans (t6.trans t7)).trans T7) ((((t5.trans t6).trans t7).trans T7) _ _ e4) (T7 _ _ e7) (t11 _ _ e10) e11
              (.cons (m6.mono (Same.tups (t7.trans T7))) .nil) (.cons (m9.mono (Same.tups (t10.trans t11))) .nil) (fun o ho => by rw [List.mem_singleton] at ho; subst ho; exact ⟨trivial, by decide⟩) (by simp) eH12 hp12
          · walk_at "rd"
            exact ⟨rfl, rfl⟩
        · walk_at "rd"
          exact ⟨rfl, rfl⟩
      · rintro s5 h7 ⟨rfl, rfl⟩
        walk_at "rd"
        refine i_cut (fun s5 h8 => s5 = [some (V.ref fd), some (.ref hl), some (.int (at' : Nat)), some sv1, some (.int (wid s1 : Nat)), some (.int (ot : Nat)), some (.int way), none, none, none] ∧ h8 = h7) ?_ ?_
        · walk_at "rd"
          refine i_dec (fun c0 => ?_) (fun c0 => ?_)
          · walk_at "rd"
            refine i_dec (fun c1 => ?_) (fun c1 => ?_)
            · walk_at "rd"
              refine ⟨fd, _, m + 3, us, rfl, f3, hu3, by omega, by omega, by omega, fun g5 vs5 g50 g51 hv5 => ?_⟩
              generalize eH4 : L2.upd h7 fd _ = H4
              have x4 : SameX fd h7 H4 := by rw [← eH4]; exact SameX.upd
              obtain ⟨k, rfl⟩ : ∃ a : Nat, g5 = (a : Int) := ⟨g5.toNat, by omega⟩
              have hs4 := hs3.mono (SameX.tups x4 f3)
              have h20 := hei_20 b1 (by omega)
              obtain ⟨z1, z2, z3⟩ := owt_ok (o := some s1) k b1
              walk_at "rd"
              refine ⟨by show 1 ≤ sizeLine; decide, fun l5 hl5 => ?_⟩
              generalize eH5 : L2.upd H4 l5 _ = H5
              obtain ⟨t5, e5⟩ := laid eH5 hl5
              walk_at "rd"
              refine ⟨sv1, some s1, k, rfl, hs4.mono (Same.tups t5), b1, by simp only [ohei]; omega, by simp only [owid]; omega, by simp only [owid]; omega, fun v6 H6 t6 m6 => ?_⟩
              walk_at "rd"
              refine ⟨by show 1 ≤ sizeLine; decide, fun l7 hl7 => ?_⟩
              generalize eH7 : L2.upd H6 l7 _ = H7
              obtain ⟨t7, e7⟩ := laid eH7 hl7
              walk_at "rd"
              have T7 : Same H4 H7 := (t5.trans t6).trans t7
              refine ⟨sv1, some s1, k, rfl, hs4.mono (Same.tups T7), b1, by simp only [ohei]; omega, by simp only [owid]; omega, by simp only [owid]; omega, fun v8 H8 t8 m8 => ?_⟩
              walk_at "rd"
              refine ⟨by show 1 ≤ sizeLine; decide, fun l9 hl9 => ?_⟩
              generalize eH9 : L2.upd H8 l9 _ = H9
              obtain ⟨t9, e9⟩ := laid eH9 hl9
              walk_at "rd"
              refine ⟨by show 1 ≤ sizeLine; decide, fun l10 hl10 => ?_⟩
              generalize eH10 : L2.upd H9 l10 _ = H10
              obtain ⟨t10, e10⟩ := laid eH10 hl10
              walk_at "rd"
              rw [show ((wid s1 : Nat) : Int) + 1 = ((owid (some (wt s1 k)) : Nat) : Int) by have z2' : wid (wt s1 k) = wid s1 + 1 := z2; simp only [owid]; omega] at e10
              refine ⟨by show 4 ≤ sizeLine; decide, fun p11 hp11 => ?_⟩
              generalize eH11 : L2.upd H10 p11 _ = H11
              walk_at "rd"
              exact fin [at'] [v6] [v8] [some (wt s1 k)] l5 l7 l9 l10 p11 H4 H10 H11 (X3.trans x4) ((T7.trans t8).trans (t9.trans t10)) (((((t6.trans t7).trans t8).trans t9).trans t10) _ _ e5) (((t8.trans t9).trans t10) _ _ e7) (t10 _ _ e9) e10
                (.cons (OShp.mono (o := some (wt s1 k)) m6 (Same.tups (((t7.trans t8).trans t9).trans t10))) .nil) (.cons (OShp.mono (o := some (wt s1 k)) m8 (Same.tups (t9.trans t10))) .nil) (fun o ho => by rw [List.mem_singleton] at ho; subst ho; exact ⟨z1, by have z2' : wid (wt s1 k) = wid s1 + 1 := z2; simp only [owid]; omega⟩) (by simp) eH11 hp11
            · walk_at "rd"
              exact ⟨rfl, rfl⟩
          · walk_at "rd"
            exact ⟨rfl, rfl⟩
        · rintro s5 h8 ⟨rfl, rfl⟩
          walk_at "rd"
          refine ⟨fd, _, m + 3, us, rfl, f3, hu3, by have := wid_pos s1; omega, by omega, by omega, fun g5 vs5 g50 g51 hv5 => ?_⟩
          generalize eH4 : L2.upd h8 fd _ = H4
          have x4 : SameX fd h8 H4 := by rw [← eH4]; exact SameX.upd
          obtain ⟨k, rfl⟩ : ∃ a : Nat, g5 = (a : Int) := ⟨g5.toNat, by omega⟩
          have hs4 := hs3.mono (SameX.tups x4 f3)
          have h20 := hei_20 b1 (by omega)
          have wok : obal (wo s1 k) ∧ owid (wo s1 k) = wid s1 - 1 := by
            rcases wo_ok s1 k b1 with ⟨rfl, e⟩ | ⟨x, e, g1, g2, _, _⟩
            · rw [e]; exact ⟨trivial, rfl⟩
            · rw [e]; exact ⟨g1, g2⟩
          have wp := wid_pos s1
          walk_at "rd"
          refine ⟨by show 1 ≤ sizeLine; decide, fun l5 hl5 => ?_⟩
          generalize eH5 : L2.upd H4 l5 _ = H5
          obtain ⟨t5, e5⟩ := laid eH5 hl5
          walk_at "rd"
          refine ⟨sv1, s1, k, rfl, hs4.mono (Same.tups t5), b1, by omega, by omega, by omega, fun v6 H6 t6 m6 => ?_⟩
          walk_at "rd"
          refine ⟨by show 1 ≤ sizeLine; decide, fun l7 hl7 => ?_⟩
          generalize eH7 : L2.upd H6 l7 _ = H7
          obtain ⟨t7, e7⟩ := laid eH7 hl7
          walk_at "rd"
          have T7 : Same H4 H7 := (t5.trans t6).trans t7
          refine ⟨sv1, s1, k, rfl, hs4.mono (Same.tups T7), b1, by omega, by omega, by omega, fun v8 H8 t8 m8 => ?_⟩
          walk_at "rd"
          refine ⟨by show 1 ≤ sizeLine; decide, fun l9 hl9 => ?_⟩
          generalize eH9 : L2.upd H8 l9 _ = H9
          obtain ⟨t9, e9⟩ := laid eH9 hl9
          walk_at "rd"
          refine ⟨by show 1 ≤ sizeLine; decide, fun l10 hl10 => ?_⟩
          generalize eH10 : L2.upd H9 l10 _ = H10
          obtain ⟨t10, e10⟩ := laid eH10 hl10
          walk_at "rd"
          rw [show ((wid s1 : Nat) : Int) - 1 = ((owid (wo s1 k) : Nat) : Int) by rw [wok.2]; omega] at e10
          refine ⟨by show 4 ≤ sizeLine; decide, fun p11 hp11 => ?_⟩
          generalize eH11 : L2.upd H10 p11 _ = H11
          walk_at "rd"
          exact fin [at'] [v6] [v8] [wo s1 k] l5 l7 l9 l10 p11 H4 H10 H11 (X3.trans x4) ((T7.trans t8).trans (t9.trans t10)) (((((t6.trans t7).trans t8).trans t9).trans t10) _ _ e5) (((t8.trans t9).trans t10) _ _ e7) (t10 _ _ e9) e10
            (.cons (OShp.mono (o := wo s1 k) m6 (Same.tups (((t7.trans t8).trans t9).trans t10))) .nil) (.cons (OShp.mono (o := wo s1 k) m8 (Same.tups (t9.trans t10))) .nil) (fun o ho => by rw [List.mem_singleton] at ho; subst ho; exact ⟨wok.1, by rw [wok.2]; omega⟩) (by simp) eH11 hp11
theorem c_law_deed (T : Txt K mg) : Cal P w K mg base 148 "_law_deed" spDeed := T.d__law_deed.cal sc__law_deed (fun vs H Q E h => by obtain ⟨_, _, _, _, _, _, rfl, _⟩ := h; rfl)
  (b_law_deed T (c_draw T) (c_joined_shapes T) (c_cut_shape T) (c_put_shape T) (c_taken_shape T))
end

end K62

set_option maxHeartbeats 4000000
namespace K62
open PySem PySem.Spec PyProof.Rows L2 KB KM
section
variable {P : Program} {w : World} {K : PySem.W.Frag} {mg : Str → Option Value} {base : Heap}
/-! ### _law_all_joined -/
def spAllJoined : Sp := fun vs H Q _ => ∃ (hl : Addr) (hs : List V) (ss : List Sh), vs = [.ref hl] ∧ H hl = some (.lst hs) ∧ HL H hs ss ∧ hs ≠ [] ∧ hs.length ≤ 200 ∧ ∀ H', Q (.bl true) H'
theorem drop_at {xs : List V} {i : Nat} {x : V} (h : (xs.drop 1)[i]? = some x) : xs[i + 1]? = some x := by
  rw [List.getElem?_drop] at h
  rw [Nat.add_comm]
  exact h
theorem rev_at {xs : List V} {i : Nat} {x : V} (h : ((xs.drop 1).reverse)[i]? = some x) : i + 1 < xs.length ∧ xs[xs.length - 1 - i]? = some x := by
  have hl := (List.getElem?_eq_some_iff.mp h).1
  rw [List.length_reverse, List.length_drop] at hl
  rw [List.getElem?_reverse (by rw [List.length_drop]; exact hl), List.length_drop, List.getElem?_drop] at h
  refine ⟨by omega, ?_⟩
  rw [← h]
  congr 1
  omega
abbrev s__law_all_joined : Stmt := (top 55)
theorem sc__law_all_joined : FnScope ["held", "shape", "width", "other", "more", "parts"] ["held"] (defScope s__law_all_joined) := ⟨rfl, rfl, rfl, by decide +kernel, rfl, by decide +kernel, by decide +kernel⟩
theorem b_law_all_joined (T : Txt K mg) (C_joined_shapes : Cal P w K mg base 106 "joined_shapes" (spJoined K)) (C_cut_shape : Cal P w K mg base 147 "cut_shape" (spCutShape K)) (C__law_held : Cal P w K mg base 44 "_law_held" spHeld) : Body P w K mg base (147) ["held", "shape", "width", "other", "more", "parts"] "_law_all_joined" (defScope s__law_all_joined) (defBody s__law_all_joined) spAllJoined := by
  intro f cdv A outer s H vs Q E hr h
  obtain ⟨hl, hs, ss, rfl, hh, hL, hne, h200, q⟩ := h
  have hpos : 0 < hs.length := List.length_pos_iff.mpr hne
  have hlen := hL.len
  have h90 := hL.w90
  have ssne : ss ≠ [] := fun z => by rw [z] at hlen; simp at hlen; exact hne hlen
  obtain ⟨v0, s0, ev0, es0, ⟨p0, sv0, rfl, hp0, hs0, b0, w0⟩⟩ := hL.at_ 0 hpos
  have hu := hu_of hr
  have tk : Takes (cxOf (L2.CX P w) P w K mg base ["held", "shape", "width", "other", "more", "parts"] "_law_all_joined" (defScope s__law_all_joined) f cdv A outer s H E) (fun cls d _ H => E cls d H) := takes_of rfl rfl rfl rfl
  refine ⟨_, (pss_cons (ps_asg (pe_ix ix_list (pv 0) pe_int (fun _ _ => rfl)) (pg_tup (n := 2) (by rfl) (pgs_cons (pg_name (i := 1) sc__law_all_joined.nd rfl (Or.inl rfl)) (pgs_cons (pg_name (i := 2) sc__law_all_joined.nd rfl (Or.inl rfl)) pgs_nil))))
    (pss_cons (ps_for (passes_of rfl) rfl (pi_list (pe_slice sl_list (pv 0) (po_some pe_int) po_none)) (pg_tup (n := 2) (by rfl) (pgs_cons (pg_name (i := 3) sc__law_all_joined.nd rfl (Or.inl rfl)) (pgs_cons (pg_name (i := 4) sc__law_all_joined.nd rfl (Or.inl rfl)) pgs_nil))) (pss_cons (ps_par (i := 1) (j := 2) (by rfl) sc__law_all_joined.nd rfl rfl (by decide) rfl rfl (pa_cons (pe_cal C_joined_shapes hr (by omega) tk (pa_cons (pv 1) (pa_cons (pv 3) pa_nil))) (pa_cons (pe_op op_add (pv 2) (pv 4)) pa_nil)) (by rfl))
    (pss_one (ps_if (pt_not (pt_val (pe_cal C__law_held hr (by omega) tk (pa_cons (pv 1) (pa_cons (pv 2) pa_nil))))) (pss_one (ps_ret pe_bl)) pss_nil))))
    (pss_cons (ps_for (passes_of rfl) rfl (pi_list (pe_rev1 (pv 0))) (pg_tup (n := 2) (by rfl) (pgs_cons (pg_name (i := 3) sc__law_all_joined.nd rfl (Or.inl rfl)) (pgs_cons (pg_name (i := 4) sc__law_all_joined.nd rfl (Or.inl rfl)) pgs_nil))) (pss_cons (ps_set (i := 5) sc__law_all_joined.nd rfl (Or.inl rfl) (pe_cal C_cut_shape hr (by omega) tk (pa_cons (pv 1) (pa_cons (pe_op op_sub (pv 2) (pv 4)) pa_nil))))
    (pss_cons (ps_if (PW.pt (pw_or (pt_not (pt_val (pe_cal C__law_held hr (by omega) tk (pa_cons (pe_ix ix_tup (pv 5) pe_int (fun _ _ => rfl)) (pa_cons (pe_op op_sub (pv 2) (pv 4)) pa_nil))))) (pw_or1 (pt_not (pt_val (pe_cal C__law_held hr (by omega) tk (pa_cons (pe_ix ix_tup (pv 5) pe_int (fun _ _ => rfl)) (pa_cons (pv 4) pa_nil)))))))) (pss_one (ps_ret pe_bl)) pss_nil)
    (pss_one (ps_par (i := 1) (j := 2) (by rfl) sc__law_all_joined.nd rfl rfl (by decide) rfl rfl (pa_cons (pe_ix ix_tup (pv 5) pe_int (fun _ _ => rfl)) (pa_cons (pe_op op_sub (pv 2) (pv 4)) pa_nil)) (by rfl))))))
    (pss_one (ps_ret pe_bl))))), ?_⟩
  refine i_start [some _, none, none, none, none, none] (by rfl) ?_
  try dsimp only [cxOf]
  walk_at "rd"
  refine i_ixL (SqL.of hh) (atI_nat (j := 0) ev0) ?_
  walk_at "rd"
  refine ⟨p0, _, rfl, SqT.of hp0, rfl, ?_⟩
  walk_at "rd"
  refine ⟨hl, _, rfl, SqL.of hh, fun l1 hl1 => ?_⟩
  rw [show cutV hs (some 1) none = hs.drop 1 by
    unfold cutV
    have e := HT.sIx_nat hs.length 0 1
    rw [show ((1 : Nat) : Int) = 1 from rfl] at e
    rw [e, HT.sIx_none, Nat.min_eq_left (by omega), List.take_of_length_le (by rw [List.length_drop]; omega)]]
  generalize eH1 : L2.upd H l1 _ = H1
  obtain ⟨t1, e1⟩ := laid eH1 hl1
  refine ⟨l1, rfl, ⟨_, SqL.of e1⟩, for_list (xs := hs.drop 1) (fun i s h => ∃ v t b3 b4, s = [some (.ref hl), some v, some (.int (wid t : Nat)), b3, b4, none] ∧ Same H1 h ∧ Shp h v t ∧ bal t ∧ wid t = sw ss (i + 1))
    ⟨sv0, s0, none, none, rfl, Same.refl _, hs0.mono (Same.tups t1), b0, by rw [sw_succ es0]; simp [sw]⟩ ?_ ?_ ?_⟩
  · rintro i s h _ ⟨v, t, b3, b4, rfl, sa, _⟩
    exact SqL.of (sa _ _ e1)
  · rintro i x s h hi ⟨v, t, b3, b4, rfl, sa, ht, bt, hw⟩
    have hi2 := drop_at hi
    have il : i + 1 < hs.length := (List.getElem?_eq_some_iff.mp hi2).1
    obtain ⟨v2, s2, ev2, es2, a2⟩ := hL.at_ (i + 1) il
    rw [ev2] at hi2
    cases hi2
    obtain ⟨p2, sv2, rfl, hp2, hs2, b2, w2⟩ := a2.mono (Same.tups (t1.trans sa))
    have hsw := sw_succ es2
    have hle := sw_le h90 (i + 1 + 1)
    obtain ⟨y1, y2, y3, y4⟩ := jn_ok bt b2
    walk_at "rd"
    refine ⟨p2, _, rfl, SqT.of hp2, rfl, ?_⟩
    walk_at "rd"
    refine joined_good ht hs2 bt b2 (by omega) fun v3 H3 t3 m3 => ?_
    walk_at "rd"
    rw [show ((wid t : Nat) : Int) + ((wid s2 : Nat) : Int) = ((wid (jn t s2) : Nat) : Int) by rw [y2]; omega]
    refine ⟨v3, some (jn t s2), wid (jn t s2), rfl, m3, y1, rfl, by omega, fun H4 t4 => ?_⟩
    walk_at "rd"
    refine i_F ?_
    walk_at "rd"
    exact ⟨v3, jn t s2, _, _, rfl, (sa.trans t3).trans t4, m3.mono (Same.tups t4), y1, by omega⟩
  · rintro s h ⟨v, t, b3, b4, rfl, sa, ht, bt, hw⟩
    rw [List.length_drop, show hs.length - 1 + 1 = hs.length by omega] at hw
    walk_at "rd"
    refine ⟨hl, hs, rfl, SqL.of ((t1.trans sa) _ _ hh), hne, fun l2 hl2 => ?_⟩
    generalize eH2 : L2.upd h l2 _ = H2
    obtain ⟨t2, e2⟩ := laid eH2 hl2
    walk_at "rd"
    refine ⟨l2, rfl, ⟨_, SqL.of e2⟩, for_list (xs := (hs.drop 1).reverse) (fun i s h => ∃ v t b3 b4 b5, s = [some (.ref hl), some v, some (.int (wid t : Nat)), b3, b4, b5] ∧ Same H2 h ∧ Shp h v t ∧ bal t ∧ wid t = sw ss (hs.length - i))
      ⟨v, t, _, _, _, rfl, Same.refl _, ht.mono (Same.tups t2), bt, hw⟩ ?_ ?_ ?_⟩
    · rintro i s h' _ ⟨v, t, b3, b4, b5, rfl, sb, _⟩
      exact SqL.of (sb _ _ e2)
    · rintro i x s h' hi ⟨v, t, b3, b4, b5, rfl, sb, ht, bt, hw⟩
      obtain ⟨il, hi2⟩ := rev_at hi
      obtain ⟨v2, s2, ev2, es2, a2⟩ := hL.at_ (hs.length - 1 - i) (by omega)
      rw [ev2] at hi2
      cases hi2
      obtain ⟨p2, sv2, rfl, hp2, hs2, b2, w2⟩ := a2.mono (Same.tups (((t1.trans sa).trans t2).trans sb))
      have hsw := sw_succ es2
      rw [show hs.length - 1 - i + 1 = hs.length - i by omega] at hsw
      have hle := sw_le h90 (hs.length - i)
      have hp := sw_pos (n := hs.length - 1 - i) ssne (by omega)
      have w0 := wid_pos s2
      obtain ⟨o1, o2, o3, o4, o5, o6⟩ := ct_ok t (sw ss (hs.length - 1 - i)) bt (by omega)
      walk_at "rd"
      refine ⟨p2, _, rfl, SqT.of hp2, rfl, ?_⟩
      walk_at "rd"
      rw [show ((wid t : Nat) : Int) - ((wid s2 : Nat) : Int) = ((sw ss (hs.length - 1 - i) : Nat) : Int) by omega]
      refine cut_good ht bt (by omega) (by omega) fun p3 u3 x3 H3 t3 e3 mu3 mx3 => ?_
      walk_at "rd"
      refine i_ixT (SqT.of e3) rfl ?_
      walk_at "rd"
      rw [show ((wid t : Nat) : Int) - ((wid s2 : Nat) : Int) = ((sw ss (hs.length - 1 - i) : Nat) : Int) by omega]
      refine ⟨u3, _, _, rfl, mu3, o1, o3, by omega, fun H4 t4 => ?_⟩
      walk_at "rd"
      refine i_F ?_
      walk_at "rd"
      refine i_ixT (SqT.of (t4 _ _ e3)) rfl ?_
      walk_at "rd"
      refine ⟨x3, _, wid s2, rfl, mx3.mono (Same.tups t4), o2, by omega, by omega, fun H5 t5 => ?_⟩
      walk_at "rd"
      refine i_F ?_
      walk_at "rd"
      refine i_ixT (SqT.of ((t4.trans t5) _ _ e3)) rfl ?_
      walk_at "rd"
      rw [show ((wid t : Nat) : Int) - ((wid s2 : Nat) : Int) = ((sw ss (hs.length - 1 - i) : Nat) : Int) by omega]
      cases eo : (ct t (sw ss (hs.length - 1 - i))).1 with
      | none =>
        rw [eo] at o3
        simp only [owid] at o3
        omega
      | some z =>
        rw [eo] at o3 o1 mu3
        simp only [owid] at o3
        refine ⟨u3, z, _, _, _, by rw [o3]; rfl, ((sb.trans t3).trans t4).trans t5, Shp.mono mu3 (Same.tups (t4.trans t5)), o1, ?_⟩
        rw [o3]
        congr 1
        omega
    · rintro s h' ⟨v, t, b3, b4, b5, rfl, _⟩
      walk_at "rd"
      exact q _
theorem c_law_all_joined (T : Txt K mg) : Cal P w K mg base 148 "_law_all_joined" spAllJoined := T.d__law_all_joined.cal sc__law_all_joined (fun vs H Q E h => by obtain ⟨_, _, _, rfl, _⟩ := h; rfl)
  (b_law_all_joined T (c_joined_shapes T) (c_cut_shape T) (c_law_held T))
end

end K62

set_option maxHeartbeats 4000000
namespace K62
open PySem PySem.Spec PyProof.Rows L2 KB KM
/-! lists of shapes as data -/
theorem os_lay : ∀ os : List (Option Sh), PyData.canLayAll0 (os.map opd) = true
  | [] => rfl
  | o :: os => by simp only [List.map_cons, PyData.canLayAll0, opd_lay, os_lay os, Bool.and_self]
theorem os_depth : ∀ os : List (Option Sh), (∀ o ∈ os, ohei o ≤ 20) → PyData.depthAll (os.map opd) ≤ 30
  | [], _ => by decide
  | o :: os, h => by
    have h1 := os_depth os fun o z => h o (List.mem_cons_of_mem _ z)
    have h2 := h o List.mem_cons_self
    have h3 := opd_depth o
    simp only [List.map_cons, PyData.depthAll]
    omega
theorem os_lay0 (os : List (Option Sh)) : PyData.canLay0 (.list (os.map opd)) = true := by simp only [PyData.canLay0, os_lay]
theorem os_shaped {os : List (Option Sh)} (h : ∀ o ∈ os, ohei o ≤ 20) : SeqAt.shaped (.list (os.map opd)) = true := by
  unfold SeqAt.shaped
  have h1 := os_depth os h
  have d : PyData.depth (.list (os.map opd)) ≤ 64 := by
    simp only [PyData.depth]
    omega
  rw [os_lay0, decide_eq_true d]
  rfl
theorem ML.dp {K : PySem.W.Frag} {H : Hp} {vs : List V} {os : List (Option Sh)} (h : ML H vs os) : DpAll K H vs (os.map opd) := by
  induction h with
  | nil => exact .nil
  | cons a _ ih => exact .cons (opd_dp a) ih
theorem ohei_20 {o : Option Sh} (b : obal o) (h : owid o ≤ 90) : ohei o ≤ 20 := by
  cases o with
  | none => exact Nat.zero_le _
  | some t => exact hei_20 b (by simp only [owid] at h; omega)
/-- a held one as data -/
def hd (s : Sh) : PyData := .tuple [pd s, .int (wid s : Nat)]
theorem HL.dp {K : PySem.W.Frag} {H : Hp} {vs : List V} {ss : List Sh} (h : HL H vs ss) : DpAll K H vs (ss.map hd) := by
  induction h with
  | nil => exact .nil
  | cons a _ ih =>
    obtain ⟨p, sv, rfl, hp, hs, _, _⟩ := a
    exact .cons (.tup (SqT.of hp) (.cons (pd_dp hs) (.cons (.int _) .nil))) ih
theorem hs_lay : ∀ ss : List Sh, PyData.canLayAll0 (ss.map hd) = true
  | [] => rfl
  | s :: ss => by simp only [List.map_cons, hd, PyData.canLayAll0, PyData.canLay0, pd_lay, hs_lay ss, Bool.and_self]
theorem HL.depth {H : Hp} {vs : List V} {ss : List Sh} (h : HL H vs ss) : PyData.depthAll (ss.map hd) ≤ 30 := by
  induction h with
  | nil => decide
  | @cons v s vs ss a _ ih =>
    obtain ⟨p, sv, rfl, hp, hs, b, w⟩ := a
    have := hei_20 b (by omega)
    simp only [List.map_cons, hd, PyData.depthAll, PyData.depth, pd_depth]
    omega
theorem HL.shaped {H : Hp} {vs : List V} {ss : List Sh} (h : HL H vs ss) : SeqAt.shaped (.list (ss.map hd)) = true := by
  unfold SeqAt.shaped
  have h1 := h.depth
  have d : PyData.depth (.list (ss.map hd)) ≤ 64 := by
    simp only [PyData.depth]
    omega
  have l : PyData.canLay0 (.list (ss.map hd)) = true := by simp only [PyData.canLay0, hs_lay]
  rw [l, decide_eq_true d]
  rfl
section
variable {P : Program} {w : World} {K : PySem.W.Frag} {mg : Str → Option Value} {base : Heap}
/-! ### _law_asked_two -/
def spAskedZ (K : PySem.W.Frag) : Sp := fun vs H Q _ => ∃ (a : Addr) (ns : List Int), vs = [.ref a] ∧ SqL K H a (ns.map V.int) ∧ (∀ z ∈ ns, ib z ≤ 1048576) ∧ ns.length ≤ 63 ∧ ∀ H', Q (.bl true) H'
abbrev s__law_asked_two : Stmt := (top 56)
theorem sc__law_asked_two : FnScope ["script", "feed", "held", "turn", "shape", "k", "gone", "made", "again", "widths", "at", "width"] ["script"] (defScope s__law_asked_two) := ⟨rfl, rfl, rfl, by decide +kernel, rfl, by decide +kernel, by decide +kernel⟩
theorem b_asked_two (T : Txt K mg) (C__law_feed : Cal P w K mg base 1 "_law_feed" (spFeed K)) (C__law_draw : Cal P w K mg base 1 "_law_draw" spDraw) (C__law_any_balanced : Cal P w K mg base 24 "_law_any_balanced" spAnyBal)
    (C__law_sizes : Cal P w K mg base 42 "_law_sizes" (spSizes 41)) (C__law_deed : Cal P w K mg base 148 "_law_deed" spDeed) (C__law_held : Cal P w K mg base 44 "_law_held" spHeld) (C__law_all_joined : Cal P w K mg base 148 "_law_all_joined" spAllJoined) :
    Body P w K mg base (148) ["script", "feed", "held", "turn", "shape", "k", "gone", "made", "again", "widths", "at", "width"] "_law_asked_two" (defScope s__law_asked_two) (defBody s__law_asked_two) (spAskedZ K) := by
  intro f cdv A outer s H vs Q E hr h
  obtain ⟨a, ns, rfl, hS, hb, hl63, q⟩ := h
  have line : (1000 : Nat) < sizeLine := by decide
  have hu := hu_of hr
  have tk : Takes (cxOf (L2.CX P w) P w K mg base ["script", "feed", "held", "turn", "shape", "k", "gone", "made", "again", "widths", "at", "width"] "_law_asked_two" (defScope s__law_asked_two) f cdv A outer s H E) (fun cls d _ H => E cls d H) := takes_of rfl rfl rfl rfl
  refine ⟨_, (pss_cons (ps_set (i := 1) sc__law_asked_two.nd rfl (Or.inl rfl) (pe_cal C__law_feed hr (by omega) tk (pa_cons (pv 0) (pa_cons pe_int pa_nil))))
    (pss_cons (ps_set (i := 2) sc__law_asked_two.nd rfl (Or.inr rfl) (pe_lst pa_nil))
    (pss_cons (ps_for (passes_of rfl) rfl (pi_range1 rfl T.g_range (pa_cons (pe_op op_add pe_int (pe_cal C__law_draw hr (by omega) tk (pa_cons (pv 1) (pa_cons pe_int pa_nil)))) pa_nil)) (pg_name (i := 3) sc__law_asked_two.nd rfl (Or.inl rfl)) (pss_cons (ps_set (i := 4) sc__law_asked_two.nd rfl (Or.inl rfl) (pe_cal C__law_any_balanced hr (by omega) tk (pa_cons (pv 1) (pa_cons pe_int pa_nil))))
    (pss_one (ps_expr (pe_bm PySem.F.plainAttrs_list PySem.F.slot_list_append PySem.F.type_list_append mt_append (pv 2) (pa_cons (pe_tup (pa_cons (pv 4) (pa_cons (pe_ix ix_seq (pe_cal C__law_sizes hr (by omega) tk (pa_cons (pv 4) pa_nil)) pe_int (fun _ _ => rfl)) pa_nil))) pa_nil))))))
    (pss_cons (ps_for (passes_of rfl) rfl (pi_range2 rfl T.g_range (pa_cons pe_int (pa_cons (pe_callB (call_max2K rfl) (by rfl) T.g_max (by decide +kernel) (pa_cons pe_int (pa_cons (pe_callB (call_min2K rfl) (by rfl) T.g_min (by decide +kernel) (pa_cons pe_int (pa_cons (pe_callB call_lenK (by rfl) T.g_len (by decide +kernel) (pa_cons (pv 0) pa_nil)) pa_nil))) pa_nil))) pa_nil))) (pg_name (i := 5) sc__law_asked_two.nd rfl (Or.inl rfl)) (pss_cons (ps_asg (pe_cal C__law_deed hr (by omega) tk (pa_cons (pe_cal C__law_feed hr (by omega) tk (pa_cons (pv 0) (pa_cons (pv 5) pa_nil))) (pa_cons (pv 2) pa_nil))) (pg_tup (n := 4) (by rfl) (pgs_cons (pg_name (i := 6) sc__law_asked_two.nd rfl (Or.inr rfl)) (pgs_cons (pg_name (i := 7) sc__law_asked_two.nd rfl (Or.inl rfl)) (pgs_cons (pg_name (i := 8) sc__law_asked_two.nd rfl (Or.inl rfl)) (pgs_cons (pg_name (i := 9) sc__law_asked_two.nd rfl (Or.inl rfl)) pgs_nil))))))
    (pss_cons (ps_if (PW.pt (pw_or (pt_cmpR (op_neD hr.units) (pv 7) (pv 8) (nomark _)) (pw_or1 (pt_cmpR op_ne (pe_callB call_lenK (by rfl) T.g_len (by decide +kernel) (pa_cons (pv 7) pa_nil)) (pe_callB call_lenK (by rfl) T.g_len (by decide +kernel) (pa_cons (pv 9) pa_nil)) (nomark _))))) (pss_one (ps_ret pe_bl)) pss_nil)
    (pss_cons (ps_set (i := 2) sc__law_asked_two.nd rfl (Or.inr rfl) (pe_lc (own := [("at", 10)]) (tt := tTest (tOp (rIn K true) (tVar 10) (tVar 6))) (te := tOp (rIxL K) (tVar 2) (tVar 10)) (g := gName 10) (by rfl) sc__law_asked_two.nd  (pi_range1 rfl T.g_range (pa_cons (pe_callB call_lenK (by rfl) T.g_len (by decide +kernel) (pa_cons (pv 2) pa_nil)) pa_nil)) (blkOk_by (own := [("at", 10)]) (N := ["script", "feed", "held", "turn", "shape", "k", "gone", "made", "again", "widths", "at", "width"]) (sc := defScope s__law_asked_two) (by decide +kernel)) (fun _ _ _ _ _ => pg_name (i := 10) sc__law_asked_two.nd rfl (Or.inl rfl)) (fun _ _ _ _ _ => (pts_one (pt_cmpR op_notIn_seq (pv 10) (pv 6) (by rfl)))) (fun _ _ _ _ _ => (pe_ix ix_list (pv 2) (pv 10) (fun _ _ => rfl)))))
    (pss_cons (ps_for (passes_of rfl) rfl (pi_zip (by rfl) T.g_zip (pa_cons (pv 7) (pa_cons (pv 9) pa_nil))) (pg_tup (n := 2) (by rfl) (pgs_cons (pg_name (i := 4) sc__law_asked_two.nd rfl (Or.inl rfl)) (pgs_cons (pg_name (i := 11) sc__law_asked_two.nd rfl (Or.inl rfl)) pgs_nil))) (pss_cons (ps_if (pt_not (pt_val (pe_cal C__law_held hr (by omega) tk (pa_cons (pv 4) (pa_cons (pv 11) pa_nil))))) (pss_one (ps_ret pe_bl)) pss_nil)
    (pss_one (ps_if (pt_cmpR op_gt (pv 11) pe_int (nomark _)) (pss_one (ps_expr (pe_bm PySem.F.plainAttrs_list PySem.F.slot_list_append PySem.F.type_list_append mt_append (pv 2) (pa_cons (pe_tup (pa_cons (pv 4) (pa_cons (pv 11) pa_nil))) pa_nil)))) pss_nil))))
    (pss_one (ps_if (pt_cmpR (op_eqD hr.units) (pv 2) (pe_lst pa_nil) (nomark _)) (pss_one (ps_expr (pe_bm PySem.F.plainAttrs_list PySem.F.slot_list_append PySem.F.type_list_append mt_append (pv 2) (pa_cons (pe_tup (pa_cons pe_non (pa_cons pe_int pa_nil))) pa_nil)))) pss_nil)))))))
    (pss_one (ps_ret (pe_cal C__law_all_joined hr (by omega) tk (pa_cons (pv 2) pa_nil)))))))), ?_⟩
  refine i_start [some _, none, none, none, none, none, none, none, none, none, none, none] (by rfl) ?_
  try dsimp only [cxOf]
  walk_at "rd"
  refine ⟨a, ns, 0, rfl, hS, hb, by decide, fun fd xs H1 nf s1 e1 hF => ?_⟩
  walk_at "rd"
  refine ⟨Nat.zero_le _, fun hl hhl => ?_⟩
  generalize eH2 : L2.upd H1 hl _ = H2
  obtain ⟨s2, e2⟩ := laid eH2 hhl
  have nlf : hl ≠ fd := fun z => by rw [z, e1] at hhl; cases hhl
  have nlH : H hl = none := s1.free hhl
  walk_at "rd"
  refine ⟨fd, 2, 0, xs, rfl, s2 _ _ e1, hF, by decide, by decide, by decide, fun g ys g0 g1 hy => ?_⟩
  generalize eH3 : L2.upd H2 fd _ = H3
  have x3 : SameX fd H2 H3 := by rw [← eH3]; exact SameX.upd
  have e3 : H3 fd = some (.lst ys) := by rw [← eH3]; exact upd_same
  walk_at "rd"
  refine ⟨_, rfl, by omega, by omega, ?_⟩
  refine for_range (lo := 0) (n := (1 + g).toNat) (fun i s h => ∃ b3 b4 hs ss zs, s = [some (.ref a), some (.ref fd), some (.ref hl), b3, b4, none, none, none, none, none, none, none] ∧ Same H h ∧ h fd = some (.lst zs) ∧ FdL (1 + 41 * i) zs ∧ h hl = some (.lst hs) ∧ HL h hs ss ∧ hs.length = i)
    ⟨none, none, [], [], ys, rfl, SameX.fresh x3 (s1.trans s2) nf, e3, hy, x3 _ _ nlf e2, .nil, rfl⟩ ?_ ?_
  · rintro i s h hi ⟨b3, b4, hs, ss, zs, rfl, sH, ef, hz, eh, hL, hlen⟩
    walk_at "rd"
    refine ⟨fd, 1 + 41 * i, 20, zs, rfl, ef, hz, by decide, by decide, by omega, fun v t us H4 sx4 e4 hu4 sp4 bl4 w4 h4 => ?_⟩
    have T4 := SameX.tups sx4 ef
    walk_at "rd"
    have eh4 : H4 hl = some (.lst hs) := sx4 _ _ nlf eh
    refine i_tyL (SqL.of eh4) ?_
    walk_at "rd"
    refine ⟨v, t.g, rfl, sp4.g, by rw [hei_g]; omega, fun v5 H5 t5 z5 => ?_⟩
    rw [(gsz_is t).1 bl4] at z5
    obtain ⟨p5, rfl, hp5⟩ := z5
    walk_at "rd"
    refine i_ixST (SqT.of hp5) rfl ?_
    walk_at "rd"
    refine ⟨by show 2 ≤ sizeLine; decide, fun p6 hp6 => ?_⟩
    generalize eH6 : L2.upd H5 p6 _ = H6
    obtain ⟨t6, e6⟩ := laid eH6 hp6
    walk_at "rd"
    have eh6 : H6 hl = some (.lst hs) := (t5.trans t6) _ _ eh4
    refine i_app eh6 (by omega) ?_
    walk_at "rd"
    have kk : Tups H6 (L2.upd H6 hl (.lst (hs ++ [.ref p6]))) := SameX.tups (f := hl) SameX.upd eh6
    have S6 : Same H H6 := (SameX.fresh sx4 sH nf).trans (t5.trans t6)
    refine ⟨_, _, _, ss ++ [t], us, rfl, Same.upd S6 nlH, (upd_ne nlf.symm).trans ((t5.trans t6) _ _ e4), hu4.mono (by omega), upd_same, ?_, by rw [List.length_append, List.length_singleton, hlen]⟩
    refine HL.app (((hL.mono T4).mono (Same.tups (t5.trans t6))).mono kk) ?_
    exact HeldAt.mono ⟨p6, v, rfl, e6, sp4.mono (Same.tups (t5.trans t6)), bl4, by omega⟩ kk
  · rintro s h ⟨b3, b4, hs, ss, zs, rfl, sH, ef, hz, eh, hL, hlen⟩
    walk_at "rd"
    refine i_lenL (sH.seq hS) ?_
    walk_at "rd"
    rw [List.length_map]
    refine ⟨_, _, rfl, ⟨by decide, by decide, by omega, by omega⟩, ?_⟩
    refine for_range (lo := 1) (n := (max (7 : Int) (min (63 : Int) (ns.length : Nat)) - 1).toNat) (fun i s h => ∃ hl b1 b3 b4 b5 b6 b7 b8 b9 b10 b11 hs ss, s = [some (.ref a), b1, some (.ref hl), b3, b4, b5, b6, b7, b8, b9, b10, b11] ∧ Same H h ∧ H hl = none ∧ h hl = some (.lst hs) ∧ HL h hs ss ∧ hs ≠ [] ∧ hs.length ≤ 2 + 3 * i)
      ⟨hl, _, _, _, _, _, _, _, _, _, _, hs, ss, rfl, sH, nlH, eh, hL, fun z => by rw [z] at hlen; simp at hlen; omega, by omega⟩ ?_ ?_
    · clear eH2 eH3 x3 e3 hF hy e1 e2 s1 s2 ef hz eh hL hlen sH nlf nlH nf
      rintro i s h hi ⟨hl, b1, b3, b4, b5, b6, b7, b8, b9, b10, b11, hs, ss, rfl, sH, nlH, eh, hL, hne, hlen⟩
      walk_at "rd"
      refine ⟨a, ns, 1 + i, by rw [show ((1 + i : Nat) : Int) = 1 + (i : Int) by omega], sH.seq hS, hb, by omega, fun fd xs H1 nf s1 e1 hF => ?_⟩
      walk_at "rd"
      have nfh : h fd = none := nf
      have nlf : hl ≠ fd := fun z => by rw [z, nfh] at eh; cases eh
      refine ⟨fd, hl, 0, xs, hs, ss, rfl, e1, hF, by decide, s1 _ _ eh, hL.mono (Same.tups s1), hne, by omega, nlf, fun p g m1 a1 w1 gs ms as os H3 sx3 ep eg em ea ew mL aL ok len2 => ?_⟩
      have S3 : Same h H3 := SameX.fresh sx3 s1 nfh
      have eh3 : H3 hl = some (.lst hs) := S3 _ _ eh
      have hL3 : HL H3 hs ss := hL.mono (Same.tups S3)
      have o20 : ∀ o ∈ os, ohei o ≤ 20 := fun o z => ohei_20 (ok o z).1 (ok o z).2
      walk_at "rd"
      refine ⟨p, _, rfl, SqT.of ep, rfl, ?_⟩
      walk_at "rd"
      refine ⟨.list (os.map opd), .list (os.map opd), .lst (SqL.of em) mL.dp, .lst (SqL.of ea) aL.dp, os_shaped o20, os_shaped o20, ?_⟩
      rw [PySem.SeqAt.eqv_refl _ (os_lay0 os)]
      walk_at "rd"
      refine i_F ?_
      walk_at "rd"
      refine i_lenL (SqL.of em) ?_
      walk_at "rd"
      refine i_lenL (SqL.of ew) ?_
      walk_at "rd"
      refine i_ndec (fun z => absurd (by rw [List.length_map, mL.len]) z) (fun _ => ?_)
      walk_at "rd"
      unfold L2.tLc
      walk_at "rd"
      refine i_lenL (SqL.of eh3) ?_
      walk_at "rd"
      refine ⟨_, rfl, by omega, by omega, fun D hD => ?_⟩
      refine lc_range (lo := 0) (n := ((hs.length : Nat) : Int).toNat) (fun i h => ∃ acc accs, h D = some (.lst acc) ∧ HL h acc accs ∧ acc.length ≤ i ∧ SameX D H3 h) ⟨[], [], upd_same, .nil, Nat.le_refl _, SameX.upd⟩ ?_ ?_
      · rintro j h' hj ⟨acc, accs, eD, hA, hlA, sD⟩
        have hj2 : j < hs.length := by omega
        have nDl : hl ≠ D := fun z => by rw [z, hD] at eh3; cases eh3
        have nDg : g ≠ D := fun z => by rw [z, hD] at eg; cases eg
        obtain ⟨v, t, ev, et, at1⟩ := hL3.at_ j hj2
        walk_at "rd"
        refine ⟨rfl, ?_⟩
        walk_at "rd"
        have T3 : Tups H3 h' := fun b ys e => sD b _ (ne_of_none e hD) e
        refine ⟨g, gs.map V.int, rfl, .inl (SqL.of (sD _ _ nDg eg)), rfl, by rw [List.all_eq_true]; intro x hx; obtain ⟨z, _, rfl⟩ := List.mem_map.mp hx; rfl, ?_⟩
        refine ⟨_, rfl, ?_⟩
        refine i_bool (fun _ => ?_) (fun _ => ?_)
        · walk_at "rd"
          rw [Int.zero_add]
          refine i_ixL (SqL.of (sD _ _ nDl eh3)) (atI_nat ev) ?_
          have kk : Tups h' (L2.upd h' D (.lst (acc ++ [v]))) := SameX.tups (f := D) SameX.upd eD
          exact ⟨acc, eD, by omega, acc ++ [v], accs ++ [t], upd_same, (hA.mono kk).app ((at1.mono T3).mono kk), by rw [List.length_append, List.length_singleton]; omega, sD.trans SameX.upd⟩
        · exact ⟨acc, accs, eD, hA, by omega, sD⟩
      · rintro h' ⟨acc, accs, eD, hA, hlA, sD⟩
        walk_at "rd"
        have nDm : m1 ≠ D := fun z => by rw [z, hD] at em; cases em
        have nDw : w1 ≠ D := fun z => by rw [z, hD] at ew; cases ew
        have nDH : H D = none := (sH.trans S3).free hD
        have hlA2 : acc.length ≤ hs.length := by omega
        refine ⟨m1, w1, ms, os.map fun o => V.int (owid o : Nat), rfl, SqL.of (sD _ _ nDm em), SqL.of (sD _ _ nDw ew), RZ.for_zipL (xs := ms) (ys := os.map fun o => V.int (owid o : Nat)) (by rw [List.length_map, mL.len]) (fun j s h => ∃ b3 b4 b10 b11 acc accs, s = [some (.ref a), b1, some (.ref D), b3, b4, some (.int (1 + (i : Int))), some (.ref g), some (.ref m1), some (.ref a1), some (.ref w1), b10, b11] ∧ h D = some (.lst acc) ∧ HL h acc accs ∧ acc.length ≤ hs.length + j ∧ SameX D H3 h)
          ?_ ?_ ?_ ?_⟩
        · exact ⟨_, _, _, _, acc, accs, rfl, eD, hA, hlA2, sD⟩
        · rintro j s h ⟨b3, b4, b10, b11, acc, accs, rfl, eD, hA, hlA, sD⟩
          exact ⟨SqL.of (sD _ _ nDm em), SqL.of (sD _ _ nDw ew)⟩
        · rintro j x y T s h hx hy ⟨b3, b4, b10, b11, acc, accs, rfl, eD, hA, hlA, sD⟩ hT
          obtain ⟨o, eo, ho⟩ := mL.at_ j x hx
          rw [List.getElem?_map, eo] at hy
          cases hy
          have jl : j < ms.length := (List.getElem?_eq_some_iff.mp hx).1
          have hms : ms.length ≤ 2 := by rw [mL.len]; exact len2
          obtain ⟨ob, ow⟩ := ok o (List.mem_of_getElem? eo)
          generalize eH5 : L2.upd h T _ = H5
          obtain ⟨t5, e5⟩ := laid eH5 hT
          have T3 : Tups H3 h := fun b ys e => sD b _ (ne_of_none e hD) e
          walk_at "rd"
          refine ⟨T, _, rfl, SqT.of e5, rfl, ?_⟩
          walk_at "rd"
          refine ⟨x, o, owid o, rfl, (ho.mono T3).mono (Same.tups t5), ob, rfl, by omega, fun H6 t6 => ?_⟩
          walk_at "rd"
          refine i_F ?_
          walk_at "rd"
          have S6 : Same h H6 := t5.trans t6
          refine i_dec (fun c => ?_) (fun c => ?_)
          · walk_at "rd"
            refine i_tyL (SqL.of (S6 _ _ eD)) ?_
            walk_at "rd"
            refine ⟨by show 2 ≤ sizeLine; decide, fun p7 hp7 => ?_⟩
            generalize eH7 : L2.upd H6 p7 _ = H7
            obtain ⟨t7, e7⟩ := laid eH7 hp7
            have S7 : Same h H7 := S6.trans t7
            walk_at "rd"
            refine i_app (S7 _ _ eD) (by omega) ?_
            walk_at "rd"
            have kk : Tups H7 (L2.upd H7 D (.lst (acc ++ [.ref p7]))) := SameX.tups (f := D) SameX.upd (S7 _ _ eD)
            cases o with
            | none => simp only [owid] at c; omega
            | some z =>
              have hz : Shp H3 x z := ho
              refine ⟨_, _, _, _, _, accs ++ [z], rfl, upd_same, ((hA.mono (Same.tups S7)).mono kk).app (HeldAt.mono ⟨p7, x, rfl, e7, (hz.mono T3).mono (Same.tups S7), ob, ow⟩ kk), by rw [List.length_append, List.length_singleton]; omega, (sD.trans (SameX.of S7)).trans SameX.upd⟩
          · walk_at "rd"
            exact ⟨_, _, _, _, acc, accs, rfl, S6 _ _ eD, hA.mono (Same.tups S6), by omega, sD.trans (SameX.of S6)⟩
        · rintro s h ⟨b3, b4, b10, b11, acc, accs, rfl, eD, hA, hlA, sD⟩
          have hms : ms.length ≤ 2 := by rw [mL.len]; exact len2
          walk_at "rd"
          refine ⟨Nat.zero_le _, fun l5 hl5 => ?_⟩
          generalize eH5 : L2.upd h l5 _ = H5
          obtain ⟨t5, e5⟩ := laid eH5 hl5
          have hA5 := hA.mono (Same.tups t5)
          walk_at "rd"
          refine ⟨.list (accs.map hd), .list [], .lst (SqL.of (t5 _ _ eD)) hA5.dp, .lst (SqL.of e5) .nil, hA.shaped, by decide, ?_⟩
          walk_at "rd"
          have SH : SameX D H3 H5 := sD.trans (SameX.of t5)
          cases hA5 with
          | nil =>
            refine i_T ?_
            walk_at "rd"
            refine i_tyL (SqL.of (t5 _ _ eD)) ?_
            walk_at "rd"
            refine ⟨by show 2 ≤ sizeLine; decide, fun p7 hp7 => ?_⟩
            generalize eH7 : L2.upd H5 p7 _ = H7
            obtain ⟨t7, e7⟩ := laid eH7 hp7
            walk_at "rd"
            refine i_app ((t5.trans t7) _ _ eD) (by show 0 < sizeLine; omega) ?_
            walk_at "rd"
            have kk : Tups H7 (L2.upd H7 D (.lst ([] ++ [.ref p7]))) := SameX.tups (f := D) SameX.upd ((t5.trans t7) _ _ eD)
            exact ⟨D, _, _, _, _, _, _, _, _, _, _, _, [.one], rfl, SameX.fresh ((SH.trans (SameX.of t7)).trans SameX.upd) (sH.trans S3) nDH, nDH, upd_same, .cons (HeldAt.mono ⟨p7, .non, rfl, e7, .one, trivial, by decide⟩ kk) .nil, by simp, by show 1 ≤ _; omega⟩
          | cons hv ht =>
            refine i_F ?_
            walk_at "rd"
            exact ⟨D, _, _, _, _, _, _, _, _, _, _, _, _, rfl, SameX.fresh SH (sH.trans S3) nDH, nDH, t5 _ _ eD, .cons hv ht, by simp, by omega⟩
    · rintro s h ⟨hl, b1, b3, b4, b5, b6, b7, b8, b9, b10, b11, hs, ss, rfl, sH, nlH, eh, hL, hne, hlen⟩
      walk_at "rd"
      exact ⟨hl, hs, ss, rfl, eh, hL, hne, by omega, fun H' => q H'⟩
theorem c_asked_two (T : Txt K mg) : Cal P w K mg base 149 "_law_asked_two" (spAskedZ K) := T.d__law_asked_two.cal sc__law_asked_two (fun vs H Q E h => by obtain ⟨_, _, rfl, _⟩ := h; rfl)
  (b_asked_two T (c_feed T) (c_draw T) (c_law_any_balanced T) (c_law_sizes T 41) (c_law_deed T) (c_law_held T) (c_law_all_joined T))
/-! ### law -/
abbrev s_law : Stmt := (top 57)
theorem sc_law : FnScope ["script"] ["script"] (defScope s_law) := ⟨rfl, rfl, rfl, by decide +kernel, rfl, by decide +kernel, by decide +kernel⟩
theorem b_law (T : Txt K mg) (C__law_asked_one : Cal P w K mg base 109 "_law_asked_one" (spAsked K)) (C__law_asked_two : Cal P w K mg base 149 "_law_asked_two" (spAskedZ K)) : Body P w K mg base (149) ["script"] "law" (defScope s_law) (defBody s_law) (spLaw K) := by
  intro f cdv A outer s H vs Q E hr h
  obtain ⟨a, ns, rfl, hS, hb, hl, q⟩ := h
  have hu := hu_of hr
  have tk : Takes (cxOf (L2.CX P w) P w K mg base ["script"] "law" (defScope s_law) f cdv A outer s H E) (fun cls d _ H => E cls d H) := takes_of rfl rfl rfl rfl
  refine ⟨_, (pss_one (ps_ret (pe_and (pe_cal C__law_asked_one hr (by omega) tk (pa_cons (pv 0) pa_nil)) (pe_one (pe_cal C__law_asked_two hr (by omega) tk (pa_cons (pv 0) pa_nil)))))), ?_⟩
  refine i_start [some _] (by rfl) ?_
  try dsimp only [cxOf]
  walk_at "rd"
  refine ⟨a, ns, rfl, hS, hb, hl, fun H1 s1 => ?_⟩
  walk_at "rd"
  refine ⟨a, ns, rfl, s1.seq hS, hb, hl, fun H2 => ?_⟩
  walk_at "rd"
  exact q H2
theorem lawB (T : Txt K mg) : Body P w K mg base (149) ["script"] "law" (defScope s_law) (defBody s_law) (spLaw K) := b_law T (c_asked_one T) (c_asked_two T)
end

end K62

set_option maxHeartbeats 4000000
namespace K62
open PySem PySem.Spec PyProof.Rows L2 KB KM
/-! ### the head -/
def fn0 : List He.DefD := [⟨("is_integer", none), "is_integer", "is_integer", defArgs (top 7), defBody (top 7), defScope (top 7), [], []⟩,
  ⟨("need_count", none), "need_count", "need_count", defArgs (top 8), defBody (top 8), defScope (top 8), [.non], []⟩,
  ⟨("Stem", some "__init__"), "__init__", "Stem.__init__", defArgs (inClass (top 11) 0), defBody (inClass (top 11) 0), defScope (inClass (top 11) 0), [], []⟩,
  ⟨("Builder", some "pair"), "pair", "Builder.pair", defArgs (inClass (top 12) 0), defBody (inClass (top 12) 0), defScope (inClass (top 12) 0), [], []⟩,
  ⟨("Builder", some "sides"), "sides", "Builder.sides", defArgs (inClass (top 12) 1), defBody (inClass (top 12) 1), defScope (inClass (top 12) 1), [], []⟩,
  ⟨("tallest_of", none), "tallest_of", "tallest_of", defArgs (top 13), defBody (top 13), defScope (top 13), [], []⟩,
  ⟨("width_in", none), "width_in", "width_in", defArgs (top 14), defBody (top 14), defScope (top 14), [], []⟩,
  ⟨("height_in", none), "height_in", "height_in", defArgs (top 15), defBody (top 15), defScope (top 15), [], []⟩,
  ⟨("balanced_height", none), "balanced_height", "balanced_height", defArgs (top 16), defBody (top 16), defScope (top 16), [], []⟩,
  ⟨("stem_of", none), "stem_of", "stem_of", defArgs (top 17), defBody (top 17), defScope (top 17), [], []⟩,
  ⟨("shape_of", none), "shape_of", "shape_of", defArgs (top 18), defBody (top 18), defScope (top 18), [], []⟩,
  ⟨("even_pair", none), "even_pair", "even_pair", defArgs (top 19), defBody (top 19), defScope (top 19), [], []⟩,
  ⟨("row_joined", none), "row_joined", "row_joined", defArgs (top 20), defBody (top 20), defScope (top 20), [], []⟩,
  ⟨("row_cut", none), "row_cut", "row_cut", defArgs (top 21), defBody (top 21), defScope (top 21), [], []⟩,
  ⟨("row_with", none), "row_with", "row_with", defArgs (top 22), defBody (top 22), defScope (top 22), [], []⟩,
  ⟨("row_without", none), "row_without", "row_without", defArgs (top 23), defBody (top 23), defScope (top 23), [], []⟩,
  ⟨("need_shape", none), "need_shape", "need_shape", defArgs (top 25), defBody (top 25), defScope (top 25), [], []⟩,
  ⟨("need_balanced", none), "need_balanced", "need_balanced", defArgs (top 26), defBody (top 26), defScope (top 26), [], []⟩,
  ⟨("is_shape", none), "is_shape", "is_shape", defArgs (top 27), defBody (top 27), defScope (top 27), [], []⟩,
  ⟨("is_balanced", none), "is_balanced", "is_balanced", defArgs (top 28), defBody (top 28), defScope (top 28), [], []⟩,
  ⟨("width_of", none), "width_of", "width_of", defArgs (top 29), defBody (top 29), defScope (top 29), [], []⟩,
  ⟨("height_of", none), "height_of", "height_of", defArgs (top 30), defBody (top 30), defScope (top 30), [], []⟩,
  ⟨("tallest", none), "tallest", "tallest", defArgs (top 31), defBody (top 31), defScope (top 31), [], []⟩,
  ⟨("joined_shapes", none), "joined_shapes", "joined_shapes", defArgs (top 32), defBody (top 32), defScope (top 32), [], []⟩,
  ⟨("cut_shape", none), "cut_shape", "cut_shape", defArgs (top 33), defBody (top 33), defScope (top 33), [], []⟩,
  ⟨("put_shape", none), "put_shape", "put_shape", defArgs (top 34), defBody (top 34), defScope (top 34), [], []⟩,
  ⟨("taken_shape", none), "taken_shape", "taken_shape", defArgs (top 35), defBody (top 35), defScope (top 35), [], []⟩,
  ⟨("_law_feed", none), "_law_feed", "_law_feed", defArgs (top 37), defBody (top 37), defScope (top 37), [], []⟩,
  ⟨("_law_draw", none), "_law_draw", "_law_draw", defArgs (top 38), defBody (top 38), defScope (top 38), [], []⟩,
  ⟨("_law_one", none), "_law_one", "_law_one", defArgs (top 39), defBody (top 39), defScope (top 39), [], []⟩]
def fn1 : List He.DefD := [⟨("_law_least", none), "_law_least", "_law_least", defArgs (top 40), defBody (top 40), defScope (top 40), [], []⟩,
  ⟨("_law_tallest", none), "_law_tallest", "_law_tallest", defArgs (top 41), defBody (top 41), defScope (top 41), [], []⟩,
  ⟨("_law_balanced", none), "_law_balanced", "_law_balanced", defArgs (top 42), defBody (top 42), defScope (top 42), [], []⟩,
  ⟨("_law_any_balanced", none), "_law_any_balanced", "_law_any_balanced", defArgs (top 43), defBody (top 43), defScope (top 43), [], []⟩,
  ⟨("_law_grown", none), "_law_grown", "_law_grown", defArgs (top 44), defBody (top 44), defScope (top 44), [], []⟩,
  ⟨("_law_shape", none), "_law_shape", "_law_shape", defArgs (top 45), defBody (top 45), defScope (top 45), [], []⟩,
  ⟨("_law_trouble", none), "_law_trouble", "_law_trouble", defArgs (top 46), defBody (top 46), defScope (top 46), [], []⟩,
  ⟨("_law_sizes", none), "_law_sizes", "_law_sizes", defArgs (top 47), defBody (top 47), defScope (top 47), [], []⟩,
  ⟨("_law_is_shape", none), "_law_is_shape", "_law_is_shape", defArgs (top 48), defBody (top 48), defScope (top 48), [], []⟩,
  ⟨("_law_even", none), "_law_even", "_law_even", defArgs (top 49), defBody (top 49), defScope (top 49), [], []⟩,
  ⟨("_law_joined", none), "_law_joined", "_law_joined", defArgs (top 50), defBody (top 50), defScope (top 50), [], []⟩,
  ⟨("_law_right", none), "_law_right", "_law_right", defArgs (top 51), defBody (top 51), defScope (top 51), [], []⟩,
  ⟨("_law_asked_one", none), "_law_asked_one", "_law_asked_one", defArgs (top 52), defBody (top 52), defScope (top 52), [], []⟩,
  ⟨("_law_held", none), "_law_held", "_law_held", defArgs (top 53), defBody (top 53), defScope (top 53), [], []⟩,
  ⟨("_law_deed", none), "_law_deed", "_law_deed", defArgs (top 54), defBody (top 54), defScope (top 54), [], []⟩,
  ⟨("_law_all_joined", none), "_law_all_joined", "_law_all_joined", defArgs (top 55), defBody (top 55), defScope (top 55), [], []⟩,
  ⟨("_law_asked_two", none), "_law_asked_two", "_law_asked_two", defArgs (top 56), defBody (top 56), defScope (top 56), [], []⟩,
  ⟨("law", none), "law", "law", defArgs (top 57), defBody (top 57), defScope (top 57), [], []⟩]
def fn : List He.DefD := fn0 ++ fn1

def fa0 : List He.Fa := [.free "isinstance",
  .free "int",
  .free "bool",
  .free "tuple",
  .free "list",
  .free "len",
  .free "max",
  .free "min",
  .free "abs",
  .free "sum",
  .free "range",
  .free "zip",
  .int "MOST_NODES" 20000,
  .int "MOST_HEIGHT" 40,
  .glo "MatchError",
  .exc "MatchError",
  .glo "BadShape",
  .exc "BadShape",
  .glo "BadCount",
  .exc "BadCount",
  .glo "BadBalance",
  .exc "BadBalance",
  .glo "Stem",
  .cls "Stem",
  .noat "Stem" "left",
  .noat "Stem" "right",
  .noat "Stem" "width",
  .noat "Stem" "height",
  .mkr "Stem",
  .glo "Builder"]
def fa1 : List He.Fa := [.cls "Builder",
  .meth "Builder" "pair",
  .meth "Builder" "sides",
  .exm "MatchError" "BadShape" false,
  .exm "BadShape" "BadShape" true,
  .exm "BadCount" "BadShape" false,
  .exm "BadBalance" "BadShape" false,
  .exm "MatchError" "BadBalance" false,
  .exm "BadShape" "BadBalance" false,
  .exm "BadCount" "BadBalance" false,
  .exm "BadBalance" "BadBalance" true,
  .glo "is_integer",
  .glo "need_count",
  .glo "tallest_of",
  .glo "width_in",
  .glo "height_in",
  .glo "balanced_height",
  .glo "stem_of",
  .glo "shape_of",
  .glo "even_pair",
  .glo "row_joined",
  .glo "row_cut",
  .glo "row_with",
  .glo "row_without",
  .glo "need_shape",
  .glo "need_balanced",
  .glo "is_shape",
  .glo "is_balanced",
  .glo "width_of",
  .glo "height_of"]
def fa2 : List He.Fa := [.glo "tallest",
  .glo "joined_shapes",
  .glo "cut_shape",
  .glo "put_shape",
  .glo "taken_shape",
  .glo "_law_feed",
  .glo "_law_draw",
  .glo "_law_one",
  .glo "_law_least",
  .glo "_law_tallest",
  .glo "_law_balanced",
  .glo "_law_any_balanced",
  .glo "_law_grown",
  .glo "_law_shape",
  .glo "_law_trouble",
  .glo "_law_sizes",
  .glo "_law_is_shape",
  .glo "_law_even",
  .glo "_law_joined",
  .glo "_law_right",
  .glo "_law_asked_one",
  .glo "_law_held",
  .glo "_law_deed",
  .glo "_law_all_joined",
  .glo "_law_asked_two",
  .glo "law"]
def fa : List He.Fa := fa0 ++ fa1 ++ fa2

def exB (K : PySem.W.Frag) : Bool := (PySem.W.makesIn K (He.ga K "Builder") && (He.eqO (PySem.W.findIn K (.ref (He.ga K "Builder")) "__init__") (some (some (.builtin "object.__init__"))) && PySem.W.keepIn K (.ref (He.ga K "Builder"))))
def names0 : List PySem.Str := ["MatchError",
  "BadShape",
  "BadCount",
  "BadBalance",
  "MOST_NODES",
  "is_integer",
  "need_count",
  "MOST_HEIGHT",
  "Stem",
  "Builder",
  "tallest_of",
  "width_in",
  "height_in",
  "balanced_height",
  "stem_of",
  "shape_of",
  "even_pair",
  "row_joined",
  "row_cut",
  "row_with",
  "row_without",
  "need_shape",
  "need_balanced",
  "is_shape",
  "is_balanced",
  "width_of",
  "height_of",
  "tallest",
  "joined_shapes",
  "cut_shape"]
def names1 : List PySem.Str := ["put_shape",
  "taken_shape",
  "_law_feed",
  "_law_draw",
  "_law_one",
  "_law_least",
  "_law_tallest",
  "_law_balanced",
  "_law_any_balanced",
  "_law_grown",
  "_law_shape",
  "_law_trouble",
  "_law_sizes",
  "_law_is_shape",
  "_law_even",
  "_law_joined",
  "_law_right",
  "_law_asked_one",
  "_law_held",
  "_law_deed",
  "_law_all_joined",
  "_law_asked_two"]
def names : List PySem.Str := names0 ++ names1

abbrev lawAt : Nat := 57
theorem full1 {K : PySem.W.Frag} {fd : FuncData} {ps : List Str} (h : ∃ ds, Vals [] ds ∧ Binds K fd ps ds) : Binds K fd ps [] := by
  obtain ⟨ds, h1, h2⟩ := h
  cases h1
  exact h2
theorem txt_of {K : PySem.W.Frag} {h : Heap} {mg : Str → Option Value} (KX : K.In h) (G : h.Ns mainGlobals mg) (c : He.SaysD fa fn K) (m : exB K = true) : Txt K mg := by
  obtain ⟨fd0, F0⟩ := c.def_ 0 (d := ⟨("is_integer", none), "is_integer", "is_integer", defArgs (top 7), defBody (top 7), defScope (top 7), [], []⟩) rfl
  obtain ⟨fd1, F1⟩ := c.def_ 1 (d := ⟨("need_count", none), "need_count", "need_count", defArgs (top 8), defBody (top 8), defScope (top 8), [.non], []⟩) rfl
  obtain ⟨fd2, F2⟩ := c.def_ 2 (d := ⟨("Stem", some "__init__"), "__init__", "Stem.__init__", defArgs (inClass (top 11) 0), defBody (inClass (top 11) 0), defScope (inClass (top 11) 0), [], []⟩) rfl
  obtain ⟨fd3, F3⟩ := c.def_ 3 (d := ⟨("Builder", some "pair"), "pair", "Builder.pair", defArgs (inClass (top 12) 0), defBody (inClass (top 12) 0), defScope (inClass (top 12) 0), [], []⟩) rfl
  obtain ⟨fd4, F4⟩ := c.def_ 4 (d := ⟨("Builder", some "sides"), "sides", "Builder.sides", defArgs (inClass (top 12) 1), defBody (inClass (top 12) 1), defScope (inClass (top 12) 1), [], []⟩) rfl
  obtain ⟨fd5, F5⟩ := c.def_ 5 (d := ⟨("tallest_of", none), "tallest_of", "tallest_of", defArgs (top 13), defBody (top 13), defScope (top 13), [], []⟩) rfl
  obtain ⟨fd6, F6⟩ := c.def_ 6 (d := ⟨("width_in", none), "width_in", "width_in", defArgs (top 14), defBody (top 14), defScope (top 14), [], []⟩) rfl
  obtain ⟨fd7, F7⟩ := c.def_ 7 (d := ⟨("height_in", none), "height_in", "height_in", defArgs (top 15), defBody (top 15), defScope (top 15), [], []⟩) rfl
  obtain ⟨fd8, F8⟩ := c.def_ 8 (d := ⟨("balanced_height", none), "balanced_height", "balanced_height", defArgs (top 16), defBody (top 16), defScope (top 16), [], []⟩) rfl
  obtain ⟨fd9, F9⟩ := c.def_ 9 (d := ⟨("stem_of", none), "stem_of", "stem_of", defArgs (top 17), defBody (top 17), defScope (top 17), [], []⟩) rfl
  obtain ⟨fd10, F10⟩ := c.def_ 10 (d := ⟨("shape_of", none), "shape_of", "shape_of", defArgs (top 18), defBody (top 18), defScope (top 18), [], []⟩) rfl
  obtain ⟨fd11, F11⟩ := c.def_ 11 (d := ⟨("even_pair", none), "even_pair", "even_pair", defArgs (top 19), defBody (top 19), defScope (top 19), [], []⟩) rfl
  obtain ⟨fd12, F12⟩ := c.def_ 12 (d := ⟨("row_joined", none), "row_joined", "row_joined", defArgs (top 20), defBody (top 20), defScope (top 20), [], []⟩) rfl
  obtain ⟨fd13, F13⟩ := c.def_ 13 (d := ⟨("row_cut", none), "row_cut", "row_cut", defArgs (top 21), defBody (top 21), defScope (top 21), [], []⟩) rfl
  obtain ⟨fd14, F14⟩ := c.def_ 14 (d := ⟨("row_with", none), "row_with", "row_with", defArgs (top 22), defBody (top 22), defScope (top 22), [], []⟩) rfl
  obtain ⟨fd15, F15⟩ := c.def_ 15 (d := ⟨("row_without", none), "row_without", "row_without", defArgs (top 23), defBody (top 23), defScope (top 23), [], []⟩) rfl
  obtain ⟨fd16, F16⟩ := c.def_ 16 (d := ⟨("need_shape", none), "need_shape", "need_shape", defArgs (top 25), defBody (top 25), defScope (top 25), [], []⟩) rfl
  obtain ⟨fd17, F17⟩ := c.def_ 17 (d := ⟨("need_balanced", none), "need_balanced", "need_balanced", defArgs (top 26), defBody (top 26), defScope (top 26), [], []⟩) rfl
  obtain ⟨fd18, F18⟩ := c.def_ 18 (d := ⟨("is_shape", none), "is_shape", "is_shape", defArgs (top 27), defBody (top 27), defScope (top 27), [], []⟩) rfl
  obtain ⟨fd19, F19⟩ := c.def_ 19 (d := ⟨("is_balanced", none), "is_balanced", "is_balanced", defArgs (top 28), defBody (top 28), defScope (top 28), [], []⟩) rfl
  obtain ⟨fd20, F20⟩ := c.def_ 20 (d := ⟨("width_of", none), "width_of", "width_of", defArgs (top 29), defBody (top 29), defScope (top 29), [], []⟩) rfl
  obtain ⟨fd21, F21⟩ := c.def_ 21 (d := ⟨("height_of", none), "height_of", "height_of", defArgs (top 30), defBody (top 30), defScope (top 30), [], []⟩) rfl
  obtain ⟨fd22, F22⟩ := c.def_ 22 (d := ⟨("tallest", none), "tallest", "tallest", defArgs (top 31), defBody (top 31), defScope (top 31), [], []⟩) rfl
  obtain ⟨fd23, F23⟩ := c.def_ 23 (d := ⟨("joined_shapes", none), "joined_shapes", "joined_shapes", defArgs (top 32), defBody (top 32), defScope (top 32), [], []⟩) rfl
  obtain ⟨fd24, F24⟩ := c.def_ 24 (d := ⟨("cut_shape", none), "cut_shape", "cut_shape", defArgs (top 33), defBody (top 33), defScope (top 33), [], []⟩) rfl
  obtain ⟨fd25, F25⟩ := c.def_ 25 (d := ⟨("put_shape", none), "put_shape", "put_shape", defArgs (top 34), defBody (top 34), defScope (top 34), [], []⟩) rfl
  obtain ⟨fd26, F26⟩ := c.def_ 26 (d := ⟨("taken_shape", none), "taken_shape", "taken_shape", defArgs (top 35), defBody (top 35), defScope (top 35), [], []⟩) rfl
  obtain ⟨fd27, F27⟩ := c.def_ 27 (d := ⟨("_law_feed", none), "_law_feed", "_law_feed", defArgs (top 37), defBody (top 37), defScope (top 37), [], []⟩) rfl
  obtain ⟨fd28, F28⟩ := c.def_ 28 (d := ⟨("_law_draw", none), "_law_draw", "_law_draw", defArgs (top 38), defBody (top 38), defScope (top 38), [], []⟩) rfl
  obtain ⟨fd29, F29⟩ := c.def_ 29 (d := ⟨("_law_one", none), "_law_one", "_law_one", defArgs (top 39), defBody (top 39), defScope (top 39), [], []⟩) rfl
  obtain ⟨fd30, F30⟩ := c.def_ 30 (d := ⟨("_law_least", none), "_law_least", "_law_least", defArgs (top 40), defBody (top 40), defScope (top 40), [], []⟩) rfl
  obtain ⟨fd31, F31⟩ := c.def_ 31 (d := ⟨("_law_tallest", none), "_law_tallest", "_law_tallest", defArgs (top 41), defBody (top 41), defScope (top 41), [], []⟩) rfl
  obtain ⟨fd32, F32⟩ := c.def_ 32 (d := ⟨("_law_balanced", none), "_law_balanced", "_law_balanced", defArgs (top 42), defBody (top 42), defScope (top 42), [], []⟩) rfl
  obtain ⟨fd33, F33⟩ := c.def_ 33 (d := ⟨("_law_any_balanced", none), "_law_any_balanced", "_law_any_balanced", defArgs (top 43), defBody (top 43), defScope (top 43), [], []⟩) rfl
  obtain ⟨fd34, F34⟩ := c.def_ 34 (d := ⟨("_law_grown", none), "_law_grown", "_law_grown", defArgs (top 44), defBody (top 44), defScope (top 44), [], []⟩) rfl
  obtain ⟨fd35, F35⟩ := c.def_ 35 (d := ⟨("_law_shape", none), "_law_shape", "_law_shape", defArgs (top 45), defBody (top 45), defScope (top 45), [], []⟩) rfl
  obtain ⟨fd36, F36⟩ := c.def_ 36 (d := ⟨("_law_trouble", none), "_law_trouble", "_law_trouble", defArgs (top 46), defBody (top 46), defScope (top 46), [], []⟩) rfl
  obtain ⟨fd37, F37⟩ := c.def_ 37 (d := ⟨("_law_sizes", none), "_law_sizes", "_law_sizes", defArgs (top 47), defBody (top 47), defScope (top 47), [], []⟩) rfl
  obtain ⟨fd38, F38⟩ := c.def_ 38 (d := ⟨("_law_is_shape", none), "_law_is_shape", "_law_is_shape", defArgs (top 48), defBody (top 48), defScope (top 48), [], []⟩) rfl
  obtain ⟨fd39, F39⟩ := c.def_ 39 (d := ⟨("_law_even", none), "_law_even", "_law_even", defArgs (top 49), defBody (top 49), defScope (top 49), [], []⟩) rfl
  obtain ⟨fd40, F40⟩ := c.def_ 40 (d := ⟨("_law_joined", none), "_law_joined", "_law_joined", defArgs (top 50), defBody (top 50), defScope (top 50), [], []⟩) rfl
  obtain ⟨fd41, F41⟩ := c.def_ 41 (d := ⟨("_law_right", none), "_law_right", "_law_right", defArgs (top 51), defBody (top 51), defScope (top 51), [], []⟩) rfl
  obtain ⟨fd42, F42⟩ := c.def_ 42 (d := ⟨("_law_asked_one", none), "_law_asked_one", "_law_asked_one", defArgs (top 52), defBody (top 52), defScope (top 52), [], []⟩) rfl
  obtain ⟨fd43, F43⟩ := c.def_ 43 (d := ⟨("_law_held", none), "_law_held", "_law_held", defArgs (top 53), defBody (top 53), defScope (top 53), [], []⟩) rfl
  obtain ⟨fd44, F44⟩ := c.def_ 44 (d := ⟨("_law_deed", none), "_law_deed", "_law_deed", defArgs (top 54), defBody (top 54), defScope (top 54), [], []⟩) rfl
  obtain ⟨fd45, F45⟩ := c.def_ 45 (d := ⟨("_law_all_joined", none), "_law_all_joined", "_law_all_joined", defArgs (top 55), defBody (top 55), defScope (top 55), [], []⟩) rfl
  obtain ⟨fd46, F46⟩ := c.def_ 46 (d := ⟨("_law_asked_two", none), "_law_asked_two", "_law_asked_two", defArgs (top 56), defBody (top 56), defScope (top 56), [], []⟩) rfl
  obtain ⟨fd47, F47⟩ := c.def_ 47 (d := ⟨("law", none), "law", "law", defArgs (top 57), defBody (top 57), defScope (top 57), [], []⟩) rfl
  have m0 := m
  obtain ⟨m0a, m0b⟩ := He.ba m0
  obtain ⟨m0b, m0c⟩ := He.ba m0b
  exact {
    g_isinstance := He.free_ok KX G (c.fact 0 (f := .free "isinstance") rfl)
    g_int := He.free_ok KX G (c.fact 1 (f := .free "int") rfl)
    g_bool := He.free_ok KX G (c.fact 2 (f := .free "bool") rfl)
    g_tuple := He.free_ok KX G (c.fact 3 (f := .free "tuple") rfl)
    g_list := He.free_ok KX G (c.fact 4 (f := .free "list") rfl)
    g_len := He.free_ok KX G (c.fact 5 (f := .free "len") rfl)
    g_max := He.free_ok KX G (c.fact 6 (f := .free "max") rfl)
    g_min := He.free_ok KX G (c.fact 7 (f := .free "min") rfl)
    g_abs := He.free_ok KX G (c.fact 8 (f := .free "abs") rfl)
    g_sum := He.free_ok KX G (c.fact 9 (f := .free "sum") rfl)
    g_range := He.free_ok KX G (c.fact 10 (f := .free "range") rfl)
    g_zip := He.free_ok KX G (c.fact 11 (f := .free "zip") rfl)
    g_MOST_NODES := He.int_ok KX G (c.fact 12 (f := .int "MOST_NODES" 20000) rfl)
    g_MOST_HEIGHT := He.int_ok KX G (c.fact 13 (f := .int "MOST_HEIGHT" 40) rfl)
    x_MatchError := ⟨He.glo_ok KX G (c.fact 14 (f := .glo "MatchError") rfl), (He.exc_ok (c.fact 15 (f := .exc "MatchError") rfl)).1, (He.exc_ok (c.fact 15 (f := .exc "MatchError") rfl)).2.1, (He.exc_ok (c.fact 15 (f := .exc "MatchError") rfl)).2.2.1, (He.exc_ok (c.fact 15 (f := .exc "MatchError") rfl)).2.2.2⟩
    x_BadShape := ⟨He.glo_ok KX G (c.fact 16 (f := .glo "BadShape") rfl), (He.exc_ok (c.fact 17 (f := .exc "BadShape") rfl)).1, (He.exc_ok (c.fact 17 (f := .exc "BadShape") rfl)).2.1, (He.exc_ok (c.fact 17 (f := .exc "BadShape") rfl)).2.2.1, (He.exc_ok (c.fact 17 (f := .exc "BadShape") rfl)).2.2.2⟩
    x_BadCount := ⟨He.glo_ok KX G (c.fact 18 (f := .glo "BadCount") rfl), (He.exc_ok (c.fact 19 (f := .exc "BadCount") rfl)).1, (He.exc_ok (c.fact 19 (f := .exc "BadCount") rfl)).2.1, (He.exc_ok (c.fact 19 (f := .exc "BadCount") rfl)).2.2.1, (He.exc_ok (c.fact 19 (f := .exc "BadCount") rfl)).2.2.2⟩
    x_BadBalance := ⟨He.glo_ok KX G (c.fact 20 (f := .glo "BadBalance") rfl), (He.exc_ok (c.fact 21 (f := .exc "BadBalance") rfl)).1, (He.exc_ok (c.fact 21 (f := .exc "BadBalance") rfl)).2.1, (He.exc_ok (c.fact 21 (f := .exc "BadBalance") rfl)).2.2.1, (He.exc_ok (c.fact 21 (f := .exc "BadBalance") rfl)).2.2.2⟩
    c_Stem := He.cls_ok (c.fact 23 (f := .cls "Stem") rfl)
    n_Stem_left := He.noat_ok (c.fact 24 (f := .noat "Stem" "left") rfl)
    n_Stem_right := He.noat_ok (c.fact 25 (f := .noat "Stem" "right") rfl)
    n_Stem_width := He.noat_ok (c.fact 26 (f := .noat "Stem" "width") rfl)
    n_Stem_height := He.noat_ok (c.fact 27 (f := .noat "Stem" "height") rfl)
    k_Stem := ⟨He.glo_ok KX G (c.fact 22 (f := .glo "Stem") rfl), _, fd2, _, _, F2, He.mkr_ok (c.fact 28 (f := .mkr "Stem") rfl), F2.bindsN (ps := ["self", "left", "right"]) (fun _ _ _ _ _ _ us hl => match us, hl with | [_, _, _], _ => rfl)⟩
    c_Builder := He.cls_ok (c.fact 30 (f := .cls "Builder") rfl)
    b_Builder := ⟨He.glo_ok KX G (c.fact 29 (f := .glo "Builder") rfl), m0a, He.eqO_ok m0b, m0c⟩
    m_Builder_pair := ⟨_, fd3, _, _, F3, He.meth_ok (c.fact 31 (f := .meth "Builder" "pair") rfl), F3.bindsN (ps := ["self", "left", "right"]) (fun _ _ _ _ _ _ us hl => match us, hl with | [_, _, _], _ => rfl)⟩
    m_Builder_sides := ⟨_, fd4, _, _, F4, He.meth_ok (c.fact 32 (f := .meth "Builder" "sides") rfl), F4.bindsN (ps := ["self", "tree"]) (fun _ _ _ _ _ _ us hl => match us, hl with | [_, _], _ => rfl)⟩
    e_MatchError_BadShape := He.exm_ok (c.fact 33 (f := .exm "MatchError" "BadShape" false) rfl)
    e_BadShape_BadShape := He.exm_ok (c.fact 34 (f := .exm "BadShape" "BadShape" true) rfl)
    e_BadCount_BadShape := He.exm_ok (c.fact 35 (f := .exm "BadCount" "BadShape" false) rfl)
    e_BadBalance_BadShape := He.exm_ok (c.fact 36 (f := .exm "BadBalance" "BadShape" false) rfl)
    e_MatchError_BadBalance := He.exm_ok (c.fact 37 (f := .exm "MatchError" "BadBalance" false) rfl)
    e_BadShape_BadBalance := He.exm_ok (c.fact 38 (f := .exm "BadShape" "BadBalance" false) rfl)
    e_BadCount_BadBalance := He.exm_ok (c.fact 39 (f := .exm "BadCount" "BadBalance" false) rfl)
    e_BadBalance_BadBalance := He.exm_ok (c.fact 40 (f := .exm "BadBalance" "BadBalance" true) rfl)
    d_is_integer := ⟨_, fd0, _, _, F0, He.glo_ok KX G (c.fact 41 (f := .glo "is_integer") rfl), F0.bindsN (ps := ["thing"]) (fun _ _ _ _ _ _ us hl => match us, hl with | [_], _ => rfl)⟩
    d_need_count := ⟨_, fd1, _, _, F1, He.glo_ok KX G (c.fact 42 (f := .glo "need_count") rfl), full1 (F1.binds1 (ps := ["thing", "most"]) 2 1 (by intro z; cases z) rfl (fun _ _ _ _ _ _ _ us its h1 h2 => match us, h1, its, h2 with | [_, _], _, [_], _ => ⟨_, rfl, rfl⟩))⟩
    d_tallest_of := ⟨_, fd5, _, _, F5, He.glo_ok KX G (c.fact 43 (f := .glo "tallest_of") rfl), F5.bindsN (ps := ["width"]) (fun _ _ _ _ _ _ us hl => match us, hl with | [_], _ => rfl)⟩
    d_width_in := ⟨_, fd6, _, _, F6, He.glo_ok KX G (c.fact 44 (f := .glo "width_in") rfl), F6.bindsN (ps := ["thing", "most"]) (fun _ _ _ _ _ _ us hl => match us, hl with | [_, _], _ => rfl)⟩
    d_height_in := ⟨_, fd7, _, _, F7, He.glo_ok KX G (c.fact 45 (f := .glo "height_in") rfl), F7.bindsN (ps := ["shape"]) (fun _ _ _ _ _ _ us hl => match us, hl with | [_], _ => rfl)⟩
    d_balanced_height := ⟨_, fd8, _, _, F8, He.glo_ok KX G (c.fact 46 (f := .glo "balanced_height") rfl), F8.bindsN (ps := ["shape"]) (fun _ _ _ _ _ _ us hl => match us, hl with | [_], _ => rfl)⟩
    d_stem_of := ⟨_, fd9, _, _, F9, He.glo_ok KX G (c.fact 47 (f := .glo "stem_of") rfl), F9.bindsN (ps := ["shape"]) (fun _ _ _ _ _ _ us hl => match us, hl with | [_], _ => rfl)⟩
    d_shape_of := ⟨_, fd10, _, _, F10, He.glo_ok KX G (c.fact 48 (f := .glo "shape_of") rfl), F10.bindsN (ps := ["tree"]) (fun _ _ _ _ _ _ us hl => match us, hl with | [_], _ => rfl)⟩
    d_even_pair := ⟨_, fd11, _, _, F11, He.glo_ok KX G (c.fact 49 (f := .glo "even_pair") rfl), F11.bindsN (ps := ["builder", "left", "right"]) (fun _ _ _ _ _ _ us hl => match us, hl with | [_, _, _], _ => rfl)⟩
    d_row_joined := ⟨_, fd12, _, _, F12, He.glo_ok KX G (c.fact 50 (f := .glo "row_joined") rfl), F12.bindsN (ps := ["builder", "left", "right"]) (fun _ _ _ _ _ _ us hl => match us, hl with | [_, _, _], _ => rfl)⟩
    d_row_cut := ⟨_, fd13, _, _, F13, He.glo_ok KX G (c.fact 51 (f := .glo "row_cut") rfl), F13.bindsN (ps := ["builder", "tree", "many"]) (fun _ _ _ _ _ _ us hl => match us, hl with | [_, _, _], _ => rfl)⟩
    d_row_with := ⟨_, fd14, _, _, F14, He.glo_ok KX G (c.fact 52 (f := .glo "row_with") rfl), F14.bindsN (ps := ["builder", "tree", "place", "child"]) (fun _ _ _ _ _ _ us hl => match us, hl with | [_, _, _, _], _ => rfl)⟩
    d_row_without := ⟨_, fd15, _, _, F15, He.glo_ok KX G (c.fact 53 (f := .glo "row_without") rfl), F15.bindsN (ps := ["builder", "tree", "place"]) (fun _ _ _ _ _ _ us hl => match us, hl with | [_, _, _], _ => rfl)⟩
    d_need_shape := ⟨_, fd16, _, _, F16, He.glo_ok KX G (c.fact 54 (f := .glo "need_shape") rfl), F16.bindsN (ps := ["shape"]) (fun _ _ _ _ _ _ us hl => match us, hl with | [_], _ => rfl)⟩
    d_need_balanced := ⟨_, fd17, _, _, F17, He.glo_ok KX G (c.fact 55 (f := .glo "need_balanced") rfl), F17.bindsN (ps := ["shape"]) (fun _ _ _ _ _ _ us hl => match us, hl with | [_], _ => rfl)⟩
    d_is_shape := ⟨_, fd18, _, _, F18, He.glo_ok KX G (c.fact 56 (f := .glo "is_shape") rfl), F18.bindsN (ps := ["thing"]) (fun _ _ _ _ _ _ us hl => match us, hl with | [_], _ => rfl)⟩
    d_is_balanced := ⟨_, fd19, _, _, F19, He.glo_ok KX G (c.fact 57 (f := .glo "is_balanced") rfl), F19.bindsN (ps := ["shape"]) (fun _ _ _ _ _ _ us hl => match us, hl with | [_], _ => rfl)⟩
    d_width_of := ⟨_, fd20, _, _, F20, He.glo_ok KX G (c.fact 58 (f := .glo "width_of") rfl), F20.bindsN (ps := ["shape"]) (fun _ _ _ _ _ _ us hl => match us, hl with | [_], _ => rfl)⟩
    d_height_of := ⟨_, fd21, _, _, F21, He.glo_ok KX G (c.fact 59 (f := .glo "height_of") rfl), F21.bindsN (ps := ["shape"]) (fun _ _ _ _ _ _ us hl => match us, hl with | [_], _ => rfl)⟩
    d_tallest := ⟨_, fd22, _, _, F22, He.glo_ok KX G (c.fact 60 (f := .glo "tallest") rfl), F22.bindsN (ps := ["width"]) (fun _ _ _ _ _ _ us hl => match us, hl with | [_], _ => rfl)⟩
    d_joined_shapes := ⟨_, fd23, _, _, F23, He.glo_ok KX G (c.fact 61 (f := .glo "joined_shapes") rfl), F23.bindsN (ps := ["shape", "other"]) (fun _ _ _ _ _ _ us hl => match us, hl with | [_, _], _ => rfl)⟩
    d_cut_shape := ⟨_, fd24, _, _, F24, He.glo_ok KX G (c.fact 62 (f := .glo "cut_shape") rfl), F24.bindsN (ps := ["shape", "many"]) (fun _ _ _ _ _ _ us hl => match us, hl with | [_, _], _ => rfl)⟩
    d_put_shape := ⟨_, fd25, _, _, F25, He.glo_ok KX G (c.fact 63 (f := .glo "put_shape") rfl), F25.bindsN (ps := ["shape", "place"]) (fun _ _ _ _ _ _ us hl => match us, hl with | [_, _], _ => rfl)⟩
    d_taken_shape := ⟨_, fd26, _, _, F26, He.glo_ok KX G (c.fact 64 (f := .glo "taken_shape") rfl), F26.bindsN (ps := ["shape", "place"]) (fun _ _ _ _ _ _ us hl => match us, hl with | [_, _], _ => rfl)⟩
    d__law_feed := ⟨_, fd27, _, _, F27, He.glo_ok KX G (c.fact 65 (f := .glo "_law_feed") rfl), F27.bindsN (ps := ["script", "k"]) (fun _ _ _ _ _ _ us hl => match us, hl with | [_, _], _ => rfl)⟩
    d__law_draw := ⟨_, fd28, _, _, F28, He.glo_ok KX G (c.fact 66 (f := .glo "_law_draw") rfl), F28.bindsN (ps := ["feed", "many"]) (fun _ _ _ _ _ _ us hl => match us, hl with | [_, _], _ => rfl)⟩
    d__law_one := ⟨_, fd29, _, _, F29, He.glo_ok KX G (c.fact 67 (f := .glo "_law_one") rfl), F29.bindsN (ps := ["feed", "things"]) (fun _ _ _ _ _ _ us hl => match us, hl with | [_, _], _ => rfl)⟩
    d__law_least := ⟨_, fd30, _, _, F30, He.glo_ok KX G (c.fact 68 (f := .glo "_law_least") rfl), F30.bindsN (ps := ["height"]) (fun _ _ _ _ _ _ us hl => match us, hl with | [_], _ => rfl)⟩
    d__law_tallest := ⟨_, fd31, _, _, F31, He.glo_ok KX G (c.fact 69 (f := .glo "_law_tallest") rfl), F31.bindsN (ps := ["width"]) (fun _ _ _ _ _ _ us hl => match us, hl with | [_], _ => rfl)⟩
    d__law_balanced := ⟨_, fd32, _, _, F32, He.glo_ok KX G (c.fact 70 (f := .glo "_law_balanced") rfl), F32.bindsN (ps := ["feed", "width", "height"]) (fun _ _ _ _ _ _ us hl => match us, hl with | [_, _, _], _ => rfl)⟩
    d__law_any_balanced := ⟨_, fd33, _, _, F33, He.glo_ok KX G (c.fact 71 (f := .glo "_law_any_balanced") rfl), F33.bindsN (ps := ["feed", "most"]) (fun _ _ _ _ _ _ us hl => match us, hl with | [_, _], _ => rfl)⟩
    d__law_grown := ⟨_, fd34, _, _, F34, He.glo_ok KX G (c.fact 72 (f := .glo "_law_grown") rfl), F34.bindsN (ps := ["feed", "many", "spoil"]) (fun _ _ _ _ _ _ us hl => match us, hl with | [_, _, _], _ => rfl)⟩
    d__law_shape := ⟨_, fd35, _, _, F35, He.glo_ok KX G (c.fact 73 (f := .glo "_law_shape") rfl), F35.bindsN (ps := ["feed", "most"]) (fun _ _ _ _ _ _ us hl => match us, hl with | [_, _], _ => rfl)⟩
    d__law_trouble := ⟨_, fd36, _, _, F36, He.glo_ok KX G (c.fact 74 (f := .glo "_law_trouble") rfl), F36.bindsN (ps := ["thing"]) (fun _ _ _ _ _ _ us hl => match us, hl with | [_], _ => rfl)⟩
    d__law_sizes := ⟨_, fd37, _, _, F37, He.glo_ok KX G (c.fact 75 (f := .glo "_law_sizes") rfl), F37.bindsN (ps := ["shape"]) (fun _ _ _ _ _ _ us hl => match us, hl with | [_], _ => rfl)⟩
    d__law_is_shape := ⟨_, fd38, _, _, F38, He.glo_ok KX G (c.fact 76 (f := .glo "_law_is_shape") rfl), F38.bindsN (ps := ["thing"]) (fun _ _ _ _ _ _ us hl => match us, hl with | [_], _ => rfl)⟩
    d__law_even := ⟨_, fd39, _, _, F39, He.glo_ok KX G (c.fact 77 (f := .glo "_law_even") rfl), F39.bindsN (ps := ["width", "known"]) (fun _ _ _ _ _ _ us hl => match us, hl with | [_, _], _ => rfl)⟩
    d__law_joined := ⟨_, fd40, _, _, F40, He.glo_ok KX G (c.fact 78 (f := .glo "_law_joined") rfl), F40.bindsN (ps := ["one", "other"]) (fun _ _ _ _ _ _ us hl => match us, hl with | [_, _], _ => rfl)⟩
    d__law_right := ⟨_, fd41, _, _, F41, He.glo_ok KX G (c.fact 79 (f := .glo "_law_right") rfl), F41.bindsN (ps := ["one", "other"]) (fun _ _ _ _ _ _ us hl => match us, hl with | [_, _], _ => rfl)⟩
    d__law_asked_one := ⟨_, fd42, _, _, F42, He.glo_ok KX G (c.fact 80 (f := .glo "_law_asked_one") rfl), F42.bindsN (ps := ["script"]) (fun _ _ _ _ _ _ us hl => match us, hl with | [_], _ => rfl)⟩
    d__law_held := ⟨_, fd43, _, _, F43, He.glo_ok KX G (c.fact 81 (f := .glo "_law_held") rfl), F43.bindsN (ps := ["shape", "width"]) (fun _ _ _ _ _ _ us hl => match us, hl with | [_, _], _ => rfl)⟩
    d__law_deed := ⟨_, fd44, _, _, F44, He.glo_ok KX G (c.fact 82 (f := .glo "_law_deed") rfl), F44.bindsN (ps := ["feed", "held"]) (fun _ _ _ _ _ _ us hl => match us, hl with | [_, _], _ => rfl)⟩
    d__law_all_joined := ⟨_, fd45, _, _, F45, He.glo_ok KX G (c.fact 83 (f := .glo "_law_all_joined") rfl), F45.bindsN (ps := ["held"]) (fun _ _ _ _ _ _ us hl => match us, hl with | [_], _ => rfl)⟩
    d__law_asked_two := ⟨_, fd46, _, _, F46, He.glo_ok KX G (c.fact 84 (f := .glo "_law_asked_two") rfl), F46.bindsN (ps := ["script"]) (fun _ _ _ _ _ _ us hl => match us, hl with | [_], _ => rfl)⟩
    d_law := ⟨_, fd47, _, _, F47, He.glo_ok KX G (c.fact 85 (f := .glo "law") rfl), F47.bindsN (ps := ["script"]) (fun _ _ _ _ _ _ us hl => match us, hl with | [_], _ => rfl)⟩
  }
theorem law_def {K : PySem.W.Frag} (c : He.SaysD fa fn K) : ∃ fd, FunD K "law" "law" (defArgs (top 57)) (defBody (top 57)) (defScope (top 57)) [] [] (He.ga K "law") fd := by
  obtain ⟨fd, F⟩ := c.def_ 47 (d := ⟨("law", none), "law", "law", defArgs (top 57), defBody (top 57), defScope (top 57), [], []⟩) rfl
  exact ⟨fd, F⟩
theorem law_glo {K : PySem.W.Frag} {h : Heap} {mg : Str → Option Value} (KX : K.In h) (G : h.Ns mainGlobals mg) (c : He.SaysD fa fn K) : mg "law" = some (.ref (He.ga K "law")) := He.glo_ok KX G (c.fact 85 (f := .glo "law") rfl)
abbrev R : PySem.W.OpenRow := PySem.W.OpenLaw.row PySem.Challenge.rw_lawfulpages_k62_joined_shapes_and_rows_o
abbrev hk : PySem.W.Hook := He.hookX 6 fa fn [] [] exB
def ob (s : PySem.W.SharedT) : He.AlX := He.obsX 6 fa fn [] [] exB (HandSHeadRun.getT s)
theorem ob_eq (s : PySem.W.SharedT) : ob s = hk.obs s.abs := He.obsX_eq (HandSHeadRun.getT_eq s)
theorem run (w : World) : HandSHeadRun.RunEq R (PySem.W.view R.prog [lawAt]) hk ob 6000 names w := by
  intro os
  kernel_rfl

end K62

set_option maxHeartbeats 0
open PySem PySem.W PySem.Calls PyProof.Rows
theorem PySem.Challenge.cw_lawfulpages_k62_joined_shapes_and_rows_o_holds : PySem.Challenge.rw_lawfulpages_k62_joined_shapes_and_rows_o.Holds := by
  w_on; o_law
  refine HandSHeadRun.head_any (r := OpenLaw.row PySem.Challenge.rw_lawfulpages_k62_joined_shapes_and_rows_o) (q := view (OpenLaw.row PySem.Challenge.rw_lawfulpages_k62_joined_shapes_and_rows_o).prog [K62.lawAt]) (H := K62.hk) (ob := K62.ob) (M := 6000) (loose := K62.names)
    (d := HandSHeadRun.topDef (OpenLaw.row PySem.Challenge.rw_lawfulpages_k62_joined_shapes_and_rows_o).prog K62.lawAt) (kwd := []) K62.ob_eq
    (by kernel_rfl) (fun s => by kernel_rfl) K62.run (by kernel_rfl) (by kernel_rfl) (by kernel_rfl) (by rfl) (by first | assumption | decide +kernel) (by decide +kernel) ⟨rfl, rfl, rfl, rfl, rfl, by decide +kernel⟩ ?hw ?hc
  case hw => w_witness2
  case hc =>
    refine KB.walk_ofEB (l := PySem.Challenge.rw_lawfulpages_k62_joined_shapes_and_rows_o) (n := 63) (k := 150) (x := "script") rfl (by decide) (by kernel_rfl) ⟨rfl, by decide, by decide⟩ ?F
    intro w mg fa h Y G hmg0
    obtain ⟨K, KX, c⟩ := Y
    have hmg : mg ("law" : PySem.Str) = some (.ref fa) := by
      have e : (HandSHeadRun.topDef (OpenLaw.row PySem.Challenge.rw_lawfulpages_k62_joined_shapes_and_rows_o).prog K62.lawAt).name = ("law" : PySem.Str) := by kernel_rfl
      rw [← e]
      exact hmg0
    have cd := c.t.d
    have T := K62.txt_of KX G cd c.more
    obtain ⟨fd, F⟩ := K62.law_def cd
    have e := hmg.symm.trans (K62.law_glo KX G cd)
    cases e
    refine ⟨K, fd, K62.spLaw K, KX, ?_, fun H a ns hl hb _ hS => ⟨a, ns, rfl, hS, hb, hl, fun _ => rfl⟩, fun base _ _ => ?_⟩
    · have b := L2.FunD.bindsA (ps := ["script"]) F fun _ _ _ _ _ _ us hl => match us, hl with | [_], _ => rfl
      exact fun s v => b s [v] rfl
    · exact KB.fn_body F K62.sc_law (fun vs H Q E h => by obtain ⟨_, _, rfl, _⟩ := h; rfl) (K62.lawB T)
#print axioms PySem.Challenge.cw_lawfulpages_k62_joined_shapes_and_rows_o_holds
end
