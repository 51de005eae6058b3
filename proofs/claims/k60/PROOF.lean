import PyProof.Rows.All
import Wide.All
import OpenK.AllK
import Wide.FinOn
import KE.KStateDown
import HandS.ForExc
import HandS.Dict
import HandS.WordsDict
import HandS.Defaults
import HandS.IsInst
import HandS.Style
import HandS.Wide
import HandS.WideBits
import HandS.EndBits
import HandS.Head0
import HandS.Head1
import HandS.Head2
import HandS.HeadEnd
import HandS.HeadHook1
import HandS.HeadHook2
import HandS.Steps
import HandS.Evl
import HandS.HeadHook4
import PySem.Challenge.RW_lawfulpages_k60_tallest_by_least_widths
set_option Elab.async false
set_option linter.all false
set_option maxRecDepth 100000
set_option maxHeartbeats 4000000
namespace KB
open PySem PySem.Spec PyProof.Rows L2

/-! calls of the text's own defs, told by their names -/
structure Cal (P : Program) (w : World) (K : PySem.W.Frag) (mg : Str → Option Value) (base : Heap) (k : Nat) (x : Str) (sp : Sp) : Prop where
  ex : ∃ (f : Addr) (fd : FuncData) (ps : List Str), mg x = some (.ref f) ∧ PySem.W.keepIn K (.ref f) = true ∧ Binds K fd ps [] ∧
    FnOk P w K mg base (L2.CX P w) k f fd ps sp
structure Met (P : Program) (w : World) (K : PySem.W.Frag) (mg : Str → Option Value) (base : Heap) (k : Nat) (C : Addr) (m : Str) (sp : Sp) : Prop where
  cl : Cls K C
  ex : ∃ (f : Addr) (fd : FuncData) (ps : List Str), Meth K C m f ∧ Binds K fd ps [] ∧ FnOk P w K mg base (L2.CX P w) k f fd ps sp
structure Mak (P : Program) (w : World) (K : PySem.W.Frag) (mg : Str → Option Value) (base : Heap) (k : Nat) (x : Str) (C : Addr) (sp : Sp) : Prop where
  at_ : mg x = some (.ref C)
  ex : ∃ (f : Addr) (fd : FuncData) (ps : List Str), Mk K C f ∧ Binds K fd ps [] ∧ FnOk P w K mg base (L2.CX P w) k f fd ps sp

section
variable {X : Cx} {k j : Nat} {x m : Str} {sp : Sp} {W : WX} {p pos apos : Pos} {e o : Expr} {es : List Expr} {t : TA} {ta : TE} {C : Addr}
theorem pe_cal (c : Cal X.prog X.w X.K X.mg X.base k x sp) (hr : Room j X.A) (hk : k ≤ j) (tk : Takes X W) (ha : PA X (e :: es) t) (hg : Gl X x := by rfl)
    (hdb : (x == ("__debug__" : Str)) = false := by decide) (he : starEach (e :: es) X.env = (false, eval e X.env) :: starEach es X.env := by rfl)
    (hpl : (backTo pos (starEach es X.env)).any (·.1) = false := by rfl) :
    PE X (.Call (.Name x p) (e :: es) [] pos) (tCallS sp (WE W) t) := by
  obtain ⟨f, fd, ps, hm, hkp, hb, F⟩ := c.ex
  exact pe_callS F (hr.mono hk) hg hm hkp hb (fun σ => passAt tk σ) ha hdb he hpl
/-- how a method's call is read: the parts by computation -/
structure MF (X : Cx) (o : Expr) (m : Str) (apos : Pos) (e : Expr) (es : List Expr) (pos : Pos) (pl : Sem Bool) : Prop where
  h1 : starEach (e :: es) X.env =
    (false, eval e X.env) :: starEach es X.env
  h2 : (backTo pos (starEach es X.env)).any
    (·.1) = false
  h3 : eval (.Call (.Attribute o m apos) (e :: es) [] pos) X.env =
    eval o X.env >>= fun ov => standAt apos.atName >>= fun _ => holding [ov] (getMethod ov m pl) >>= fun r =>
      callWith pos r.1 r.2 (backTo pos (starEach (e :: es) X.env))
        (backToKw pos (keywordEach [] X.env))
theorem pe_met {pl : Sem Bool} (c : Met X.prog X.w X.K X.mg X.base k C m sp) (hr : Room j X.A) (hk : k ≤ j) (ho : PE X o ta) (ha : PA X (e :: es) t)
    (M : MF X o m apos e es pos pl := by exact ⟨by rfl, by rfl, by rfl⟩) : PE X (.Call (.Attribute o m apos) (e :: es) [] pos) (tMeth C m sp [] E0 ta t) := by
  obtain ⟨f, fd, ps, hm, hb, F⟩ := c.ex
  exact pe_meth ho c.cl hm F (hr.mono hk) hb .nil passL ha M.h1 M.h2 M.h3
theorem pe_mak (c : Mak X.prog X.w X.K X.mg X.base k x C sp) (hr : Room j X.A) (hk : k + 1 ≤ j) (ha : PA X (e :: es) t) (hg : Gl X x := by rfl)
    (hdb : (x == ("__debug__" : Str)) = false := by decide) (he : starEach (e :: es) X.env = (false, eval e X.env) :: starEach es X.env := by rfl)
    (hpl : (backTo pos (starEach es X.env)).any (·.1) = false := by rfl) :
    PE X (.Call (.Name x p) (e :: es) [] pos) (tMake C sp [] E0 t) := by
  obtain ⟨f, fd, ps, hm, hb, F⟩ := c.ex
  exact pe_make hm F (hr.mono hk) hg c.at_ hb .nil passL ha hdb he hpl
end

/-! a class of the text without an __init__ -/
structure Bare (K : PySem.W.Frag) (mg : Str → Option Value) (x : Str) (C : Addr) : Prop where
  at_ : mg x = some (.ref C)
  makes : PySem.W.makesIn K C = true
  ini : PySem.W.findIn K (.ref C) "__init__" = some (some (.builtin "object.__init__"))
  kp : PySem.W.keepIn K (.ref C) = true
def tBare (C : Addr) : TE := fun _ H Q => ∀ x dx, H x = none → H dx = none → dx ≠ x → Q (.ref x) (upd (upd H dx (.own x)) x (.ins C dx []))
theorem pe_bare {X : Cx} {x : Str} {C : Addr} {p pos : Pos} (b : Bare X.K X.mg x C) (hg : Gl X x := by rfl) (hdb : (x == ("__debug__" : Str)) = false := by decide) : PE X (.Call (.Name x p) [] [] pos) (tBare C) := by
  refine ⟨fun pins s σ H Q I h => ?_⟩
  refine wpAny_Call_Name_kw (ld_glob I hg b.at_ ?_ hdb)
  refine PySem.W.callWith_K0 I.kIn b.kp ?_
  have I2 := Inv.made (C := C) I
  have hq := h (s.heap.objs.size + 1) s.heap.objs.size (I.hok.fresh (Nat.le_succ _)) (I.hok.fresh (Nat.le_refl _)) (Nat.ne_of_lt (Nat.lt_succ_self _))
  have kin := I.kIn
  have Y := PySem.W.makes_of (M := model X.prog X.w) I2.kIn b.makes
  refine wpAny_call ?_
  obtain ⟨hh, g, d, t, os⟩ := s
  refine PySem.W.make_core (PySem.W.makes_of kin b.makes) (PySem.W.looks_findIn kin b.ini) (fun self => PySem.W.Looks.of_pure (PySem.W.oi_bind self)) (.inr ⟨rfl, rfl⟩) ?_
  have e2 : ((hh.push PySem.W.emptyDict).push (PySem.W.instObj C hh.objs.size)).get? (hh.objs.size + 1) = some (PySem.W.instObj C hh.objs.size) := by
    have z := Heap.get?_push_size (hh.push PySem.W.emptyDict) (o := PySem.W.instObj C hh.objs.size) rfl
    rwa [Heap.size_push] at z
  have l1 : PySem.W.Looks (model X.prog X.w) ((hh.push PySem.W.emptyDict).push (PySem.W.instObj C hh.objs.size)) (typeOf (.ref (hh.objs.size + 1))) (.ref C) :=
    (PySem.W.Looks.ld e2).andThen .now
  refine codeAny_call_builtin PySem.W.oi_plain PySem.W.entry_oi ?_
  show wpAny _ _ (checkBuiltinCall "object.__init__" ⟨[.ref (hh.objs.size + 1)], []⟩) _ _ _
  refine PySem.W.check_slot (i := "object.__init__") (owner := "object") (n := "__init__") (self := .ref (hh.objs.size + 1)) (rest := []) (kw := []) PySem.W.oi_kind PySem.W.oi_split (l1.andThen Y.top) (PySem.W.oi_args _) ?_
  show wpAny _ _ (Builtin.«object.__init__» ⟨[.ref (hh.objs.size + 1)], []⟩) _ _ _
  rw [PySem.W.oi_run]
  refine wpAny_pure ⟨rfl, ?_⟩
  exact ⟨.ref (hh.objs.size + 1), _, I2, rfl, hq⟩

/-! a def of the text by the head's facts -/
section
variable {P : Program} {w : World} {K : PySem.W.Frag} {mg : Str → Option Value} {base : Heap}
/-- its body keeps the promise: what is to be shown of it -/
def Body (P : Program) (w : World) (K : PySem.W.Frag) (mg : Str → Option Value) (base : Heap) (k : Nat) (N : List Str) (qual : Str) (sc : Scope) (body : List Stmt) (sp : Sp) : Prop :=
  ∀ (f : Addr) (cdv : Value) (A : Around) (outer : List Env) (s : Shared) (H : Hp) (vs : List V) (Q : VK) (E : XK), Room k (A.deeper (envOfC qual sc s.heap.objs.size f cdv)) → sp vs H Q E →
    ∃ t, PSs (cxOf (L2.CX P w) P w K mg base N qual sc f cdv A outer s H E) body t ∧ t { nx := fun _ H' => Q .non H', rt := Q } (start N vs) H
theorem fn_body {x qual : Str} {params : Arguments} {body : List Stmt} {sc : Scope} {dvs : List V} {kws : List (Str × V)} {f : Addr} {fd : FuncData} {N ps : List Str} {k : Nat} {sp : Sp}
    (F : FunD K x qual params body sc dvs kws f fd) (S : FnScope N ps sc) (len : ∀ vs H Q E, sp vs H Q E → vs.length = ps.length) (B : Body P w K mg base k N qual sc body sp) :
    FnOk P w K mg base (L2.CX P w) (k + 1) f fd ps sp := F.ok S len fun cdv A outer s H vs Q E hr h => B f cdv A outer s H vs Q E hr h
/-- a parameter list without defaults binds -/
def Plain (ps : List Str) (x qual : Str) (params : Arguments) (body : List Stmt) (sc : Scope) : Prop :=
  ∀ (kV doc pm : Value) (an : Option Addr) (cdv ct : Value) (us : List Value), us.length = ps.length → bindArgs (PySem.W.fnOf x qual params body sc .none kV doc pm an cdv ct) ⟨us, []⟩ = pure (ps.zip us)
end

/-! the end -/
theorem walk_ofEB {l : PySem.W.OpenLaw} {n k : Nat} {q : Program} {loose : List Str} {XP : (Str → Option Value) → Heap → Prop} {YP : World → Heap → Prop} {d : DefRec} {x : Str}
    (hn : l.most = some n) (hn2 : n ≤ sizeLine) (hdf : d.params.defaults = []) (hr : Room k callerA)
    (F : ∀ (w : World) (mg : Str → Option Value) (fa : Addr) (h : Heap), YP w h → h.Ns mainGlobals mg → mg d.name = some (.ref fa) →
      ∃ (K : PySem.W.Frag) (fd : FuncData) (sp : Sp), K.In h ∧ (∀ (s : Shared) (u : Value), BindsTo s fd ⟨[u], []⟩ [(x, u)]) ∧
        (∀ (H : Hp) (a : Addr) (ns : List Int), ns.length ≤ n → (∀ z ∈ ns, Builtin.Int.intBits z ≤ 1048576) → Only H → SqL K H a (ns.map V.int) → sp [.ref a] H (fun v _ => v = .bl true) fun _ _ _ => False) ∧
        ∀ base : Heap, K.In base → base.Ns mainGlobals mg → FnOk l.prog w K mg base (L2.CX l.prog w) k fa fd [x] sp) :
    PySem.W.WalkO q loose XP YP l.row.toRowW d [] (fun f vs => PySem.call f vs) := by
  refine Att.attach_callB hn hdf ?_
  intro w s₀ s₁ mg mb fa o pm cd doc a vs ns G Y ho hd hcd hmg hobj hints hlen hbits hg
  obtain ⟨K, fd, sp, KX, hb, hsp, hF⟩ := F w mg fa _ Y G.T.g hmg
  refine law_call KX G.T.g G.T.b G.T.builtins G.T.nolimit hg hobj hints (Nat.le_trans hlen hn2) hr hF hb (fun H hO hS => hsp H a ns hlen hbits hO hS) ?_
  intro H e s' z
  obtain ⟨_, _, _, _, _, _, _, _, _, _, _, _, y⟩ := z
  exact y

/-! values' types, for isinstance with a built-in class -/
def tyN (H : Hp) : V → Option String
  | .non => some "NoneType"
  | .bl _ => some "bool"
  | .int _ => some "int"
  | .str _ => some "str"
  | .ref a => match H a with
    | some (.lst _) => some "list"
    | some (.tup _) => some "tuple"
    | some (.dK _) => some "dict"
    | some (.dT _) => some "dict"
    | some (.frz _ (.lst _)) => some "list"
    | _ => none
  | _ => none
theorem tyN_ok {K : PySem.W.Frag} {H : Hp} {x : V} {n : String} (h : tyN H x = some n) : TyX K H x (.type n) := by
  cases x with
  | non => cases h; exact .base .non
  | bl b => cases h; exact .base (.bl b)
  | int i => cases h; exact .base (.int i)
  | str x => cases h; exact .base (.str x)
  | ref a =>
    have h1 : (match H a with
      | some (.lst _) => some "list"
      | some (.tup _) => some "tuple"
      | some (.dK _) => some "dict"
      | some (.dT _) => some "dict"
      | some (.frz _ (.lst _)) => some "list"
      | _ => none) = some n := h
    split at h1
    · rename_i e; cases h1; exact .base (.lst e)
    · rename_i e; cases h1; exact .base (.tup e)
    · rename_i e; cases h1; exact .base (.dK e)
    · rename_i e; cases h1; exact .base (.dT e)
    · rename_i e; cases h1; exact .base (.frz e)
    · cases h1
  | _ => cases h
def rIsN1 : List V → Hp → VK → Prop := fun xs H Q => ∃ (x : V) (T n : String) (b : Bool), xs = [x, .ty T] ∧ tyN H x = some n ∧ kitB n T = some b ∧ Q (.bl b) H
theorem call_isN1 {X : Cx} : CallR X (.builtin "isinstance") rIsN1 := by
  intro pins s σ H xs us Q I r h
  obtain ⟨x, T, n, b, e, h1, h2, q⟩ := h
  exact call_isi pins s σ H xs us Q I r ⟨x, .ty T, .type n, .type T, b, e, .ty T, tyN_ok h1, kit_ty h2, q⟩
/-- a constant of the module that is an int -/
theorem pe_gint {X : Cx} {x : Str} {i : Int} {pos : Pos} (hm : ∃ t, X.mg x = some (.int i t)) (hg : Gl X x := by rfl) (hd : (x == ("__debug__" : Str)) = false := by decide) : PE X (.Name x pos) (tC (.int i)) := by
  obtain ⟨t, hm⟩ := hm
  exact pe_glob hg hm ⟨t, rfl⟩ hd
/-- an own exception class over ValueError -/
structure ExcC (K : PySem.W.Frag) (mg : Str → Option Value) (x : Str) (C : Addr) : Prop where
  at_ : mg x = some (.ref C)
  ex : PySem.W.excIn K C He.veBase "ValueError.__new__" = true
  kp : PySem.W.keepIn K (.ref C) = true
  sub : PySem.W.subIn K (.ref C) (.type "BaseException") = some true
  ty : PySem.W.typeIn K (.ref C) = some (.type "type")
theorem ps_raiseX {X : Cx} {W : WX} {x m : Str} {C : Addr} {j : Nat} {p p2 pos pos' : Pos} (c : ExcC X.K X.mg x C) (tk : Takes X W) (hc : X.calm = true := by rfl) (hg : Gl X x := by rfl) (hdb : (x == ("__debug__" : Str)) = false := by decide) :
    PS X (.Raise (some (.Call (.Name x p) [.Constant (.str m) j p2] [] pos)) none pos') (fun _ σ H => W (.ref C) none σ H) :=
  ps_raise hc tk (pmk_own PySem.F.excBase_ValueError c.ex c.at_ c.kp (raises_own c.sub c.ty) hg hdb)
theorem pe_ty {X : Cx} {x : Str} {pos : Pos} (n : String) (hm : X.mg x = none) (hv : bootBuiltins x = some (.type n) := by decide +kernel) (hg : Gl X x := by rfl) (hn : x ≠ "__name__" := by decide) (hd : (x == ("__debug__" : Str)) = false := by decide) :
    PE X (.Name x pos) (tC (.ty n)) := pe_bltn hg hm hv rfl hn hd

/-! defs as they stand behind the top; a call's promise by the body's -/
structure DefT (K : PySem.W.Frag) (mg : Str → Option Value) (x : Str) (st : Stmt) (ps : List Str) : Prop where
  ex : ∃ (f : Addr) (fd : FuncData) (dvs : List V) (kws : List (Str × V)), FunD K x x (defArgs st) (defBody st) (defScope st) dvs kws f fd ∧ mg x = some (.ref f) ∧ Binds K fd ps []
structure MetT (K : PySem.W.Frag) (C : Addr) (m qual : Str) (st : Stmt) (ps : List Str) : Prop where
  ex : ∃ (f : Addr) (fd : FuncData) (dvs : List V) (kws : List (Str × V)), FunD K m qual (defArgs st) (defBody st) (defScope st) dvs kws f fd ∧ Meth K C m f ∧ Binds K fd ps []
structure MakT (K : PySem.W.Frag) (mg : Str → Option Value) (x : Str) (C : Addr) (qual : Str) (st : Stmt) (ps : List Str) : Prop where
  at_ : mg x = some (.ref C)
  ex : ∃ (f : Addr) (fd : FuncData) (dvs : List V) (kws : List (Str × V)), FunD K "__init__" qual (defArgs st) (defBody st) (defScope st) dvs kws f fd ∧ Mk K C f ∧ Binds K fd ps []
def spNo : Sp := fun _ _ _ _ => False
def spPre (sp : Nat → Sp) : Nat → Sp
  | 0 => spNo
  | n + 1 => sp n
section
variable {P : Program} {w : World} {K : PySem.W.Frag} {mg : Str → Option Value} {base : Heap} {x m qual : Str} {C : Addr} {st : Stmt} {ps N : List Str} {k : Nat}
theorem DefT.cal {sp : Sp} (d : DefT K mg x st ps) (S : FnScope N ps (defScope st)) (len : ∀ vs H Q E, sp vs H Q E → vs.length = ps.length)
    (B : Body P w K mg base k N x (defScope st) (defBody st) sp) : Cal P w K mg base (k + 1) x sp := by
  obtain ⟨f, fd, dvs, kws, F, h1, h2⟩ := d.ex
  exact ⟨f, fd, ps, h1, F.kp, h2, fn_body F S len B⟩
theorem DefT.no (d : DefT K mg x st ps) : Cal P w K mg base k x spNo := by
  obtain ⟨f, fd, dvs, kws, F, h1, h2⟩ := d.ex
  exact ⟨f, fd, ps, h1, F.kp, h2, ⟨fun _ _ _ _ z => z.elim, fun _ _ _ _ _ _ _ _ _ _ _ _ _ z => z.elim⟩⟩
theorem MetT.met {sp : Sp} (d : MetT K C m qual st ps) (c : Cls K C) (S : FnScope N ps (defScope st)) (len : ∀ vs H Q E, sp vs H Q E → vs.length = ps.length)
    (B : Body P w K mg base k N qual (defScope st) (defBody st) sp) : Met P w K mg base (k + 1) C m sp := by
  obtain ⟨f, fd, dvs, kws, F, h1, h2⟩ := d.ex
  exact ⟨c, f, fd, ps, h1, h2, fn_body F S len B⟩
theorem MakT.mak {sp : Sp} (d : MakT K mg x C qual st ps) (S : FnScope N ps (defScope st)) (len : ∀ vs H Q E, sp vs H Q E → vs.length = ps.length)
    (B : Body P w K mg base k N qual (defScope st) (defBody st) sp) : Mak P w K mg base (k + 1) x C sp := by
  obtain ⟨f, fd, dvs, kws, F, h1, h2⟩ := d.ex
  exact ⟨d.at_, f, fd, ps, h1, h2, fn_body F S len B⟩
theorem Cal.mono {sp : Sp} {j : Nat} (c : Cal P w K mg base j x sp) (h : j ≤ k) : Cal P w K mg base k x sp := by
  obtain ⟨f, fd, ps, h1, h2, h3, F⟩ := c.ex
  exact ⟨f, fd, ps, h1, h2, h3, F.mono h⟩
theorem Cal.imp {sp sp' : Sp} (c : Cal P w K mg base k x sp) (h : ∀ vs H Q E, sp' vs H Q E → sp vs H Q E) : Cal P w K mg base k x sp' := by
  obtain ⟨f, fd, ps, h1, h2, h3, F⟩ := c.ex
  exact ⟨f, fd, ps, h1, h2, h3, F.imp h⟩
/-- a def that calls itself: by the promise of one less deep; c: what else it calls -/
theorem DefT.rec_ {sp : Nat → Sp} (d : DefT K mg x st ps) (S : FnScope N ps (defScope st)) (c : Nat) (len : ∀ n vs H Q E, sp n vs H Q E → vs.length = ps.length)
    (B : ∀ n, Cal P w K mg base (n + c) x (spPre sp n) → Body P w K mg base (n + c) N x (defScope st) (defBody st) (sp n)) : ∀ n, Cal P w K mg base (n + c + 1) x (sp n) := by
  intro n
  induction n with
  | zero => exact d.cal S (len 0) (B 0 (d.no (k := 0 + c)))
  | succ n ih => exact d.cal S (len (n + 1)) (B (n + 1) (ih.mono (by omega)))
/-- how a def's parameters are bound, from its row -/
theorem defT_of {d : He.DefD} {fd : FuncData} (hx : d.name = x) (hq : d.qual = x) (ha : d.params = defArgs st) (hb : d.body = defBody st) (hs : d.scope = defScope st) (h0 : d.dfl = []) (h1 : d.kwd = [])
    (F : FunD K d.name d.qual d.params d.body d.scope (d.dvs K) (d.kws K) (He.fAd K d.at_) fd) (hm : mg x = some (.ref (He.fAd K d.at_)))
    (pl : Plain ps x x (defArgs st) (defBody st) (defScope st)) : DefT K mg x st ps := by
  rw [hx, hq, ha, hb, hs] at F
  have e1 : d.dvs K = [] := by unfold He.DefD.dvs; rw [h0]; rfl
  have e2 : d.kws K = [] := by unfold He.DefD.kws; rw [h1]; rfl
  rw [e1, e2] at F
  exact ⟨_, _, [], [], F, hm, F.bindsN pl⟩
end
end KB

set_option maxHeartbeats 4000000
/-! readings, one step at a time -/
namespace KB
open PySem PySem.Spec PyProof.Rows L2

theorem Same.new {H : Hp} {p : Addr} {o : HO} (h : H p = none) : Same H (upd H p o) := fun b u e => by rw [upd_ne (ne_of_none e h)]; exact e
theorem Same.upd {H H' : Hp} {p : Addr} {o : HO} (s : Same H H') (h : H p = none) : Same H (upd H' p o) := fun b u e => by rw [upd_ne (ne_of_none e h)]; exact s b u e

/-! named readings of rules that have none -/
def rLenK (K : PySem.W.Frag) : List V → Hp → VK → Prop := fun xs H Q => ∃ x n, xs = [x] ∧ LenV K x H n ∧ Q (.int n) H
theorem call_lenK {X : Cx} : CallR X (.builtin "len") (rLenK X.K) := call_len
def rMax2 : List V → Hp → VK → Prop := fun xs H Q => ∃ i j, xs = [.int i, .int j] ∧ Q (.int (if j > i then j else i)) H
theorem call_max2K {X : Cx} (hc : X.calm = true) : CallR X (.builtin "max") rMax2 := call_max2 hc
def rMin2 : List V → Hp → VK → Prop := fun xs H Q => ∃ i j, xs = [.int i, .int j] ∧ Q (.int (if j < i then j else i)) H
theorem call_min2K {X : Cx} (hc : X.calm = true) : CallR X (.builtin "min") rMin2 := call_min2 hc
def rAbs : List V → Hp → VK → Prop := fun xs H Q => ∃ i, xs = [.int i] ∧ Q (.int (if i < 0 then -i else i)) H
theorem call_absK {X : Cx} : CallR X (.builtin "abs") rAbs := call_abs
def rInt1 : List V → Hp → VK → Prop := fun xs H Q => (∃ i, xs = [.int i] ∧ Q (.int i) H) ∨ ∃ k, xs = [.bl k] ∧ Q (.int (if k then 1 else 0)) H
theorem call_int1K {X : Cx} : CallR X (.type "int") rInt1 := call_int1

section
variable {σ : L2.St} {H : Hp} {Q : VK} {D : Ends} {v x y : V} {i j : Nat} {te ta tb tc tv : TE} {t u : TS} {tt tu : TT} {tr : TA} {K : PySem.W.Frag} {r r' : R2}
  {QB : Bool → Hp → Prop} {QA : List V → Hp → Prop} {g : TG} {a C dx p : Addr} {fs : List (Str × V)} {f m : Str} {xs vs : List V} {n k : Int} {b c : Bool}
theorem i_var (h : σ[i]? = some (some v)) (q : Q v H) : tVar i σ H Q := ⟨v, h, q⟩
theorem i_c (q : Q v H) : tC v σ H Q := q
theorem i_op (q : ta σ H fun x H1 => tb σ H1 fun y H2 => r x y H2 Q) : tOp r ta tb σ H Q := q
theorem i_un {ru : V → Hp → VK → Prop} (q : ta σ H fun x H1 => ru x H1 Q) : tUn ru ta σ H Q := q
theorem i_rI0 {gg : Int → Int → V} (q : Q (gg n k) H) : rI0 gg (.int n) (.int k) H Q := ⟨n, k, rfl, rfl, q⟩
theorem i_rI {P : Int → Int → Prop} {gg : Int → Int → V} (hc : P n k) (q : Q (gg n k) H) : rI P gg (.int n) (.int k) H Q := ⟨n, k, rfl, rfl, hc, q⟩
theorem i_rU {gg : Int → V} (q : Q (gg n) H) : rU gg (.int n) H Q := ⟨n, rfl, q⟩
theorem i_eqI (q : Q (.bl (decide (n = k))) H) : rEq (.int n) (.int k) H Q := ⟨rfl, by
  have e : decide (V.int n = V.int k) = decide (n = k) := by rw [dec_int, Bool.beq_eq_decide_eq]
  rw [e]; exact q⟩
theorem i_neI (q : Q (.bl (!decide (n = k))) H) : rNe (.int n) (.int k) H Q := ⟨rfl, by
  have e : decide (V.int n = V.int k) = decide (n = k) := by rw [dec_int, Bool.beq_eq_decide_eq]
  rw [e]; exact q⟩
theorem i_isN0 (q : Q (.bl true) H) : rIsN .non .non H Q := ⟨rfl, by simpa using q⟩
theorem i_isNr (q : Q (.bl false) H) : rIsN (.ref a) .non H Q := ⟨rfl, by simpa using q⟩
theorem i_isNi (q : Q (.bl false) H) : rIsN (.int n) .non H Q := ⟨rfl, by simpa using q⟩
theorem i_isNb (q : Q (.bl false) H) : rIsN (.bl b) .non H Q := ⟨rfl, by simpa using q⟩
theorem i_notN0 (q : Q (.bl false) H) : rNotN .non .non H Q := ⟨rfl, by simpa using q⟩
theorem i_notNr (q : Q (.bl true) H) : rNotN (.ref a) .non H Q := ⟨rfl, by simpa using q⟩
theorem i_notNi (q : Q (.bl true) H) : rNotN (.int n) .non H Q := ⟨rfl, by simpa using q⟩
theorem i_isB (q : Q (.bl (decide (b = c))) H) : rIsB (.bl b) (.bl c) H Q := ⟨b, c, rfl, rfl, q⟩
theorem i_notB (q : Q (.bl (!decide (b = c))) H) : rNotB (.bl b) (.bl c) H Q := ⟨b, c, rfl, rfl, q⟩
theorem i_test (q : te σ H fun x H' => ∃ k, x = .bl k ∧ QB k H') : tTest te σ H QB := q
theorem i_B (q : te σ H fun x H' => ∃ k, x = .bl k ∧ QB k H') : tB te σ H QB := q
theorem i_bl {R : Bool → Prop} (h : R b) : ∃ k, V.bl b = V.bl k ∧ R k := ⟨b, rfl, h⟩
theorem i_and (q : tt σ H fun c H1 => if c = true then tu σ H1 QB else QB false H1) : tAnd tt tu σ H QB := q
theorem i_or (q : tt σ H fun c H1 => if c = true then QB true H1 else tu σ H1 QB) : tOr tt tu σ H QB := q
theorem i_not (q : tt σ H fun c H1 => QB (!c) H1) : tNot tt σ H QB := q
theorem i_andV (q : ta σ H fun x H1 => ∃ k, x = .bl k ∧ if k = true then tb σ H1 Q else Q (.bl false) H1) : tAndV ta tb σ H Q := q
theorem i_orV (q : ta σ H fun x H1 => ∃ k, x = .bl k ∧ if k = true then Q (.bl true) H1 else tb σ H1 Q) : tOrV ta tb σ H Q := q
theorem i_notV (q : ta σ H fun x H1 => ∃ k, x = .bl k ∧ Q (.bl (!k)) H1) : tNotV ta σ H Q := q
theorem i_if (q : tt σ H fun c H1 => if c = true then ta σ H1 Q else tb σ H1 Q) : tIf tt ta tb σ H Q := q
theorem i_nil (q : QA [] H) : tNil σ H QA := q
theorem i_cons (q : te σ H fun x H1 => tr σ H1 fun xs H2 => QA (x :: xs) H2) : tCons te tr σ H QA := q
theorem i_tup (q : tr σ H fun xs H1 => xs.length ≤ sizeLine ∧ ∀ p, H1 p = none → Q (.ref p) (upd H1 p (.tup xs))) : tTup tr σ H Q := q
theorem i_lst (q : tr σ H fun xs H1 => xs.length ≤ sizeLine ∧ ∀ p, H1 p = none → Q (.ref p) (upd H1 p (.lst xs))) : tLst tr σ H Q := q
theorem i_call {sp : Sp} {E : L2.St → XK} (q : tr σ H fun vs H1 => sp vs H1 Q (E σ)) : tCallS sp E tr σ H Q := q
theorem i_CB {rr : List V → Hp → VK → Prop} (q : tr σ H fun vs H1 => rr vs H1 Q) : tCB rr tr σ H Q := q
theorem i_lenL (h : SqL K H p xs) (q : Q (.int (xs.length : Nat)) H) : rLenK K [.ref p] H Q := ⟨_, _, rfl, .inl ⟨_, h, rfl⟩, q⟩
theorem i_lenT (h : SqT K H p xs) (q : Q (.int (xs.length : Nat)) H) : rLenK K [.ref p] H Q := ⟨_, _, rfl, .inr ⟨_, h, rfl⟩, q⟩
theorem i_max2 (q : Q (.int (max n k)) H) : rMax2 [.int n, .int k] H Q := ⟨n, k, rfl, by
  have e : (if k > n then k else n) = max n k := by omega
  rw [e]; exact q⟩
theorem i_min2 (q : Q (.int (min n k)) H) : rMin2 [.int n, .int k] H Q := ⟨n, k, rfl, by
  have e : (if k < n then k else n) = min n k := by omega
  rw [e]; exact q⟩
theorem i_abs (q : Q (.int (if n < 0 then -n else n)) H) : rAbs [.int n] H Q := ⟨n, rfl, q⟩
theorem i_int1 (q : Q (.int n) H) : rInt1 [.int n] H Q := .inl ⟨n, rfl, q⟩
theorem i_inst {T nn : String} (h1 : tyN H x = some nn) (h2 : kitB nn T = some b) (q : Q (.bl b) H) : rIsN1 [x, .ty T] H Q := ⟨x, T, nn, b, rfl, h1, h2, q⟩
theorem i_ixL (h : SqL K H p xs) (ha : atI xs n = some v) (q : Q v H) : rIxL K (.ref p) (.int n) H Q := ⟨p, xs, n, v, rfl, rfl, h, ha, q⟩
theorem i_ixT (h : SqT K H p xs) (ha : atI xs n = some v) (q : Q v H) : rIxT K (.ref p) (.int n) H Q := ⟨p, xs, n, v, rfl, rfl, h, ha, q⟩
theorem i_ixSL (h : SqL K H p xs) (ha : atI xs n = some v) (q : Q v H) : rIx K (.ref p) (.int n) H Q := .inl ⟨p, xs, n, v, rfl, rfl, h, ha, q⟩
theorem i_ixST (h : SqT K H p xs) (ha : atI xs n = some v) (q : Q v H) : rIx K (.ref p) (.int n) H Q := .inr (.inl ⟨p, xs, n, v, rfl, rfl, h, ha, q⟩)
theorem i_fld (q : ta σ H fun x H1 => ∃ a C dx fs v, x = .ref a ∧ H1 a = some (.ins C dx fs) ∧ Cls K C ∧ NoAttr K C f ∧ fs.lookup f = some v ∧ Q v H1) : tFld K ta f σ H Q := q
theorem i_fldR {Q : V → Prop} (h : H a = some (.ins C dx fs)) (c : Cls K C) (na : NoAttr K C f) (hl : fs.lookup f = some v) (q : Q v) :
    ∃ (a' : Addr) (C' : Addr) (dx' : Addr) (fs' : List (Str × V)) (v' : V), V.ref a = .ref a' ∧ H a' = some (.ins C' dx' fs') ∧ Cls K C' ∧ NoAttr K C' f ∧ fs'.lookup f = some v' ∧ Q v' := ⟨a, C, dx, fs, v, rfl, h, c, na, hl, q⟩
theorem i_meth {sp : Sp} {dvs : List V} {E : XK} (q : ta σ H fun x H1 => ∃ a dx fs, x = .ref a ∧ H1 a = some (.ins C dx fs) ∧ fs.lookup m = none ∧ tr σ H1 fun vs H2 => sp (x :: (vs ++ dvs)) H2 Q E) : tMeth C m sp dvs E ta tr σ H Q := q
theorem i_make {sp : Sp} {dvs : List V} {E : XK} (q : tr σ H fun vs H1 => ∀ x dx, H1 x = none → H1 dx = none → dx ≠ x → sp (.ref x :: (vs ++ dvs)) (upd (upd H1 dx (.own x)) x (.ins C dx [])) (fun v H2 => v = .non ∧ Q (.ref x) H2) E) : tMake C sp dvs E tr σ H Q := q
theorem i_bits (q : te σ H fun x H1 => ∃ i, x = .int i ∧ Q (.int (Builtin.Int.intBits i : Nat)) H1) : tBits te σ H Q := q
theorem i_int {R : Int → Prop} (h : R n) : ∃ i, V.int n = V.int i ∧ R i := ⟨n, rfl, h⟩
/-! statements -/
theorem i_seq (q : t { D with nx := u D } σ H) : tSeq t u D σ H := q
theorem i_nx {N : L2.St → Hp → Prop} {B C : L2.St → Hp → Prop} {R : VK} (q : N σ H) : Ends.nx (Ends.mk N R B C) σ H := q
theorem i_rt {N : L2.St → Hp → Prop} {B C : L2.St → Hp → Prop} {R : VK} (q : R v H) : Ends.rt (Ends.mk N R B C) v H := q
theorem i_bk {N : L2.St → Hp → Prop} {B C : L2.St → Hp → Prop} {R : VK} (q : B σ H) : Ends.bk (Ends.mk N R B C) σ H := q
theorem i_ct {N : L2.St → Hp → Prop} {B C : L2.St → Hp → Prop} {R : VK} (q : C σ H) : Ends.ct (Ends.mk N R B C) σ H := q
theorem i_next (q : D.nx σ H) : tNext D σ H := q
theorem i_brk (q : D.bk σ H) : tBreak D σ H := q
theorem i_cnt (q : D.ct σ H) : tCont D σ H := q
theorem i_drop (q : te σ H fun _ H1 => D.nx σ H1) : tDrop te D σ H := q
theorem i_ret (q : te σ H fun v H1 => D.rt v H1) : tRet te D σ H := q
theorem i_ifS (q : tt σ H fun b H1 => if b = true then t D σ H1 else u D σ H1) : tIfS tt t u D σ H := q
theorem i_asg (q : te σ H fun x H1 => g x σ H1 fun s h => D.nx s h) : tAsg te g D σ H := q
theorem i_gname {R : L2.St → Hp → Prop} (q : R (σ.set i (some v)) H) : gName i v σ H R := q
theorem i_par (q : tr σ H fun vs H1 => ∃ v w, vs = [v, w] ∧ D.nx ((σ.set i (some v)).set j (some w)) H1) : tPar i j tr D σ H := q
theorem i_two {R : V → V → Prop} (q : R x y) : ∃ v w, [x, y] = [v, w] ∧ R v w := ⟨x, y, rfl, q⟩
theorem i_par3 {l : Nat} (q : tr σ H fun vs H1 => ∃ u v w, vs = [u, v, w] ∧ D.nx (((σ.set i (some u)).set j (some v)).set l (some w)) H1) : tPar3 i j l tr D σ H := q
theorem i_three {z : V} {R : V → V → V → Prop} (q : R x y z) : ∃ u v w, [x, y, z] = [u, v, w] ∧ R u v w := ⟨x, y, z, rfl, q⟩
theorem i_sub {ti : TE} {ts : TSet} {R : L2.St → Hp → Prop} (q : ta σ H fun o H1 => ti σ H1 fun z H2 => ts o z v H2 fun H3 => R σ H3) : gSub ta ti ts v σ H R := q
theorem i_setL {R : Hp → Prop} (h : H p = some (.lst xs)) (hk : ixN xs.length k = some j) (q : R (upd H p (.lst (xs.set j v)))) : rSetL (.ref p) (.int k) v H R := ⟨p, xs, k, j, rfl, rfl, h, hk, q⟩
theorem i_sfld (q : tv σ H fun y H1 => ta σ H1 fun x H2 => ∃ a C dx fs, x = .ref a ∧ H2 a = some (.ins C dx fs) ∧ Cls K C ∧ NoAttr K C f ∧ fs.length < 1000 ∧ D.nx σ (upd H2 a (.ins C dx (putF f y fs)))) : sFld K ta tv f D σ H := q
theorem i_BM {T : String} {rr : V → List V → Hp → VK → Prop} (q : te σ H fun x H1 => tyV K T x H1 ∧ tr σ H1 fun xs H2 => rr x xs H2 Q) : tBM K T rr te tr σ H Q := q
/-! tests that are known, or not -/
theorem i_T {A B : Prop} (q : A) : if true = true then A else B := iteT q
theorem i_F {A B : Prop} (q : B) : if false = true then A else B := iteF q
theorem i_dec {P A B : Prop} [Decidable P] (h1 : P → A) (h2 : ¬P → B) : if decide P = true then A else B := by
  by_cases h : P
  · rw [if_pos (decide_eq_true h)]; exact h1 h
  · rw [if_neg (by rw [decide_eq_false h]; decide)]; exact h2 h
theorem i_ndec {P A B : Prop} [Decidable P] (h1 : ¬P → A) (h2 : P → B) : if (!decide P) = true then A else B := by
  by_cases h : P
  · rw [if_neg (by rw [decide_eq_true h]; decide)]; exact h2 h
  · rw [if_pos (by rw [decide_eq_false h]; decide)]; exact h1 h
theorem i_decT {P A B : Prop} [Decidable P] (h : P) (q : A) : if decide P = true then A else B := i_dec (fun _ => q) fun z => absurd h z
theorem i_decF {P A B : Prop} [Decidable P] (h : ¬P) (q : B) : if decide P = true then A else B := i_dec (fun z => absurd z h) fun _ => q
theorem i_bool {A B : Prop} (h1 : b = true → A) (h2 : b = false → B) : if b = true then A else B := by
  cases b with
  | true => exact iteT (h1 rfl)
  | false => exact iteF (h2 rfl)
end
theorem i_start {t : TS} {D : Ends} {N : List Str} {vs : List V} {H : Hp} (σ : L2.St) (e : L2.start N vs = σ) (q : t D σ H) : t D (L2.start N vs) H := by rw [e]; exact q
theorem i_while {c : TT} {tb : TS} {D : Ends} {σ : L2.St} {H : Hp} (W : Nat → L2.St → Hp → Prop) (m₀ : Nat) (w₀ : W m₀ σ H)
    (turn : ∀ m σ H, W m σ H → c σ H fun b H1 => if b = true then tb { D with nx := fun s h => ∃ m', m' < m ∧ W m' s h, ct := fun s h => ∃ m', m' < m ∧ W m' s h, bk := D.nx } σ H1 else D.nx σ H1)
    (mono : ∀ σ H Q Q', (∀ b H1, Q b H1 → Q' b H1) → c σ H Q → c σ H Q') : tWhile c tb D σ H := by
  refine ⟨W, ⟨m₀, w₀⟩, fun m σ H w => mono σ H _ _ (fun b H1 q => ?_) (turn m σ H w)⟩
  cases b with
  | true => exact ⟨_, fun _ _ z => z, q⟩
  | false => exact q
/-- the same with the test's own readings -/
theorem i_whileR {c : TT} {tb : TS} {D : Ends} {σ : L2.St} {H : Hp} (W : Nat → L2.St → Hp → Prop) (m₀ : Nat) (w₀ : W m₀ σ H)
    (turn : ∀ m σ H, W m σ H → c σ H fun b H1 => if b = true then ∃ N : L2.St → Hp → Prop, (∀ s h, N s h → ∃ m', m' < m ∧ W m' s h) ∧ tb { D with nx := N, ct := N, bk := D.nx } σ H1 else D.nx σ H1) :
    tWhile c tb D σ H := ⟨W, ⟨m₀, w₀⟩, turn⟩
theorem i_more {W : Nat → L2.St → Hp → Prop} {tb : TS} {D : Ends} {σ : L2.St} {H1 : Hp} {m : Nat}
    (q : tb { D with nx := fun s h => ∃ m', m' < m ∧ W m' s h, ct := fun s h => ∃ m', m' < m ∧ W m' s h, bk := D.nx } σ H1) :
    ∃ N : L2.St → Hp → Prop, (∀ s h, N s h → ∃ m', m' < m ∧ W m' s h) ∧ tb { D with nx := N, ct := N, bk := D.nx } σ H1 := ⟨_, fun _ _ z => z, q⟩
theorem i_isNx {v : V} {H : Hp} {Q : VK} (h : v ≠ .non) (q : Q (.bl false) H) : rIsN v .non H Q := ⟨rfl, by rw [decide_eq_false h]; exact q⟩
theorem i_notNx {v : V} {H : Hp} {Q : VK} (h : v ≠ .non) (q : Q (.bl true) H) : rNotN v .non H Q := ⟨rfl, by rw [decide_eq_false h]; exact q⟩
theorem tyN_tup {H : Hp} {a : Addr} {xs : List V} (h : H a = some (.tup xs)) : tyN H (.ref a) = some "tuple" := by simp only [tyN, h]
theorem tyN_lst {H : Hp} {a : Addr} {xs : List V} (h : H a = some (.lst xs)) : tyN H (.ref a) = some "list" := by simp only [tyN, h]
theorem i_gtup {K : PySem.W.Frag} {n : Nat} {t : TGs} {v : V} {σ : L2.St} {H : Hp} {R : L2.St → Hp → Prop} (q : ∃ a xs, v = .ref a ∧ SqT K H a xs ∧ xs.length = n ∧ t xs σ H R) : gTup K n t v σ H R := q
theorem i_gcons {t : TG} {u : TGs} {v : V} {vs : List V} {σ : L2.St} {H : Hp} {R : L2.St → Hp → Prop} (q : t v σ H fun s h => u vs s h R) : gCons t u (v :: vs) σ H R := ⟨v, vs, rfl, q⟩
theorem i_gnil {σ : L2.St} {H : Hp} {R : L2.St → Hp → Prop} (q : R σ H) : gNil [] σ H R := ⟨rfl, q⟩
theorem i_sl {r : V → Option Int → Option Int → Hp → VK → Prop} {te : TE} {tl th : TO} {σ : L2.St} {H : Hp} {Q : VK} (q : te σ H fun x H1 => tl σ H1 fun l H2 => th σ H2 fun u H3 => r x l u H3 Q) : tSl r te tl th σ H Q := q
theorem i_nopart {σ : L2.St} {H : Hp} {R : Option Int → Hp → Prop} (q : R none H) : tNoPart σ H R := q
theorem i_part {te : TE} {σ : L2.St} {H : Hp} {R : Option Int → Hp → Prop} (q : te σ H fun x H1 => ∃ i, x = .int i ∧ R (some i) H1) : tPart te σ H R := q
theorem i_for {wi : TI} {g : TG} {tb : TS} {D : Ends} {σ : L2.St} {H : Hp} (q : wi σ H fun J H1 => ∃ W : Nat → Nat → L2.St → Hp → Prop, (∃ m, W 0 m σ H1) ∧ ∀ i m σ H, W i m σ H →
    (J.stop i H ∧ D.nx σ H) ∨ (J.go i H ∧ ∃ N : L2.St → Hp → Prop, (∀ σ' H', N σ' H' → ∃ m', m' < m ∧ W (i + 1) m' σ' H') ∧ ∀ x H', J.yld i H x H' → g x σ H' fun σ2 H2 => tb { D with nx := N, ct := N, bk := D.nx } σ2 H2)) :
    tFor wi g tb D σ H := q
theorem i_iR1 {ta : TA} {σ : L2.St} {H : Hp} {R : _} (q : ta σ H fun vs H1 => ∃ j : Int, vs = [.int j] ∧ -(2 ^ 62) ≤ j ∧ j < 2 ^ 62 ∧ R (Itr 0 j.toNat) H1) : iRng1 ta σ H R := q
theorem i_iR2 {ta : TA} {σ : L2.St} {H : Hp} {R : _} (q : ta σ H fun vs H1 => ∃ i j : Int, vs = [.int i, .int j] ∧ (-(2 ^ 62) ≤ i ∧ i < 2 ^ 62 ∧ -(2 ^ 62) ≤ j ∧ j < 2 ^ 62) ∧ R (Itr i (j - i).toNat) H1) : iRng2 ta σ H R := q
theorem i_iL {K : PySem.W.Frag} {tl : TE} {σ : L2.St} {H : Hp} {R : _} (q : tl σ H fun x H1 => ∃ a, x = .ref a ∧ (∃ xs, SqL K H1 a xs) ∧ R (Itl K a) H1) : iList K tl σ H R := q
theorem i_iT {K : PySem.W.Frag} {tl : TE} {σ : L2.St} {H : Hp} {R : _} (q : tl σ H fun x H1 => ∃ a, x = .ref a ∧ (∃ xs, SqT K H1 a xs) ∧ R (Itt K a) H1) : iTup K tl σ H R := q
/-! new objects, told by what they leave -/
theorem laid {H H1 : Hp} {p : Addr} {o : HO} (e : L2.upd H p o = H1) (h : H p = none) : Same H H1 ∧ H1 p = some o := by
  subst e
  exact ⟨Same.new h, upd_same⟩
theorem i_app {l : Addr} {xs : List V} {y : V} {H : Hp} {Q : VK} (h : H l = some (.lst xs)) (hz : xs.length < sizeLine) (q : Q .non (L2.upd H l (.lst (xs ++ [y])))) : rAppend (.ref l) [y] H Q := ⟨l, xs, y, rfl, rfl, h, hz, q⟩
theorem i_tyL {K : PySem.W.Frag} {p : Addr} {xs : List V} {H : Hp} {R : Prop} (h : SqL K H p xs) (q : R) : tyV K "list" (.ref p) H ∧ R := ⟨.inl ⟨rfl, _, h⟩, q⟩
/-! dicts -/
theorem i_dnotin {ty td : TE} {σ : L2.St} {H : Hp} {Q : VK} (q : ty σ H fun y H1 => td σ H1 fun x H2 => ∃ a o, x = .ref a ∧ DGet H2 a y o ∧ Q (.bl (!o.isSome)) H2) : tDNotIn ty td σ H Q := q
theorem i_din {ty td : TE} {σ : L2.St} {H : Hp} {Q : VK} (q : ty σ H fun y H1 => td σ H1 fun x H2 => ∃ a o, x = .ref a ∧ DGet H2 a y o ∧ Q (.bl o.isSome) H2) : tDIn ty td σ H Q := q
theorem i_dget {ty td : TE} {σ : L2.St} {H : Hp} {Q : VK} (q : td σ H fun x H1 => ty σ H1 fun y H2 => ∃ a v, x = .ref a ∧ DGet H2 a y (some v) ∧ Q v H2) : tDGet td ty σ H Q := q
theorem i_dput {ty td tv : TE} {D : Ends} {σ : L2.St} {H : Hp} (q : tv σ H fun v H1 => td σ H1 fun x H2 => ty σ H2 fun y H3 => ∃ a H4, x = .ref a ∧ DPut H3 a y v H4 ∧ D.nx σ H4) : sDPut td ty tv D σ H := q
theorem i_disp {trs : List (TE × TE)} {σ : L2.St} {H : Hp} {Q : VK} (q : ∀ p, H p = none → tPairs trs σ (L2.upd H p (.dK [])) fun ps H2 => H2 p = some (.dK []) ∧ ∃ kvs : List (Key × V), ps = kvs.map (fun kv => (kV kv.1, kv.2)) ∧ kvs.length ≤ 15 ∧ Q (.ref p) (L2.upd H2 p (.dK (mergeK [] kvs)))) : tDisp trs σ H Q := q
theorem i_pcons {tk tv : TE} {r : List (TE × TE)} {σ : L2.St} {H : Hp} {Q : List (V × V) → Hp → Prop} (q : tk σ H fun x H1 => tv σ H1 fun y H2 => tPairs r σ H2 fun ps H3 => Q ((x, y) :: ps) H3) : tPairs ((tk, tv) :: r) σ H Q := q
theorem i_pnil {σ : L2.St} {H : Hp} {Q : List (V × V) → Hp → Prop} (q : Q [] H) : tPairs [] σ H Q := q
theorem i_cut {t u : TS} {D : Ends} {σ : L2.St} {H : Hp} (M : L2.St → Hp → Prop) (q : t { D with nx := M } σ H) (k : ∀ s h, M s h → u D s h) : Evl.tCut t u D σ H := ⟨M, q, k⟩
end KB

/-! shapes: plain mathematics -/
namespace KM
inductive Sh where
  | one
  | two (l r : Sh)
  deriving DecidableEq
def wid : Sh → Nat
  | .one => 1
  | .two l r => wid l + wid r
def hei : Sh → Nat
  | .one => 0
  | .two l r => 1 + max (hei l) (hei r)
def bal : Sh → Prop
  | .one => True
  | .two l r => bal l ∧ bal r ∧ hei l ≤ hei r + 1 ∧ hei r ≤ hei l + 1
theorem wid_pos : ∀ s : Sh, 1 ≤ wid s
  | .one => Nat.le_refl 1
  | .two l r => by have := wid_pos l; simp only [wid]; omega
/-- the least width of a height -/
def L : Nat → Nat
  | 0 => 1
  | 1 => 2
  | n + 2 => L (n + 1) + L n
theorem L_pos : ∀ n, 1 ≤ L n
  | 0 => by decide
  | 1 => by decide
  | n + 2 => by have := L_pos (n + 1); simp only [L]; omega
theorem L_lt : ∀ n, L n < L (n + 1)
  | 0 => by decide
  | n + 1 => by have := L_pos n; simp only [L]; omega
theorem L_mono {m n : Nat} (h : m ≤ n) : L m ≤ L n := by
  induction h with
  | refl => exact Nat.le_refl _
  | step _ ih => exact Nat.le_trans ih (Nat.le_of_lt (L_lt _))
theorem L_le_pow : ∀ n, L n ≤ 2 ^ n
  | 0 => by decide
  | 1 => by decide
  | n + 2 => by
    have h1 := L_le_pow (n + 1)
    have h2 := L_le_pow n
    have e : 2 ^ (n + 2) = 2 * (2 * 2 ^ n) := by rw [Nat.pow_succ, Nat.pow_succ]; omega
    have e1 : 2 ^ (n + 1) = 2 * 2 ^ n := by rw [Nat.pow_succ]; omega
    simp only [L]; omega
/-- the tallest height of a width -/
def Tl (w h : Nat) : Prop := (h = 0 ∨ L h ≤ w) ∧ w < L (h + 1)
theorem Tl.inj {w a b : Nat} (x : Tl w a) (y : Tl w b) : a = b := by
  obtain ⟨xa, xb⟩ := x
  obtain ⟨ya, yb⟩ := y
  rcases Nat.lt_trichotomy a b with h | h | h
  · have := L_mono (show a + 1 ≤ b by omega)
    rcases ya with e | e <;> omega
  · exact h
  · have := L_mono (show b + 1 ≤ a by omega)
    rcases xa with e | e <;> omega
theorem L_21 : L 21 = 28657 := by decide +kernel
theorem Tl.le {w h : Nat} (x : Tl w h) (hw : w ≤ 20000) : h ≤ 20 := by
  obtain ⟨xa, _⟩ := x
  rcases Nat.lt_or_ge h 21 with q | q
  · omega
  · have := L_mono q
    rw [L_21] at this
    rcases xa with e | e <;> omega
theorem Tl.ex (w : Nat) : ∃ h, Tl w h := by
  have big : ∀ n, n < L n := by
    intro n
    induction n with
    | zero => decide
    | succ n ih => have := L_lt n; omega
  have go : ∀ n h, w < L (h + n) → (h = 0 ∨ L h ≤ w) → ∃ h, Tl w h := by
    intro n
    induction n with
    | zero =>
      intro h a b
      rcases b with e | e
      · subst e
        exact ⟨0, .inl rfl, by have := L_lt 0; simp only [Nat.add_zero] at a; omega⟩
      · simp only [Nat.add_zero] at a; omega
    | succ n ih =>
      intro h a b
      by_cases c : w < L (h + 1)
      · exact ⟨h, b, c⟩
      · exact ih (h + 1) (by rw [show h + 1 + n = h + (n + 1) by omega]; exact a) (.inr (by omega))
  exact go (w + 1) 0 (by have := big (w + 1); simp only [Nat.zero_add]; omega) (.inl rfl)
/-- a width fits a height -/
def Fit (w h : Nat) : Prop := L h ≤ w ∧ w ≤ 2 ^ h
theorem L_pow1 : ∀ n, L (n + 1) ≤ 2 ^ n + 1
  | 0 => by decide
  | 1 => by decide
  | n + 2 => by
    have h1 := L_pow1 (n + 1)
    have h2 := L_pow1 n
    have e : 2 ^ (n + 2) = 2 * (2 * 2 ^ n) := by rw [Nat.pow_succ, Nat.pow_succ]; omega
    have e1 : 2 ^ (n + 1) = 2 * 2 ^ n := by rw [Nat.pow_succ]; omega
    have e3 : 1 ≤ 2 ^ n := Nat.one_le_two_pow
    have e4 : L (n + 2 + 1) = L (n + 1 + 1) + L (n + 1) := rfl
    omega
theorem Tl.fit {w h : Nat} (x : Tl w h) (hw : 1 ≤ w) : Fit w h := by
  obtain ⟨xa, xb⟩ := x
  have := L_pow1 h
  refine ⟨?_, by omega⟩
  rcases xa with e | e
  · subst e; exact hw
  · exact e
/-- twice the least width, less one, is let by the two next lower heights -/
theorem L_half : ∀ n, 2 * L (n + 1) ≤ 2 ^ (n + 1) + 2 ^ n + 1
  | 0 => by decide
  | 1 => by decide
  | n + 2 => by
    have h1 := L_half (n + 1)
    have h2 := L_half n
    have e : 2 ^ (n + 2 + 1) = 2 * (2 * (2 * 2 ^ n)) := by rw [Nat.pow_succ, Nat.pow_succ, Nat.pow_succ]; omega
    have e0 : 2 ^ (n + 2) = 2 * (2 * 2 ^ n) := by rw [Nat.pow_succ, Nat.pow_succ]; omega
    have e1 : 2 ^ (n + 1) = 2 * 2 ^ n := by rw [Nat.pow_succ]; omega
    have e3 : 1 ≤ 2 ^ n := Nat.one_le_two_pow
    have e4 : L (n + 2 + 1) = L (n + 1 + 1) + L (n + 1) := rfl
    omega
/-- one of the first two ways is there -/
theorem way_there {w h : Nat} (f : Fit w (h + 1)) :
    (L h ≤ 2 ^ h ∧ L h + L h ≤ w ∧ w ≤ 2 ^ h + 2 ^ h) ∨ (∃ g, h = g + 1 ∧ L h + L g ≤ w ∧ w ≤ 2 ^ h + 2 ^ g) := by
  obtain ⟨a, b⟩ := f
  have e1 : 2 ^ (h + 1) = 2 ^ h + 2 ^ h := by rw [Nat.pow_succ]; omega
  by_cases c : L h + L h ≤ w
  · exact .inl ⟨L_le_pow h, c, by omega⟩
  · right
    cases h with
    | zero => simp only [L] at a c; omega
    | succ g =>
      refine ⟨g, rfl, a, ?_⟩
      have := L_half g
      omega
/-! even shapes -/
def evS (n : Nat) : Sh := if h : n ≤ 1 then .one else .two (evS ((n + 1) / 2)) (evS (n / 2))
theorem evS_1 {n : Nat} (h : n ≤ 1) : evS n = .one := by rw [evS, dif_pos h]
theorem evS_2 {n : Nat} (h : ¬ n ≤ 1) : evS n = .two (evS ((n + 1) / 2)) (evS (n / 2)) := by rw [evS, dif_neg h]
theorem evS_wid : ∀ n, 1 ≤ n → wid (evS n) = n := by
  intro n
  induction n using Nat.strongRecOn with
  | _ n ih =>
    intro h
    by_cases c : n ≤ 1
    · rw [evS_1 c]; simp only [wid]; omega
    · rw [evS_2 c]; simp only [wid]
      rw [ih _ (by omega) (by omega), ih _ (by omega) (by omega)]; omega
/-- how many bits -/
def bits (n : Nat) : Nat := if h : n = 0 then 0 else 1 + bits (n / 2)
theorem bits_0 : bits 0 = 0 := by rw [bits, dif_pos rfl]
theorem bits_s {n : Nat} (h : n ≠ 0) : bits n = 1 + bits (n / 2) := by rw [bits, dif_neg h]
theorem bits_mono : ∀ n m, m ≤ n → bits m ≤ bits n := by
  intro n
  induction n using Nat.strongRecOn with
  | _ n ih =>
    intro m h
    by_cases c : m = 0
    · subst c; rw [bits_0]; omega
    · rw [bits_s c, bits_s (show n ≠ 0 by omega)]
      have := ih (n / 2) (by omega) (m / 2) (by omega)
      omega
theorem bits_succ : ∀ n, bits (n + 1) ≤ bits n + 1 := by
  intro n
  induction n using Nat.strongRecOn with
  | _ n ih =>
    by_cases c : n = 0
    · subst c; decide +kernel
    · rw [bits_s c, bits_s (show n + 1 ≠ 0 by omega)]
      by_cases d : (n + 1) / 2 = n / 2
      · rw [d]; omega
      · rw [show (n + 1) / 2 = n / 2 + 1 by omega]
        have := ih (n / 2) (by omega)
        omega
theorem bits_log (n : Nat) (h : n ≠ 0) : bits n = n.log2 + 1 := by
  induction n using Nat.strongRecOn with
  | _ n ih =>
    rw [bits_s h]
    by_cases c : n / 2 = 0
    · have e : n = 1 := by omega
      subst e; decide +kernel
    · rw [ih _ (by omega) c, Nat.log2_def n, if_pos (show 2 ≤ n by omega)]; omega
theorem evS_hei : ∀ n, 1 ≤ n → hei (evS n) = bits (n - 1) ∧ bal (evS n) := by
  intro n
  induction n using Nat.strongRecOn with
  | _ n ih =>
    intro h
    by_cases c : n ≤ 1
    · rw [evS_1 c, show n - 1 = 0 by omega, bits_0]; exact ⟨rfl, trivial⟩
    · rw [evS_2 c]
      obtain ⟨a1, a2⟩ := ih ((n + 1) / 2) (by omega) (by omega)
      obtain ⟨b1, b2⟩ := ih (n / 2) (by omega) (by omega)
      have m := bits_mono ((n + 1) / 2 - 1) (n / 2 - 1) (by omega)
      have s : bits ((n + 1) / 2 - 1) ≤ bits (n / 2 - 1) + 1 := by
        by_cases d : (n + 1) / 2 - 1 = n / 2 - 1
        · rw [d]; omega
        · rw [show (n + 1) / 2 - 1 = n / 2 - 1 + 1 by omega]; exact bits_succ _
      simp only [hei, bal]
      rw [a1, b1, bits_s (show n - 1 ≠ 0 by omega), show (n - 1) / 2 = (n + 1) / 2 - 1 by omega]
      exact ⟨by omega, a2, b2, by omega, by omega⟩
theorem evS_low {n : Nat} (h : 1 ≤ n) (h2 : n ≤ 20000) : hei (evS n) ≤ 15 := by
  rw [(evS_hei n h).1]
  have := bits_mono 19999 (n - 1) (by omega)
  rw [show bits 19999 = 15 by decide +kernel] at this
  exact this
/-! the height of a balanced shape, by the program's way -/
def bh : Sh → Int
  | .one => 0
  | .two l r => if min (bh l) (bh r) < 0 ∨ 1 < (if bh l - bh r < 0 then -(bh l - bh r) else bh l - bh r) then -1 else 1 + max (bh l) (bh r)
theorem bh_is : ∀ s : Sh, (bal s → bh s = (hei s : Int)) ∧ (¬ bal s → bh s = -1)
  | .one => ⟨fun _ => rfl, fun h => absurd trivial h⟩
  | .two l r => by
    obtain ⟨l1, l2⟩ := bh_is l
    obtain ⟨r1, r2⟩ := bh_is r
    constructor
    · rintro ⟨a, b, c, d⟩
      simp only [bh, hei]
      rw [l1 a, r1 b, if_neg (by split <;> omega)]
      omega
    · intro h
      simp only [bh]
      by_cases a : bal l
      · by_cases b : bal r
        · rw [l1 a, r1 b]
          refine if_pos ?_
          by_cases c : hei l ≤ hei r + 1
          · by_cases d : hei r ≤ hei l + 1
            · exact absurd ⟨a, b, c, d⟩ h
            · right; split <;> omega
          · right; split <;> omega
        · rw [r2 b]; exact if_pos (.inl (by omega))
      · rw [l2 a]; exact if_pos (.inl (by omega))
theorem bh_nonneg {s : Sh} : 0 ≤ bh s ↔ bal s := by
  obtain ⟨a, b⟩ := bh_is s
  constructor
  · intro h
    by_cases c : bal s
    · exact c
    · rw [b c] at h; omega
  · intro h; rw [a h]; omega
end KM
namespace KM
/-! anything, looked at as a shape -/
inductive GS where
  | one
  | two (l r : GS)
  | bad
def wIn : Nat → GS → Nat
  | _, .one => 1
  | _, .bad => 0
  | 0, .two _ _ => 0
  | m + 1, .two l r => if wIn m l = 0 ∨ wIn m r = 0 ∨ 20000 < wIn m l + wIn m r then 0 else wIn m l + wIn m r
def Sh.g : Sh → GS
  | .one => .one
  | .two l r => .two l.g r.g
theorem wIn_sh : ∀ (s : Sh) (m : Nat), hei s ≤ m → wid s ≤ 20000 → wIn m s.g = wid s
  | .one, m, _, _ => by cases m <;> rfl
  | .two l r, 0, h, _ => by simp only [hei] at h; omega
  | .two l r, m + 1, h, h2 => by
    simp only [hei] at h
    simp only [wid] at h2
    simp only [Sh.g, wIn, wid]
    have := wid_pos l
    have := wid_pos r
    rw [wIn_sh l m (by omega) (by omega), wIn_sh r m (by omega) (by omega), if_neg (by omega)]
end KM

set_option maxHeartbeats 4000000
section
open PySem PySem.Spec PyProof.Rows L2 KB
local macro_rules | `(tactic| walk_at "rd1") => `(tactic| first
  | with_reducible refine i_seq ?_
  | ((with_reducible refine i_var (v := ?vv) ?hv ?_); (case hv => exact rfl))
  | with_reducible refine i_c ?_
  | with_reducible refine i_op ?_
  | with_reducible refine i_rI0 ?_
  | with_reducible refine i_asg ?_
  | with_reducible refine i_gname ?_
  | with_reducible refine i_nx ?_
  | with_reducible refine i_rt ?_
  | with_reducible refine i_ret ?_
  | with_reducible refine i_ifS ?_
  | with_reducible refine i_test ?_
  | with_reducible refine i_bl ?_
  | with_reducible refine i_CB ?_
  | with_reducible refine i_call ?_
  | with_reducible refine i_cons ?_
  | with_reducible refine i_nil ?_
  | with_reducible refine i_eqI ?_
  | with_reducible refine i_neI ?_
  | with_reducible refine i_isN0 ?_
  | with_reducible refine i_isNr ?_
  | with_reducible refine i_isNi ?_
  | with_reducible refine i_isNb ?_
  | with_reducible refine i_notN0 ?_
  | with_reducible refine i_notNr ?_
  | with_reducible refine i_notNi ?_
  | with_reducible refine i_isB ?_
  | with_reducible refine i_notB ?_
  | with_reducible refine i_B ?_
  | with_reducible refine i_and ?_
  | with_reducible refine i_or ?_
  | with_reducible refine i_not ?_
  | with_reducible refine i_andV ?_
  | with_reducible refine i_orV ?_
  | with_reducible refine i_notV ?_
  | with_reducible refine i_if ?_
  | with_reducible refine i_T ?_
  | with_reducible refine i_F ?_
  | with_reducible refine i_tup ?_
  | with_reducible refine i_lst ?_
  | with_reducible refine i_max2 ?_
  | with_reducible refine i_min2 ?_
  | with_reducible refine i_abs ?_
  | with_reducible refine i_int1 ?_
  | with_reducible refine i_un ?_
  | with_reducible refine i_rU ?_
  | with_reducible refine i_fld ?_
  | with_reducible refine i_meth ?_
  | with_reducible refine i_make ?_
  | with_reducible refine i_bits ?_
  | with_reducible refine i_int ?_
  | with_reducible refine i_next ?_
  | with_reducible refine i_drop ?_
  | with_reducible refine i_par ?_
  | with_reducible refine i_two ?_
  | with_reducible refine i_par3 ?_
  | with_reducible refine i_three ?_
  | with_reducible refine i_pcons ?_
  | with_reducible refine i_pnil ?_
  | with_reducible refine i_dnotin ?_
  | with_reducible refine i_din ?_
  | with_reducible refine i_dget ?_
  | with_reducible refine i_dput ?_
  | with_reducible refine i_for ?_
  | with_reducible refine i_iR1 ?_
  | with_reducible refine i_iR2 ?_
  | with_reducible refine i_iL ?_
  | with_reducible refine i_iT ?_
  | with_reducible refine i_sl ?_
  | with_reducible refine i_nopart ?_
  | with_reducible refine i_part ?_
  | with_reducible refine i_gtup ?_
  | with_reducible refine i_gcons ?_
  | with_reducible refine i_gnil ?_
  | with_reducible refine i_sub ?_
  | with_reducible refine i_sfld ?_
  | with_reducible refine i_BM ?_
  | with_reducible refine i_bk ?_
  | with_reducible refine i_ct ?_
  | with_reducible refine i_brk ?_
  | with_reducible refine i_cnt ?_)
local macro_rules | `(tactic| walk_at "rd") => `(tactic| repeat walk_at "rd1")
namespace K60
open PySem PySem.Spec PyProof.Rows L2 KB KM

def top (i : Nat) : Stmt := PySem.Challenge.pw_lawfulpages_k60_tallest_by_least_widths.main.body.getD i (.Pass ⟨0, 0, 0, 0⟩)
/-- what the top leaves, as the walk needs it -/
structure Txt (K : PySem.W.Frag) (mg : Str → Option Value) : Prop where
  g_isinstance : mg "isinstance" = none
  g_int : mg "int" = none
  g_bool : mg "bool" = none
  g_tuple : mg "tuple" = none
  g_len : mg "len" = none
  g_max : mg "max" = none
  g_min : mg "min" = none
  g_abs : mg "abs" = none
  g_sum : mg "sum" = none
  g_range : mg "range" = none
  g_MOST_NODES : ∃ t, mg "MOST_NODES" = some (.int 20000 t)
  g_MOST_HEIGHT : ∃ t, mg "MOST_HEIGHT" = some (.int 40 t)
  x_MatchError : ExcC K mg "MatchError" (He.ga K "MatchError")
  x_BadShape : ExcC K mg "BadShape" (He.ga K "BadShape")
  x_BadCount : ExcC K mg "BadCount" (He.ga K "BadCount")
  c_Stem : Cls K (He.ga K "Stem")
  n_Stem_left : NoAttr K (He.ga K "Stem") "left"
  n_Stem_right : NoAttr K (He.ga K "Stem") "right"
  n_Stem_width : NoAttr K (He.ga K "Stem") "width"
  n_Stem_height : NoAttr K (He.ga K "Stem") "height"
  k_Stem : MakT K mg "Stem" (He.ga K "Stem") "Stem.__init__" (inClass (top 10) 0) ["self", "left", "right"]
  c_Builder : Cls K (He.ga K "Builder")
  b_Builder : Bare K mg "Builder" (He.ga K "Builder")
  m_Builder_pair : MetT K (He.ga K "Builder") "pair" "Builder.pair" (inClass (top 11) 0) ["self", "left", "right"]
  m_Builder_sides : MetT K (He.ga K "Builder") "sides" "Builder.sides" (inClass (top 11) 1) ["self", "tree"]
  e_MatchError_BadCount : PySem.W.exmOne K (.ref (He.ga K "MatchError")) (.ref (He.ga K "BadCount")) = some false
  e_BadShape_BadCount : PySem.W.exmOne K (.ref (He.ga K "BadShape")) (.ref (He.ga K "BadCount")) = some false
  e_BadCount_BadCount : PySem.W.exmOne K (.ref (He.ga K "BadCount")) (.ref (He.ga K "BadCount")) = some true
  d_is_integer : DefT K mg "is_integer" (top 6) ["thing"]
  d_need_count : DefT K mg "need_count" (top 7) ["thing", "most"]
  d_tallest_of : DefT K mg "tallest_of" (top 12) ["width"]
  d_width_in : DefT K mg "width_in" (top 13) ["thing", "most"]
  d_height_in : DefT K mg "height_in" (top 14) ["shape"]
  d_balanced_height : DefT K mg "balanced_height" (top 15) ["shape"]
  d_stem_of : DefT K mg "stem_of" (top 16) ["shape"]
  d_shape_of : DefT K mg "shape_of" (top 17) ["tree"]
  d_even_row : DefT K mg "even_row" (top 18) ["builder", "members", "begin", "end"]
  d_need_shape : DefT K mg "need_shape" (top 20) ["shape"]
  d_is_balanced : DefT K mg "is_balanced" (top 21) ["shape"]
  d_width_of : DefT K mg "width_of" (top 22) ["shape"]
  d_height_of : DefT K mg "height_of" (top 23) ["shape"]
  d_tallest : DefT K mg "tallest" (top 24) ["width"]
  d_even_shape : DefT K mg "even_shape" (top 25) ["width"]
  d__law_feed : DefT K mg "_law_feed" (top 27) ["script", "k"]
  d__law_draw : DefT K mg "_law_draw" (top 28) ["feed", "many"]
  d__law_one : DefT K mg "_law_one" (top 29) ["feed", "things"]
  d__law_least : DefT K mg "_law_least" (top 30) ["height"]
  d__law_tallest : DefT K mg "_law_tallest" (top 31) ["width"]
  d__law_balanced : DefT K mg "_law_balanced" (top 32) ["feed", "width", "height"]
  d__law_width : DefT K mg "_law_width" (top 33) ["feed"]
  d__law_refused : DefT K mg "_law_refused" (top 34) ["thing"]
  d__law_is_integer : DefT K mg "_law_is_integer" (top 35) ["found", "due"]
  d__law_asked_one : DefT K mg "_law_asked_one" (top 36) ["script"]
  d__law_even : DefT K mg "_law_even" (top 37) ["width", "known"]
  d__law_refused_too : DefT K mg "_law_refused_too" (top 38) ["thing"]
  d__law_asked_two : DefT K mg "_law_asked_two" (top 39) ["script"]
  d_law : DefT K mg "law" (top 40) ["script"]
/-! ### types by names -/
abbrev TYS : List String := ["NoneType", "bool", "int", "str", "list", "tuple", "dict"]
theorem ty_int : ∀ n ∈ TYS, kitB n "int" = some (n == "int" || n == "bool") := by decide +kernel
theorem ty_bool : ∀ n ∈ TYS, kitB n "bool" = some (n == "bool") := by decide +kernel
theorem ty_tuple : ∀ n ∈ TYS, kitB n "tuple" = some (n == "tuple") := by decide +kernel
theorem ty_ib : ∀ n ∈ TYS, (n == "int" || n == "bool") = true → (!(n == "bool")) = (n == "int") := by decide +kernel
theorem ty_ib2 : ∀ n ∈ TYS, (n == "int" || n == "bool") = false → (n == "int") = false := by decide +kernel
/-- x is of a told type -/
def Kn (H : Hp) (x : V) (n : String) : Prop := tyN H x = some n ∧ n ∈ TYS
/-! ### shapes in the heap -/
inductive GShp (H : Hp) : V → GS → Prop where
  | one : GShp H .non .one
  | two {a : Addr} {x y : V} {l r : GS} : H a = some (.tup [x, y]) → GShp H x l → GShp H y r → GShp H (.ref a) (.two l r)
  | bad {v : V} {n : String} : v ≠ .non → Kn H v n → (n = "tuple" → ∃ a xs, v = .ref a ∧ H a = some (.tup xs) ∧ xs.length ≠ 2) → GShp H v .bad
inductive Shp (H : Hp) : V → Sh → Prop where
  | one : Shp H .non .one
  | two {a : Addr} {x y : V} {l r : Sh} : H a = some (.tup [x, y]) → Shp H x l → Shp H y r → Shp H (.ref a) (.two l r)
theorem Shp.g {H : Hp} {v : V} {s : Sh} (h : Shp H v s) : GShp H v s.g := by
  induction h with
  | one => exact .one
  | two a _ _ ih1 ih2 => exact .two a ih1 ih2
/-- the tuples stay -/
def Tups (H H' : Hp) : Prop := ∀ a xs, H a = some (.tup xs) → H' a = some (.tup xs)
theorem Shp.mono {H H' : Hp} {v : V} {s : Sh} (h : Shp H v s) (k : Tups H H') : Shp H' v s := by
  induction h with
  | one => exact .one
  | two a _ _ ih1 ih2 => exact .two (k _ _ a) ih1 ih2
theorem Same.tups {H H' : Hp} (s : Same H H') : Tups H H' := fun a xs h => s a _ h
section
variable {P : Program} {w : World} {K : PySem.W.Frag} {mg : Str → Option Value} {base : Heap}
/-! ### is_integer -/
def spIsInt : Sp := fun vs H Q _ => ∃ x n, vs = [x] ∧ Kn H x n ∧ Q (.bl (n == "int")) H
abbrev s_is_integer : Stmt := (top 6)
theorem sc_is_integer : FnScope ["thing"] ["thing"] (defScope s_is_integer) := ⟨rfl, rfl, rfl, by decide +kernel, rfl, by decide +kernel, by decide +kernel⟩
theorem b_is_integer (T : Txt K mg) : Body P w K mg base (0) ["thing"] "is_integer" (defScope s_is_integer) (defBody s_is_integer) spIsInt := by
  intro f cdv A outer s H vs Q E hr h
  obtain ⟨x, n, rfl, ⟨hn, hm⟩, q⟩ := h
  have hu := hu_of hr
  have tk : Takes (cxOf (L2.CX P w) P w K mg base ["thing"] "is_integer" (defScope s_is_integer) f cdv A outer s H E) (fun cls d _ H => E cls d H) := takes_of rfl rfl rfl rfl
  refine ⟨_, (pss_one (ps_ret (pe_and (pe_callB call_isN1 (by rfl) T.g_isinstance (by decide +kernel) (pa_cons (pv 0) (pa_cons (pe_ty "int" T.g_int) pa_nil))) (pe_one (pe_not (pe_callB call_isN1 (by rfl) T.g_isinstance (by decide +kernel) (pa_cons (pv 0) (pa_cons (pe_ty "bool" T.g_bool) pa_nil)))))))), ?_⟩
  refine i_start [some _] (by rfl) ?_
  try dsimp only [cxOf]
  walk_at "rd"
  refine i_inst hn (ty_int n hm) ?_
  walk_at "rd"
  refine i_bool (fun e => ?_) (fun e => ?_)
  · walk_at "rd"
    refine i_inst hn (ty_bool n hm) ?_
    walk_at "rd"
    rw [ty_ib n hm e]
    exact q
  · walk_at "rd"
    rw [ty_ib2 n hm e] at q
    exact q
/-! ### need_count -/
def spNeedCount (K : PySem.W.Frag) : Sp := fun vs H Q E => ∃ x n m, vs = [x, .int m] ∧ Kn H x n ∧ (∀ i, x = .int i → 0 ≤ i → i ≤ m → Q .non H) ∧
  ((∀ i, x = .int i → ¬ (0 ≤ i ∧ i ≤ m)) → E (.ref (He.ga K "BadCount")) none H)
abbrev s_need_count : Stmt := (top 7)
theorem sc_need_count : FnScope ["thing", "most"] ["thing", "most"] (defScope s_need_count) := ⟨rfl, rfl, rfl, by decide +kernel, rfl, by decide +kernel, by decide +kernel⟩
theorem kn_int {H : Hp} {x : V} {n : String} (h : Kn H x n) (e : (n == "int") = true) : ∃ i, x = .int i := by
  have e' : n = "int" := beq_iff_eq.mp e
  subst e'
  obtain ⟨h, _⟩ := h
  cases x with
  | int i => exact ⟨i, rfl⟩
  | ref a =>
    exfalso
    have h1 : (match H a with
      | some (.lst _) => some "list"
      | some (.tup _) => some "tuple"
      | some (.dK _) => some "dict"
      | some (.dT _) => some "dict"
      | some (.frz _ (.lst _)) => some "list"
      | _ => none) = some "int" := h
    split at h1 <;> simp at h1
  | _ => simp [tyN] at h
theorem kn_nint {H : Hp} {x : V} {n : String} (h : Kn H x n) (e : (n == "int") = false) : ∀ i, x ≠ .int i := by
  rintro i rfl
  obtain ⟨h, _⟩ := h
  simp only [tyN, Option.some.injEq] at h
  subst h
  simp at e
theorem b_need_count (T : Txt K mg) (C_is_integer : Cal P w K mg base 1 "is_integer" spIsInt) : Body P w K mg base (1) ["thing", "most"] "need_count" (defScope s_need_count) (defBody s_need_count) (spNeedCount K) := by
  intro f cdv A outer s H vs Q E hr h
  obtain ⟨x, n, m, rfl, hk, q1, q2⟩ := h
  have hu := hu_of hr
  have tk : Takes (cxOf (L2.CX P w) P w K mg base ["thing", "most"] "need_count" (defScope s_need_count) f cdv A outer s H E) (fun cls d _ H => E cls d H) := takes_of rfl rfl rfl rfl
  refine ⟨_, (pss_cons (ps_if (PW.pt (pw_or (pt_not (pt_val (pe_cal C_is_integer hr (by omega) tk (pa_cons (pv 0) pa_nil)))) (pw_or1 (pt_cmpR op_lt (pv 0) pe_int (nomark _))))) (pss_one (ps_raiseX T.x_BadCount tk)) pss_nil)
    (pss_one (ps_if (PW.pt (pw_and (pt_cmpR op_notN1 (pv 1) pe_non (nomark _)) (pw_and1 (pt_cmpR op_gt (pv 0) (pv 1) (nomark _))))) (pss_one (ps_raiseX T.x_BadCount tk)) pss_nil))), ?_⟩
  refine i_start [some _, some _] (by rfl) ?_
  try dsimp only [cxOf]
  walk_at "rd"
  refine ⟨x, n, rfl, hk, ?_⟩
  walk_at "rd"
  cases e : (n == "int") with
  | false =>
    walk_at "rd"
    refine i_T ?_
    exact q2 fun i ei _ => kn_nint hk e i ei
  | true =>
    obtain ⟨i, rfl⟩ := kn_int hk e
    refine i_F ?_
    walk_at "rd"
    refine i_dec (fun hi => ?_) (fun hi => ?_)
    · refine q2 fun j ej => ?_
      cases ej
      omega
    · walk_at "rd"
      refine i_dec (fun hj => ?_) (fun hj => ?_)
      · refine q2 fun j ej => ?_
        cases ej
        omega
      · walk_at "rd"
        exact q1 i rfl (by omega) (by omega)
end
end K60

set_option maxHeartbeats 4000000
namespace K60
open PySem PySem.Spec PyProof.Rows L2 KB KM

/-! ### stems -/
def stf (l r : V) (w h : Int) : List (Str × V) := [("left", l), ("right", r), ("width", .int w), ("height", .int h)]
theorem put_1 (l : V) : putF "left" l [] = [(("left" : Str), l)] := rfl
theorem put_2 (l r : V) : putF "right" r [("left", l)] = [(("left" : Str), l), ("right", r)] := by
  unfold putF
  rw [if_neg (by decide +kernel)]
  rfl
theorem put_3 (l r w : V) : putF "width" w [(("left" : Str), l), ("right", r)] = [(("left" : Str), l), ("right", r), ("width", w)] := by
  unfold putF
  rw [if_neg (by decide +kernel)]
  unfold putF
  rw [if_neg (by decide +kernel)]
  rfl
theorem put_4 (l r w h : V) : putF "height" h [(("left" : Str), l), ("right", r), ("width", w)] = [(("left" : Str), l), ("right", r), ("width", w), ("height", h)] := by
  unfold putF
  rw [if_neg (by decide +kernel)]
  unfold putF
  rw [if_neg (by decide +kernel)]
  unfold putF
  rw [if_neg (by decide +kernel)]
  rfl
theorem st_left {l r : V} {w h : Int} : (stf l r w h).lookup ("left" : Str) = some l := by rfl
theorem st_right {l r : V} {w h : Int} : (stf l r w h).lookup ("right" : Str) = some r := by rfl
theorem st_width {l r : V} {w h : Int} : (stf l r w h).lookup ("width" : Str) = some (.int w) := by rfl
theorem st_height {l r : V} {w h : Int} : (stf l r w h).lookup ("height" : Str) = some (.int h) := by rfl
inductive Stm (C : Addr) (H : Hp) : V → Sh → Prop where
  | one {a dx : Addr} : H a = some (.ins C dx (stf .non .non 1 0)) → Stm C H (.ref a) .one
  | two {a dx : Addr} {x y : V} {l r : Sh} : H a = some (.ins C dx (stf x y (wid (.two l r) : Nat) (hei (.two l r) : Nat))) → Stm C H x l → Stm C H y r → Stm C H (.ref a) (.two l r)
theorem Stm.at_ {C : Addr} {H : Hp} {v : V} {s : Sh} (h : Stm C H v s) : ∃ a dx x y, v = .ref a ∧ H a = some (.ins C dx (stf x y (wid s : Nat) (hei s : Nat))) ∧
    ((s = .one ∧ x = .non ∧ y = .non) ∨ ∃ l r, s = .two l r ∧ Stm C H x l ∧ Stm C H y r) := by
  cases h with
  | one e => exact ⟨_, _, _, _, rfl, e, .inl ⟨rfl, rfl, rfl⟩⟩
  | two e h1 h2 => exact ⟨_, _, _, _, rfl, e, .inr ⟨_, _, rfl, h1, h2⟩⟩
theorem Stm.mono {C : Addr} {H H' : Hp} {v : V} {s : Sh} (h : Stm C H v s) (k : Same H H') : Stm C H' v s := by
  induction h with
  | one e => exact .one (k _ _ e)
  | two e _ _ ih1 ih2 => exact .two (k _ _ e) ih1 ih2
section
variable {P : Program} {w : World} {K : PySem.W.Frag} {mg : Str → Option Value} {base : Heap}
abbrev CS (K : PySem.W.Frag) : Addr := He.ga K "Stem"
/-- both none, or two stems -/
def Sides (C : Addr) (H : Hp) (x y : V) (s : Sh) : Prop := (s = .one ∧ x = .non ∧ y = .non) ∨ ∃ l r, s = .two l r ∧ Stm C H x l ∧ Stm C H y r
def spStem (K : PySem.W.Frag) : Sp := fun vs H Q _ => ∃ p dx x y s, vs = [.ref p, x, y] ∧ H p = some (.ins (CS K) dx []) ∧ Sides (CS K) H x y s ∧
  Q .non (upd H p (.ins (CS K) dx (stf x y (wid s : Nat) (hei s : Nat))))
abbrev s_Stem___init__ : Stmt := (inClass (top 10) 0)
theorem sc_Stem___init__ : FnScope ["self", "left", "right"] ["self", "left", "right"] (defScope s_Stem___init__) := ⟨rfl, rfl, rfl, by decide +kernel, rfl, by decide +kernel, by decide +kernel⟩
theorem b_Stem (T : Txt K mg) : Body P w K mg base (0) ["self", "left", "right"] "Stem.__init__" (defScope s_Stem___init__) (defBody s_Stem___init__) (spStem K) := by
  intro f cdv A outer s H vs Q E hr h
  obtain ⟨p, dx, x, y, sh, rfl, hp, hs, q⟩ := h
  have hu := hu_of hr
  have tk : Takes (cxOf (L2.CX P w) P w K mg base ["self", "left", "right"] "Stem.__init__" (defScope s_Stem___init__) f cdv A outer s H E) (fun cls d _ H => E cls d H) := takes_of rfl rfl rfl rfl
  refine ⟨_, (pss_cons (ps_fld (pv 0) (pv 1) rfl)
    (pss_cons (ps_fld (pv 0) (pv 2) rfl)
    (pss_cons (ps_fld (pv 0) (pe_ifExp (pt_cmpR op_isN1 (pv 1) pe_non (nomark _)) pe_int (pe_op op_add (pe_fld (pv 1) rfl) (pe_fld (pv 2) rfl))) rfl)
    (pss_one (ps_fld (pv 0) (pe_ifExp (pt_cmpR op_isN1 (pv 1) pe_non (nomark _)) pe_int (pe_op op_add pe_int (pe_callB (call_max2K rfl) (by rfl) T.g_max (by decide +kernel) (pa_cons (pe_fld (pv 1) rfl) (pa_cons (pe_fld (pv 2) rfl) pa_nil))))) rfl))))), ?_⟩
  refine i_start [some _, some _, some _] (by rfl) ?_
  try dsimp only [cxOf]
  walk_at "rd"
  refine ⟨p, _, dx, _, rfl, hp, T.c_Stem, T.n_Stem_left, (by show 0 < 1000; decide), ?_⟩
  rw [put_1]
  walk_at "rd"
  refine ⟨p, _, dx, _, rfl, upd_same, T.c_Stem, T.n_Stem_right, (by show 1 < 1000; decide), ?_⟩
  rw [put_2, upd_upd]
  walk_at "rd"
  rcases hs with ⟨rfl, rfl, rfl⟩ | ⟨l, r, rfl, hl, hr2⟩
  · walk_at "rd"
    refine ⟨p, _, dx, _, rfl, upd_same, T.c_Stem, T.n_Stem_width, (by show 2 < 1000; decide), ?_⟩
    rw [put_3, upd_upd]
    walk_at "rd"
    refine ⟨p, _, dx, _, rfl, upd_same, T.c_Stem, T.n_Stem_height, (by show 3 < 1000; decide), ?_⟩
    rw [put_4, upd_upd]
    walk_at "rd"
    exact q
  · obtain ⟨a1, dx1, x1, y1, rfl, e1, _⟩ := hl.at_
    obtain ⟨a2, dx2, x2, y2, rfl, e2, _⟩ := hr2.at_
    have n1 : a1 ≠ p := ne_of e1 hp (by intro z; cases z)
    have n2 : a2 ≠ p := ne_of e2 hp (by intro z; cases z)
    walk_at "rd"
    refine i_fldR ((upd_ne n1).trans e1) T.c_Stem T.n_Stem_width st_width ?_
    walk_at "rd"
    refine i_fldR ((upd_ne n2).trans e2) T.c_Stem T.n_Stem_width st_width ?_
    walk_at "rd"
    refine ⟨p, _, dx, _, rfl, upd_same, T.c_Stem, T.n_Stem_width, (by show 2 < 1000; decide), ?_⟩
    rw [put_3, upd_upd]
    walk_at "rd"
    refine i_fldR ((upd_ne n1).trans e1) T.c_Stem T.n_Stem_height st_height ?_
    walk_at "rd"
    refine i_fldR ((upd_ne n2).trans e2) T.c_Stem T.n_Stem_height st_height ?_
    walk_at "rd"
    refine ⟨p, _, dx, _, rfl, upd_same, T.c_Stem, T.n_Stem_height, (by show 3 < 1000; decide), ?_⟩
    rw [put_4, upd_upd]
    walk_at "rd"
    have ew : ((wid l : Nat) : Int) + ((wid r : Nat) : Int) = ((wid (.two l r) : Nat) : Int) := by simp only [wid]; omega
    have eh : (1 : Int) + max ((hei l : Nat) : Int) ((hei r : Nat) : Int) = ((hei (.two l r) : Nat) : Int) := by simp only [hei]; omega
    rw [ew, eh]
    exact q

theorem len3 {sp : Sp} (h : ∀ vs H Q E, sp vs H Q E → ∃ a b c, vs = [a, b, c]) : ∀ vs H Q E, sp vs H Q E → vs.length = 3 := fun vs H Q E z => by
  obtain ⟨_, _, _, rfl⟩ := h vs H Q E z
  rfl
theorem m_Stem (T : Txt K mg) : Mak P w K mg base 1 "Stem" (CS K) (spStem K) := T.k_Stem.mak sc_Stem___init__ (fun vs H Q E h => by obtain ⟨_, _, _, _, _, rfl, _⟩ := h; rfl) (b_Stem T)
theorem c_is_integer (T : Txt K mg) : Cal P w K mg base 1 "is_integer" spIsInt := T.d_is_integer.cal sc_is_integer (fun vs H Q E h => by obtain ⟨_, _, rfl, _⟩ := h; rfl) (b_is_integer T)
theorem c_need_count (T : Txt K mg) : Cal P w K mg base 2 "need_count" (spNeedCount K) :=
  T.d_need_count.cal sc_need_count (fun vs H Q E h => by obtain ⟨_, _, _, rfl, _⟩ := h; rfl) (b_need_count T (c_is_integer T))
/-- a stem is made -/
theorem stem_made {H : Hp} {x y : V} {s : Sh} {Q : VK} (hs : Sides (CS K) H x y s) (q : ∀ p H', H p = none → Same H H' → Stm (CS K) H' (.ref p) s → Q (.ref p) H') :
    ∀ p dx, H p = none → H dx = none → dx ≠ p → spStem K (.ref p :: ([x, y] ++ [])) (L2.upd (L2.upd H dx (.own p)) p (.ins (CS K) dx [])) (fun v H2 => v = .non ∧ Q (.ref p) H2) E0 := by
  intro p dx hp hd ne
  have s1 : Same H (L2.upd (L2.upd H dx (.own p)) p (.ins (CS K) dx [])) := Same.upd (Same.new hd) hp
  have s2 : Same H (L2.upd (L2.upd (L2.upd H dx (.own p)) p (.ins (CS K) dx [])) p (.ins (CS K) dx (stf x y (wid s : Nat) (hei s : Nat)))) := by
    rw [upd_upd]
    exact Same.upd (Same.new hd) hp
  refine ⟨p, dx, x, y, s, rfl, upd_same, ?_, rfl, q p _ hp s2 ?_⟩
  · rcases hs with h | ⟨l, r, e, h1, h2⟩
    · exact .inl h
    · exact .inr ⟨l, r, e, h1.mono s1, h2.mono s1⟩
  · rcases hs with ⟨rfl, rfl, rfl⟩ | ⟨l, r, rfl, h1, h2⟩
    · exact .one upd_same
    · exact .two upd_same (h1.mono s2) (h2.mono s2)
/-! ### Builder.pair -/
abbrev CB (K : PySem.W.Frag) : Addr := He.ga K "Builder"
def spPair (K : PySem.W.Frag) : Sp := fun vs H Q _ => ∃ b x y l r, vs = [b, x, y] ∧ Stm (CS K) H x l ∧ Stm (CS K) H y r ∧ ∀ p H', Same H H' → Stm (CS K) H' (.ref p) (.two l r) → Q (.ref p) H'
abbrev s_Builder_pair : Stmt := (inClass (top 11) 0)
theorem sc_Builder_pair : FnScope ["self", "left", "right"] ["self", "left", "right"] (defScope s_Builder_pair) := ⟨rfl, rfl, rfl, by decide +kernel, rfl, by decide +kernel, by decide +kernel⟩
theorem b_pair (T : Txt K mg) (M_Stem : Mak P w K mg base 1 "Stem" (CS K) (spStem K)) : Body P w K mg base (2) ["self", "left", "right"] "Builder.pair" (defScope s_Builder_pair) (defBody s_Builder_pair) (spPair K) := by
  intro f cdv A outer s H vs Q E hr h
  obtain ⟨b, x, y, l, r, rfl, hl, hr2, q⟩ := h
  have hu := hu_of hr
  have tk : Takes (cxOf (L2.CX P w) P w K mg base ["self", "left", "right"] "Builder.pair" (defScope s_Builder_pair) f cdv A outer s H E) (fun cls d _ H => E cls d H) := takes_of rfl rfl rfl rfl
  refine ⟨_, (pss_one (ps_ret (pe_mak M_Stem hr (by omega) (pa_cons (pv 1) (pa_cons (pv 2) pa_nil))))), ?_⟩
  refine i_start [some _, some _, some _] (by rfl) ?_
  try dsimp only [cxOf]
  walk_at "rd"
  refine stem_made (s := .two l r) (.inr ⟨l, r, rfl, hl, hr2⟩) fun p H' _ s1 h1 => ?_
  walk_at "rd"
  exact q p H' s1 h1
/-! ### tallest_of -/
def spTallestOf : Sp := fun vs H Q _ => ∃ n : Nat, vs = [.int n] ∧ ∀ (h : Nat) (H' : Hp), Same H H' → Tl n h → Q (.int h) H'
abbrev s_tallest_of : Stmt := (top 12)
theorem sc_tallest_of : FnScope ["width", "height", "least", "more"] ["width"] (defScope s_tallest_of) := ⟨rfl, rfl, rfl, by decide +kernel, rfl, by decide +kernel, by decide +kernel⟩
theorem b_tallest_of (T : Txt K mg) : Body P w K mg base (0) ["width", "height", "least", "more"] "tallest_of" (defScope s_tallest_of) (defBody s_tallest_of) spTallestOf := by
  intro f cdv A outer s H vs Q E hr h
  obtain ⟨n, rfl, q⟩ := h
  have hu := hu_of hr
  have tk : Takes (cxOf (L2.CX P w) P w K mg base ["width", "height", "least", "more"] "tallest_of" (defScope s_tallest_of) f cdv A outer s H E) (fun cls d _ H => E cls d H) := takes_of rfl rfl rfl rfl
  refine ⟨_, (pss_cons (ps_asg (pe_tup (pa_cons pe_int (pa_cons pe_int (pa_cons pe_int pa_nil)))) (pg_tup (n := 3) (by rfl) (pgs_cons (pg_name (i := 1) sc_tallest_of.nd rfl (Or.inl rfl)) (pgs_cons (pg_name (i := 2) sc_tallest_of.nd rfl (Or.inl rfl)) (pgs_cons (pg_name (i := 3) sc_tallest_of.nd rfl (Or.inl rfl)) pgs_nil)))))
    (pss_cons (ps_while (passes_of rfl) (pt_cmpR op_le (pv 3) (pv 0) (nomark _)) (pss_one (ps_par3 (i := 1) (j := 2) (l := 3) (by rfl) sc_tallest_of.nd rfl rfl rfl (by decide) (by decide) (by decide) rfl rfl rfl (pa_cons (pe_op op_add (pv 1) pe_int) (pa_cons (pv 3) (pa_cons (pe_op op_add (pv 2) (pv 3)) pa_nil))) (by rfl))))
    (pss_one (ps_ret (pv 1))))), ?_⟩
  refine i_start [some _, none, none, none] (by rfl) ?_
  try dsimp only [cxOf]
  walk_at "rd"
  refine ⟨by show 3 ≤ sizeLine; decide, fun t ht => ?_⟩
  walk_at "rd"
  refine ⟨t, _, rfl, SqT.of upd_same, rfl, ?_⟩
  walk_at "rd"
  refine i_whileR (fun m s h => ∃ k : Nat, s = [some (.int n), some (.int k), some (.int (L k : Nat)), some (.int (L (k + 1) : Nat))] ∧ h = L2.upd H t (.tup [.int 0, .int 1, .int 2]) ∧ (k = 0 ∨ L k ≤ n) ∧ m = n + 1 - L (k + 1)) (n + 1 - L 1) ⟨0, rfl, rfl, .inl rfl, rfl⟩ ?_
  rintro m s h ⟨k, rfl, rfl, hk, rfl⟩
  walk_at "rd"
  refine i_dec (fun c => ?_) (fun c => ?_)
  · refine i_more ?_
    walk_at "rd"
    have lt : L (k + 1) < L (k + 2) := L_lt (k + 1)
    refine ⟨n + 1 - L (k + 2), by omega, k + 1, ?_, rfl, .inr (by omega), rfl⟩
    have e1 : (k : Int) + 1 = ((k + 1 : Nat) : Int) := by omega
    have e2 : ((L k : Nat) : Int) + ((L (k + 1) : Nat) : Int) = ((L (k + 2) : Nat) : Int) := by simp only [L]; omega
    rw [e1, e2]
    rfl
  · walk_at "rd"
    exact q k _ (Same.new ht) ⟨hk, by omega⟩
/-! ### width_in -/
def spWidthIn (n : Nat) : Sp := fun vs H Q _ => ∃ v m g, vs = [v, .int (m : Nat)] ∧ GShp H v g ∧ m ≤ n ∧ Q (.int (wIn m g : Nat)) H
abbrev s_width_in : Stmt := (top 13)
theorem sc_width_in : FnScope ["thing", "most", "left", "right"] ["thing", "most"] (defScope s_width_in) := ⟨rfl, rfl, rfl, by decide +kernel, rfl, by decide +kernel, by decide +kernel⟩
theorem b_width_in (T : Txt K mg) (n : Nat) (C_width_in : Cal P w K mg base (n + 0) "width_in" (spPre spWidthIn n)) : Body P w K mg base (n + 0) ["thing", "most", "left", "right"] "width_in" (defScope s_width_in) (defBody s_width_in) (spWidthIn n) := by
  intro f cdv A outer s H vs Q E hr h
  obtain ⟨v, m, g, rfl, hg, hm, q⟩ := h
  have hu := hu_of hr
  have tk : Takes (cxOf (L2.CX P w) P w K mg base ["thing", "most", "left", "right"] "width_in" (defScope s_width_in) f cdv A outer s H E) (fun cls d _ H => E cls d H) := takes_of rfl rfl rfl rfl
  refine ⟨_, (pss_cons (ps_if (pt_cmpR op_isN1 (pv 0) pe_non (nomark _)) (pss_one (ps_ret pe_int)) pss_nil)
    (pss_cons (ps_if (PW.pt (pw_or (pt_cmpR op_eq (pv 1) pe_int (nomark _)) (pw_or (pt_not (pt_val (pe_callB call_isN1 (by rfl) T.g_isinstance (by decide +kernel) (pa_cons (pv 0) (pa_cons (pe_ty "tuple" T.g_tuple) pa_nil))))) (pw_or1 (pt_cmpR op_ne (pe_callB call_lenK (by rfl) T.g_len (by decide +kernel) (pa_cons (pv 0) pa_nil)) pe_int (nomark _)))))) (pss_one (ps_ret pe_int)) pss_nil)
    (pss_cons (ps_set (i := 2) sc_width_in.nd rfl (Or.inl rfl) (pe_cal C_width_in hr (by omega) tk (pa_cons (pe_ix ix_seq (pv 0) pe_int (fun _ _ => rfl)) (pa_cons (pe_op op_sub (pv 1) pe_int) pa_nil))))
    (pss_cons (ps_set (i := 3) sc_width_in.nd rfl (Or.inl rfl) (pe_ifExp (pt_cmpR op_eq (pv 2) pe_int (nomark _)) pe_int (pe_cal C_width_in hr (by omega) tk (pa_cons (pe_ix ix_seq (pv 0) pe_int (fun _ _ => rfl)) (pa_cons (pe_op op_sub (pv 1) pe_int) pa_nil)))))
    (pss_cons (ps_if (PW.pt (pw_or (pt_cmpR op_eq (pv 3) pe_int (nomark _)) (pw_or1 (pt_cmpR op_gt (pe_op op_add (pv 2) (pv 3)) (pe_gint T.g_MOST_NODES) (nomark _))))) (pss_one (ps_ret pe_int)) pss_nil)
    (pss_one (ps_ret (pe_op op_add (pv 2) (pv 3))))))))), ?_⟩
  refine i_start [some _, some _, none, none] (by rfl) ?_
  try dsimp only [cxOf]
  walk_at "rd"
  cases hg with
  | one =>
    walk_at "rd"
    have e : wIn m .one = 1 := by cases m <;> rfl
    rw [e] at q
    exact q
  | @bad _ nn hv hk ht =>
    have e : wIn m .bad = 0 := by cases m <;> rfl
    rw [e] at q
    refine i_isNx hv ?_
    walk_at "rd"
    refine i_dec (fun h0 => ?_) (fun h0 => ?_)
    · walk_at "rd"
      exact q
    · walk_at "rd"
      refine i_inst hk.1 (ty_tuple nn hk.2) ?_
      walk_at "rd"
      cases et : (nn == "tuple") with
      | false =>
        walk_at "rd"
        refine i_T ?_
        exact q
      | true =>
        obtain ⟨a, xs, rfl, ha, hl⟩ := ht (beq_iff_eq.mp et)
        refine i_F ?_
        walk_at "rd"
        refine i_lenT (SqT.of ha) ?_
        walk_at "rd"
        refine i_ndec (fun _ => ?_) (fun z => absurd (by omega) hl)
        walk_at "rd"
        exact q
  | @two a x y l r ha hx hy =>
    walk_at "rd"
    refine i_dec (fun h0 => ?_) (fun h0 => ?_)
    · walk_at "rd"
      have e : m = 0 := by omega
      subst e
      exact q
    · obtain ⟨m', rfl⟩ : ∃ m', m = m' + 1 := ⟨m - 1, by omega⟩
      obtain ⟨n', rfl⟩ : ∃ n', n = n' + 1 := ⟨n - 1, by omega⟩
      have em : ((m' + 1 : Nat) : Int) - 1 = (m' : Nat) := by omega
      walk_at "rd"
      refine i_inst (tyN_tup ha) (ty_tuple "tuple" (by decide)) ?_
      walk_at "rd"
      refine i_F ?_
      walk_at "rd"
      refine i_lenT (SqT.of ha) ?_
      walk_at "rd"
      refine i_ndec (fun z => absurd rfl z) (fun _ => ?_)
      walk_at "rd"
      refine i_ixST (SqT.of ha) rfl ?_
      walk_at "rd"
      rw [em]
      refine ⟨x, m', l, rfl, hx, by omega, ?_⟩
      walk_at "rd"
      refine i_dec (fun hl => ?_) (fun hl => ?_)
      · walk_at "rd"
        refine i_T ?_
        walk_at "rd"
        rw [show wIn (m' + 1) (.two l r) = 0 by simp only [wIn]; exact if_pos (.inl (by omega))] at q
        exact q
      · walk_at "rd"
        refine i_ixST (SqT.of ha) rfl ?_
        walk_at "rd"
        rw [em]
        refine ⟨y, m', r, rfl, hy, by omega, ?_⟩
        walk_at "rd"
        refine i_dec (fun hr2 => ?_) (fun hr2 => ?_)
        · walk_at "rd"
          rw [show wIn (m' + 1) (.two l r) = 0 by simp only [wIn]; exact if_pos (.inr (.inl (by omega)))] at q
          exact q
        · walk_at "rd"
          refine i_dec (fun hs => ?_) (fun hs => ?_)
          · walk_at "rd"
            rw [show wIn (m' + 1) (.two l r) = 0 by simp only [wIn]; exact if_pos (.inr (.inr (by omega)))] at q
            exact q
          · walk_at "rd"
            rw [show wIn (m' + 1) (.two l r) = wIn m' l + wIn m' r by simp only [wIn]; exact if_neg (by omega)] at q
            rw [Int.natCast_add] at q
            exact q
end
end K60

set_option maxHeartbeats 4000000
namespace K60
open PySem PySem.Spec PyProof.Rows L2 KB KM

section
variable {P : Program} {w : World} {K : PySem.W.Frag} {mg : Str → Option Value} {base : Heap}
theorem m_pair (T : Txt K mg) : Met P w K mg base 3 (CB K) "pair" (spPair K) := T.m_Builder_pair.met T.c_Builder sc_Builder_pair (fun vs H Q E h => by obtain ⟨_, _, _, _, _, rfl, _⟩ := h; rfl) (b_pair T (m_Stem T))
theorem c_tallest_of (T : Txt K mg) : Cal P w K mg base 1 "tallest_of" spTallestOf := T.d_tallest_of.cal sc_tallest_of (fun vs H Q E h => by obtain ⟨_, rfl, _⟩ := h; rfl) (b_tallest_of T)
theorem c_width_in (T : Txt K mg) (n : Nat) : Cal P w K mg base (n + 0 + 1) "width_in" (spWidthIn n) := T.d_width_in.rec_ sc_width_in 0 (fun n vs H Q E h => by obtain ⟨_, _, _, rfl, _⟩ := h; rfl) (b_width_in T) n
/-! ### height_in -/
def spHeightIn (n : Nat) : Sp := fun vs H Q _ => ∃ v s, vs = [v] ∧ Shp H v s ∧ hei s ≤ n ∧ Q (.int (hei s : Nat)) H
abbrev s_height_in : Stmt := (top 14)
theorem sc_height_in : FnScope ["shape"] ["shape"] (defScope s_height_in) := ⟨rfl, rfl, rfl, by decide +kernel, rfl, by decide +kernel, by decide +kernel⟩
theorem b_height_in (T : Txt K mg) (n : Nat) (C_height_in : Cal P w K mg base (n + 0) "height_in" (spPre spHeightIn n)) : Body P w K mg base (n + 0) ["shape"] "height_in" (defScope s_height_in) (defBody s_height_in) (spHeightIn n) := by
  intro f cdv A outer s H vs Q E hr h
  obtain ⟨v, sh, rfl, hs, hm, q⟩ := h
  have hu := hu_of hr
  have tk : Takes (cxOf (L2.CX P w) P w K mg base ["shape"] "height_in" (defScope s_height_in) f cdv A outer s H E) (fun cls d _ H => E cls d H) := takes_of rfl rfl rfl rfl
  refine ⟨_, (pss_cons (ps_if (pt_cmpR op_isN1 (pv 0) pe_non (nomark _)) (pss_one (ps_ret pe_int)) pss_nil)
    (pss_one (ps_ret (pe_op op_add pe_int (pe_callB (call_max2K rfl) (by rfl) T.g_max (by decide +kernel) (pa_cons (pe_cal C_height_in hr (by omega) tk (pa_cons (pe_ix ix_tup (pv 0) pe_int (fun _ _ => rfl)) pa_nil)) (pa_cons (pe_cal C_height_in hr (by omega) tk (pa_cons (pe_ix ix_tup (pv 0) pe_int (fun _ _ => rfl)) pa_nil)) pa_nil))))))), ?_⟩
  refine i_start [some _] (by rfl) ?_
  try dsimp only [cxOf]
  walk_at "rd"
  cases hs with
  | one =>
    walk_at "rd"
    exact q
  | @two a x y l r ha hx hy =>
    obtain ⟨n', rfl⟩ : ∃ n', n = n' + 1 := ⟨n - 1, by simp only [hei] at hm; omega⟩
    simp only [hei] at hm
    walk_at "rd"
    refine i_ixT (SqT.of ha) rfl ?_
    walk_at "rd"
    refine ⟨x, l, rfl, hx, by omega, ?_⟩
    walk_at "rd"
    refine i_ixT (SqT.of ha) rfl ?_
    walk_at "rd"
    refine ⟨y, r, rfl, hy, by omega, ?_⟩
    walk_at "rd"
    have eh : (1 : Int) + max ((hei l : Nat) : Int) ((hei r : Nat) : Int) = ((hei (.two l r) : Nat) : Int) := by simp only [hei]; omega
    rw [eh]
    exact q
theorem c_height_in (T : Txt K mg) (n : Nat) : Cal P w K mg base (n + 0 + 1) "height_in" (spHeightIn n) := T.d_height_in.rec_ sc_height_in 0 (fun n vs H Q E h => by obtain ⟨_, _, rfl, _⟩ := h; rfl) (b_height_in T) n
/-! ### balanced_height -/
def spBalH (n : Nat) : Sp := fun vs H Q _ => ∃ v s, vs = [v] ∧ Shp H v s ∧ hei s ≤ n ∧ Q (.int (bh s)) H
abbrev s_balanced_height : Stmt := (top 15)
theorem sc_balanced_height : FnScope ["shape", "left", "right"] ["shape"] (defScope s_balanced_height) := ⟨rfl, rfl, rfl, by decide +kernel, rfl, by decide +kernel, by decide +kernel⟩
theorem b_balanced_height (T : Txt K mg) (n : Nat) (C_balanced_height : Cal P w K mg base (n + 0) "balanced_height" (spPre spBalH n)) : Body P w K mg base (n + 0) ["shape", "left", "right"] "balanced_height" (defScope s_balanced_height) (defBody s_balanced_height) (spBalH n) := by
  intro f cdv A outer s H vs Q E hr h
  obtain ⟨v, sh, rfl, hs, hm, q⟩ := h
  have hu := hu_of hr
  have tk : Takes (cxOf (L2.CX P w) P w K mg base ["shape", "left", "right"] "balanced_height" (defScope s_balanced_height) f cdv A outer s H E) (fun cls d _ H => E cls d H) := takes_of rfl rfl rfl rfl
  refine ⟨_, (pss_cons (ps_if (pt_cmpR op_isN1 (pv 0) pe_non (nomark _)) (pss_one (ps_ret pe_int)) pss_nil)
    (pss_cons (ps_set (i := 1) sc_balanced_height.nd rfl (Or.inl rfl) (pe_cal C_balanced_height hr (by omega) tk (pa_cons (pe_ix ix_tup (pv 0) pe_int (fun _ _ => rfl)) pa_nil)))
    (pss_cons (ps_set (i := 2) sc_balanced_height.nd rfl (Or.inl rfl) (pe_cal C_balanced_height hr (by omega) tk (pa_cons (pe_ix ix_tup (pv 0) pe_int (fun _ _ => rfl)) pa_nil)))
    (pss_cons (ps_if (PW.pt (pw_or (pt_cmpR op_lt (pe_callB (call_min2K rfl) (by rfl) T.g_min (by decide +kernel) (pa_cons (pv 1) (pa_cons (pv 2) pa_nil))) pe_int (nomark _)) (pw_or1 (pt_cmpR op_gt (pe_callB call_absK (by rfl) T.g_abs (by decide +kernel) (pa_cons (pe_op op_sub (pv 1) (pv 2)) pa_nil)) pe_int (nomark _))))) (pss_one (ps_ret (pe_un un_neg pe_int))) pss_nil)
    (pss_one (ps_ret (pe_op op_add pe_int (pe_callB (call_max2K rfl) (by rfl) T.g_max (by decide +kernel) (pa_cons (pv 1) (pa_cons (pv 2) pa_nil)))))))))), ?_⟩
  refine i_start [some _, none, none] (by rfl) ?_
  try dsimp only [cxOf]
  walk_at "rd"
  cases hs with
  | one =>
    walk_at "rd"
    exact q
  | @two a x y l r ha hx hy =>
    obtain ⟨n', rfl⟩ : ∃ n', n = n' + 1 := ⟨n - 1, by simp only [hei] at hm; omega⟩
    simp only [hei] at hm
    walk_at "rd"
    refine i_ixT (SqT.of ha) rfl ?_
    walk_at "rd"
    refine ⟨x, l, rfl, hx, by omega, ?_⟩
    walk_at "rd"
    refine i_ixT (SqT.of ha) rfl ?_
    walk_at "rd"
    refine ⟨y, r, rfl, hy, by omega, ?_⟩
    walk_at "rd"
    simp only [bh] at q
    refine i_dec (fun h1 => ?_) (fun h1 => ?_)
    · rw [if_pos (.inl h1)] at q
      walk_at "rd"
      exact q
    · walk_at "rd"
      refine i_dec (fun h2 => ?_) (fun h2 => ?_)
      · rw [if_pos (.inr h2)] at q
        walk_at "rd"
        exact q
      · rw [if_neg (by rintro (z | z); exact h1 z; exact h2 z)] at q
        walk_at "rd"
        exact q
theorem c_balanced_height (T : Txt K mg) (n : Nat) : Cal P w K mg base (n + 0 + 1) "balanced_height" (spBalH n) := T.d_balanced_height.rec_ sc_balanced_height 0 (fun n vs H Q E h => by obtain ⟨_, _, rfl, _⟩ := h; rfl) (b_balanced_height T) n
/-! ### stem_of -/
def spStemOf (K : PySem.W.Frag) (n : Nat) : Sp := fun vs H Q _ => ∃ v s, vs = [v] ∧ Shp H v s ∧ hei s ≤ n ∧ ∀ p H', Same H H' → Stm (CS K) H' (.ref p) s → Q (.ref p) H'
abbrev s_stem_of : Stmt := (top 16)
theorem sc_stem_of : FnScope ["shape"] ["shape"] (defScope s_stem_of) := ⟨rfl, rfl, rfl, by decide +kernel, rfl, by decide +kernel, by decide +kernel⟩
theorem b_stem_of (T : Txt K mg) (M_Stem : Mak P w K mg base 1 "Stem" (CS K) (spStem K)) (n : Nat) (C_stem_of : Cal P w K mg base (n + 2) "stem_of" (spPre (spStemOf K) n)) : Body P w K mg base (n + 2) ["shape"] "stem_of" (defScope s_stem_of) (defBody s_stem_of) (spStemOf K n) := by
  intro f cdv A outer s H vs Q E hr h
  obtain ⟨v, sh, rfl, hs, hm, q⟩ := h
  have hu := hu_of hr
  have tk : Takes (cxOf (L2.CX P w) P w K mg base ["shape"] "stem_of" (defScope s_stem_of) f cdv A outer s H E) (fun cls d _ H => E cls d H) := takes_of rfl rfl rfl rfl
  refine ⟨_, (pss_cons (ps_if (pt_cmpR op_isN1 (pv 0) pe_non (nomark _)) (pss_one (ps_ret (pe_mak M_Stem hr (by omega) (pa_cons pe_non (pa_cons pe_non pa_nil))))) pss_nil)
    (pss_one (ps_ret (pe_mak M_Stem hr (by omega) (pa_cons (pe_cal C_stem_of hr (by omega) tk (pa_cons (pe_ix ix_tup (pv 0) pe_int (fun _ _ => rfl)) pa_nil)) (pa_cons (pe_cal C_stem_of hr (by omega) tk (pa_cons (pe_ix ix_tup (pv 0) pe_int (fun _ _ => rfl)) pa_nil)) pa_nil)))))), ?_⟩
  refine i_start [some _] (by rfl) ?_
  try dsimp only [cxOf]
  walk_at "rd"
  cases hs with
  | one =>
    walk_at "rd"
    refine stem_made (s := .one) (.inl ⟨rfl, rfl, rfl⟩) fun p H' _ s1 h1 => ?_
    walk_at "rd"
    exact q p H' s1 h1
  | @two a x y l r ha hx hy =>
    obtain ⟨n', rfl⟩ : ∃ n', n = n' + 1 := ⟨n - 1, by simp only [hei] at hm; omega⟩
    simp only [hei] at hm
    walk_at "rd"
    refine i_ixT (SqT.of ha) rfl ?_
    walk_at "rd"
    refine ⟨x, l, rfl, hx, by omega, fun p1 H1 s1 t1 => ?_⟩
    walk_at "rd"
    refine i_ixT (SqT.of (s1 _ _ ha)) rfl ?_
    walk_at "rd"
    refine ⟨y, r, rfl, hy.mono (Same.tups s1), by omega, fun p2 H2 s2 t2 => ?_⟩
    walk_at "rd"
    refine stem_made (s := .two l r) (.inr ⟨l, r, rfl, t1.mono s2, t2⟩) fun p H' _ s3 h1 => ?_
    walk_at "rd"
    exact q p H' ((s1.trans s2).trans s3) h1
theorem c_stem_of (T : Txt K mg) (n : Nat) : Cal P w K mg base (n + 2 + 1) "stem_of" (spStemOf K n) := T.d_stem_of.rec_ sc_stem_of 2 (fun n vs H Q E h => by obtain ⟨_, _, rfl, _⟩ := h; rfl) (b_stem_of T (m_Stem T)) n
/-! ### shape_of -/
def spShapeOf (K : PySem.W.Frag) (n : Nat) : Sp := fun vs H Q _ => ∃ v s, vs = [v] ∧ Stm (CS K) H v s ∧ hei s ≤ n ∧ ∀ v' H', Same H H' → Shp H' v' s → Q v' H'
abbrev s_shape_of : Stmt := (top 17)
theorem sc_shape_of : FnScope ["tree"] ["tree"] (defScope s_shape_of) := ⟨rfl, rfl, rfl, by decide +kernel, rfl, by decide +kernel, by decide +kernel⟩
theorem b_shape_of (T : Txt K mg) (n : Nat) (C_shape_of : Cal P w K mg base (n + 0) "shape_of" (spPre (spShapeOf K) n)) : Body P w K mg base (n + 0) ["tree"] "shape_of" (defScope s_shape_of) (defBody s_shape_of) (spShapeOf K n) := by
  intro f cdv A outer s H vs Q E hr h
  obtain ⟨v, sh, rfl, hs, hm, q⟩ := h
  have hu := hu_of hr
  have tk : Takes (cxOf (L2.CX P w) P w K mg base ["tree"] "shape_of" (defScope s_shape_of) f cdv A outer s H E) (fun cls d _ H => E cls d H) := takes_of rfl rfl rfl rfl
  refine ⟨_, (pss_cons (ps_if (pt_cmpR op_isN1 (pv 0) pe_non (nomark _)) (pss_one (ps_ret (pe_tup pa_nil))) pss_nil)
    (pss_cons (ps_if (pt_cmpR op_eq (pe_fld (pv 0) rfl) pe_int (nomark _)) (pss_one (ps_ret pe_non)) pss_nil)
    (pss_one (ps_ret (pe_tup (pa_cons (pe_cal C_shape_of hr (by omega) tk (pa_cons (pe_fld (pv 0) rfl) pa_nil)) (pa_cons (pe_cal C_shape_of hr (by omega) tk (pa_cons (pe_fld (pv 0) rfl) pa_nil)) pa_nil))))))), ?_⟩
  refine i_start [some _] (by rfl) ?_
  try dsimp only [cxOf]
  obtain ⟨a, dx, x, y, rfl, ha, hc⟩ := hs.at_
  walk_at "rd"
  refine i_fldR ha T.c_Stem T.n_Stem_height st_height ?_
  walk_at "rd"
  rcases hc with ⟨rfl, rfl, rfl⟩ | ⟨l, r, rfl, hl, hr2⟩
  · refine i_dec (fun _ => ?_) (fun z => absurd rfl z)
    walk_at "rd"
    exact q _ H (Same.refl H) .one
  · refine i_dec (fun z => by simp only [hei] at z; omega) (fun _ => ?_)
    obtain ⟨n', rfl⟩ : ∃ n', n = n' + 1 := ⟨n - 1, by simp only [hei] at hm; omega⟩
    simp only [hei] at hm
    walk_at "rd"
    refine i_fldR ha T.c_Stem T.n_Stem_left st_left ?_
    walk_at "rd"
    refine ⟨x, l, rfl, hl, by omega, fun v1 H1 s1 t1 => ?_⟩
    walk_at "rd"
    refine i_fldR (s1 _ _ ha) T.c_Stem T.n_Stem_right st_right ?_
    walk_at "rd"
    refine ⟨y, r, rfl, hr2.mono s1, by omega, fun v2 H2 s2 t2 => ?_⟩
    walk_at "rd"
    refine ⟨by show 2 ≤ sizeLine; decide, fun t ht => ?_⟩
    walk_at "rd"
    have s3 : Same H2 (L2.upd H2 t (.tup [v1, v2])) := Same.new ht
    exact q _ _ ((s1.trans s2).trans s3) (.two upd_same (t1.mono (Same.tups (s2.trans s3))) (t2.mono (Same.tups s3)))
theorem c_shape_of (T : Txt K mg) (n : Nat) : Cal P w K mg base (n + 0 + 1) "shape_of" (spShapeOf K n) := T.d_shape_of.rec_ sc_shape_of 0 (fun n vs H Q E h => by obtain ⟨_, _, rfl, _⟩ := h; rfl) (b_shape_of T) n
end
end K60

set_option maxHeartbeats 4000000
namespace K60
open PySem PySem.Spec PyProof.Rows L2 KB KM

section
variable {P : Program} {w : World} {K : PySem.W.Frag} {mg : Str → Option Value} {base : Heap}
/-! ### even_row -/
def spEvenRow (K : PySem.W.Frag) (n : Nat) : Sp := fun vs H Q _ => ∃ b dx m xs bg e, vs = [.ref b, .ref m, .int (bg : Nat), .int (e : Nat)] ∧ H b = some (.ins (CB K) dx []) ∧ H m = some (.lst xs) ∧ bg < e ∧
  (∀ i, bg ≤ i → i < e → ∃ v, xs[i]? = some v ∧ Stm (CS K) H v .one) ∧ hei (evS (e - bg)) ≤ n ∧ ∀ v H', Same H H' → Stm (CS K) H' v (evS (e - bg)) → Q v H'
abbrev s_even_row : Stmt := (top 18)
theorem sc_even_row : FnScope ["builder", "members", "begin", "end", "middle"] ["builder", "members", "begin", "end"] (defScope s_even_row) := ⟨rfl, rfl, rfl, by decide +kernel, rfl, by decide +kernel, by decide +kernel⟩
theorem b_even_row (T : Txt K mg) (D_Builder_pair : Met P w K mg base 3 (CB K) "pair" (spPair K)) (n : Nat) (C_even_row : Cal P w K mg base (n + 3) "even_row" (spPre (spEvenRow K) n)) : Body P w K mg base (n + 3) ["builder", "members", "begin", "end", "middle"] "even_row" (defScope s_even_row) (defBody s_even_row) (spEvenRow K n) := by
  intro f cdv A outer s H vs Q E hr h
  obtain ⟨b, dx, m, xs, bg, e, rfl, hb, hm, hlt, hx, hn, q⟩ := h
  have hu := hu_of hr
  have tk : Takes (cxOf (L2.CX P w) P w K mg base ["builder", "members", "begin", "end", "middle"] "even_row" (defScope s_even_row) f cdv A outer s H E) (fun cls d _ H => E cls d H) := takes_of rfl rfl rfl rfl
  refine ⟨_, (pss_cons (ps_if (pt_cmpR op_eq (pv 3) (pe_op op_add (pv 2) pe_int) (nomark _)) (pss_one (ps_ret (pe_ix ix_list (pv 1) (pv 2) (fun _ _ => rfl)))) pss_nil)
    (pss_cons (ps_set (i := 4) sc_even_row.nd rfl (Or.inl rfl) (pe_op op_fdiv (pe_op op_add (pe_op op_add (pv 2) (pv 3)) pe_int) pe_int))
    (pss_one (ps_ret (pe_met D_Builder_pair hr (by omega) (pv 0) (pa_cons (pe_cal C_even_row hr (by omega) tk (pa_cons (pv 0) (pa_cons (pv 1) (pa_cons (pv 2) (pa_cons (pv 4) pa_nil))))) (pa_cons (pe_cal C_even_row hr (by omega) tk (pa_cons (pv 0) (pa_cons (pv 1) (pa_cons (pv 4) (pa_cons (pv 3) pa_nil))))) pa_nil))))))), ?_⟩
  refine i_start [some _, some _, some _, some _, none] (by rfl) ?_
  try dsimp only [cxOf]
  walk_at "rd"
  refine i_dec (fun h1 => ?_) (fun h1 => ?_)
  · have e1 : e = bg + 1 := by omega
    obtain ⟨v, hv, hs⟩ := hx bg (Nat.le_refl _) hlt
    walk_at "rd"
    refine i_ixL (SqL.of hm) (atI_nat hv) ?_
    walk_at "rd"
    rw [show e - bg = 1 by omega, evS_1 (Nat.le_refl 1)] at q
    exact q v H (Same.refl H) hs
  · walk_at "rd"
    refine i_rI (by show (0 : Int) < 2 ∧ (2 : Int) < 1073741824; decide) ?_
    walk_at "rd"
    obtain ⟨md, emd⟩ : ∃ md : Nat, md = (bg + e + 1) / 2 := ⟨_, rfl⟩
    have ei : ((bg : Nat) : Int) + ((e : Nat) : Int) + 1 = ((bg + e + 1 : Nat) : Int) := by omega
    have em : (((bg : Nat) : Int) + ((e : Nat) : Int) + 1) / 2 = ((md : Nat) : Int) := by rw [ei, emd]; omega
    rw [em]
    have ev := evS_2 (n := e - bg) (by omega)
    have a1 : (e - bg + 1) / 2 = md - bg := by omega
    have a2 : (e - bg) / 2 = e - md := by omega
    rw [a1, a2] at ev
    rw [ev] at q hn
    simp only [hei] at hn
    obtain ⟨n', rfl⟩ : ∃ n', n = n' + 1 := ⟨n - 1, by omega⟩
    refine ⟨b, dx, [], rfl, hb, rfl, ?_⟩
    walk_at "rd"
    refine ⟨b, dx, m, xs, bg, md, rfl, hb, hm, by omega, fun i h2 h3 => hx i h2 (by omega), by omega, fun v1 H1 s1 t1 => ?_⟩
    walk_at "rd"
    refine ⟨b, dx, m, xs, md, e, rfl, s1 _ _ hb, s1 _ _ hm, by omega, fun i h2 h3 => ?_, by omega, fun v2 H2 s2 t2 => ?_⟩
    · obtain ⟨v, hv, hs⟩ := hx i (by omega) h3
      exact ⟨v, hv, hs.mono s1⟩
    · walk_at "rd"
      refine ⟨_, v1, v2, _, _, rfl, t1.mono s2, t2, fun p H' s3 t3 => ?_⟩
      exact q _ _ ((s1.trans s2).trans s3) t3
theorem c_even_row (T : Txt K mg) (n : Nat) : Cal P w K mg base (n + 3 + 1) "even_row" (spEvenRow K n) := T.d_even_row.rec_ sc_even_row 3 (fun n vs H Q E h => by obtain ⟨_, _, _, _, _, _, rfl, _⟩ := h; rfl) (b_even_row T (m_pair T)) n
/-! ### need_shape, is_balanced, width_of, height_of -/
theorem g_good : ∀ (g : GS) (m : Nat), wIn m g ≠ 0 → ∃ s : Sh, g = s.g ∧ hei s ≤ m ∧ wid s = wIn m g ∧ wid s ≤ 20000
  | .one, m, _ => ⟨.one, rfl, Nat.zero_le _, by cases m <;> rfl, by decide⟩
  | .bad, m, h => by exfalso; apply h; cases m <;> rfl
  | .two l r, 0, h => absurd rfl h
  | .two l r, m + 1, h => by
    simp only [wIn] at h ⊢
    split at h
    · exact absurd rfl h
    · rename_i c
      obtain ⟨a, rfl, h1, h2, h3⟩ := g_good l m (fun z => c (.inl z))
      obtain ⟨b, rfl, h4, h5, h6⟩ := g_good r m (fun z => c (.inr (.inl z)))
      refine ⟨.two a b, rfl, by simp only [hei]; omega, ?_, ?_⟩
      · rw [if_neg c]; simp only [wid]; omega
      · simp only [wid]; omega
theorem gshp_sh {H : Hp} : ∀ (s : Sh) (v : V), GShp H v s.g → Shp H v s
  | .one, _, h => by cases h; exact .one
  | .two l r, _, h => by
    cases h with
    | two a h1 h2 => exact .two a (gshp_sh l _ h1) (gshp_sh r _ h2)
/-- a judge of shapes -/
def spJudge (K : PySem.W.Frag) (f : Sh → V) : Sp := fun vs H Q E => ∃ v g, vs = [v] ∧ GShp H v g ∧ (wIn 40 g = 0 → E (.ref (He.ga K "BadShape")) none H) ∧
  ∀ s, g = s.g → Shp H v s → hei s ≤ 40 → wid s ≤ 20000 → Q (f s) H
abbrev s_need_shape : Stmt := (top 20)
theorem sc_need_shape : FnScope ["shape", "width"] ["shape"] (defScope s_need_shape) := ⟨rfl, rfl, rfl, by decide +kernel, rfl, by decide +kernel, by decide +kernel⟩
theorem b_need_shape (T : Txt K mg) (C_width_in : Cal P w K mg base 41 "width_in" (spWidthIn 40)) : Body P w K mg base (41) ["shape", "width"] "need_shape" (defScope s_need_shape) (defBody s_need_shape) (spJudge K fun s => .int (wid s : Nat)) := by
  intro f cdv A outer s H vs Q E hr h
  obtain ⟨v, g, rfl, hg, q1, q2⟩ := h
  have hu := hu_of hr
  have tk : Takes (cxOf (L2.CX P w) P w K mg base ["shape", "width"] "need_shape" (defScope s_need_shape) f cdv A outer s H E) (fun cls d _ H => E cls d H) := takes_of rfl rfl rfl rfl
  refine ⟨_, (pss_cons (ps_set (i := 1) sc_need_shape.nd rfl (Or.inl rfl) (pe_cal C_width_in hr (by omega) tk (pa_cons (pv 0) (pa_cons (pe_gint T.g_MOST_HEIGHT) pa_nil))))
    (pss_cons (ps_if (pt_cmpR op_eq (pv 1) pe_int (nomark _)) (pss_one (ps_raiseX T.x_BadShape tk)) pss_nil)
    (pss_one (ps_ret (pv 1))))), ?_⟩
  refine i_start [some _, none] (by rfl) ?_
  try dsimp only [cxOf]
  walk_at "rd"
  refine ⟨v, 40, g, rfl, hg, Nat.le_refl _, ?_⟩
  walk_at "rd"
  refine i_dec (fun h => ?_) (fun h => ?_)
  · walk_at "rd"
    exact q1 (by omega)
  · walk_at "rd"
    obtain ⟨sh, e, h1, h2, h3⟩ := g_good g 40 (by omega)
    rw [← h2]
    subst e
    exact q2 sh rfl (gshp_sh sh v hg) h1 h3
theorem c_need_shape (T : Txt K mg) : Cal P w K mg base 42 "need_shape" (spJudge K fun s => .int (wid s : Nat)) := T.d_need_shape.cal sc_need_shape (fun vs H Q E h => by obtain ⟨_, _, rfl, _⟩ := h; rfl) (b_need_shape T (c_width_in T 40))
abbrev s_is_balanced : Stmt := (top 21)
theorem sc_is_balanced : FnScope ["shape"] ["shape"] (defScope s_is_balanced) := ⟨rfl, rfl, rfl, by decide +kernel, rfl, by decide +kernel, by decide +kernel⟩
theorem b_is_balanced (T : Txt K mg) (C_need_shape : Cal P w K mg base 42 "need_shape" (spJudge K fun s => .int (wid s : Nat))) (C_balanced_height : Cal P w K mg base 41 "balanced_height" (spBalH 40)) :
    Body P w K mg base (42) ["shape"] "is_balanced" (defScope s_is_balanced) (defBody s_is_balanced) (spJudge K fun s => .bl (decide (0 ≤ bh s))) := by
  intro f cdv A outer s H vs Q E hr h
  obtain ⟨v, g, rfl, hg, q1, q2⟩ := h
  have hu := hu_of hr
  have tk : Takes (cxOf (L2.CX P w) P w K mg base ["shape"] "is_balanced" (defScope s_is_balanced) f cdv A outer s H E) (fun cls d _ H => E cls d H) := takes_of rfl rfl rfl rfl
  refine ⟨_, (pss_cons (ps_expr (pe_cal C_need_shape hr (by omega) tk (pa_cons (pv 0) pa_nil)))
    (pss_one (ps_ret (pe_cmpR op_ge (pe_cal C_balanced_height hr (by omega) tk (pa_cons (pv 0) pa_nil)) pe_int (nomark _))))), ?_⟩
  refine i_start [some _] (by rfl) ?_
  try dsimp only [cxOf]
  walk_at "rd"
  refine ⟨v, g, rfl, hg, q1, fun sh e hs h1 h2 => ?_⟩
  walk_at "rd"
  refine ⟨v, sh, rfl, hs, h1, ?_⟩
  walk_at "rd"
  exact q2 sh e hs h1 h2
theorem c_is_balanced (T : Txt K mg) : Cal P w K mg base 43 "is_balanced" (spJudge K fun s => .bl (decide (0 ≤ bh s))) :=
  T.d_is_balanced.cal sc_is_balanced (fun vs H Q E h => by obtain ⟨_, _, rfl, _⟩ := h; rfl) (b_is_balanced T (c_need_shape T) (c_balanced_height T 40))
abbrev s_width_of : Stmt := (top 22)
theorem sc_width_of : FnScope ["shape"] ["shape"] (defScope s_width_of) := ⟨rfl, rfl, rfl, by decide +kernel, rfl, by decide +kernel, by decide +kernel⟩
theorem b_width_of (T : Txt K mg) (C_need_shape : Cal P w K mg base 42 "need_shape" (spJudge K fun s => .int (wid s : Nat))) : Body P w K mg base (42) ["shape"] "width_of" (defScope s_width_of) (defBody s_width_of) (spJudge K fun s => .int (wid s : Nat)) := by
  intro f cdv A outer s H vs Q E hr h
  obtain ⟨v, g, rfl, hg, q1, q2⟩ := h
  have hu := hu_of hr
  have tk : Takes (cxOf (L2.CX P w) P w K mg base ["shape"] "width_of" (defScope s_width_of) f cdv A outer s H E) (fun cls d _ H => E cls d H) := takes_of rfl rfl rfl rfl
  refine ⟨_, (pss_one (ps_ret (pe_cal C_need_shape hr (by omega) tk (pa_cons (pv 0) pa_nil)))), ?_⟩
  refine i_start [some _] (by rfl) ?_
  try dsimp only [cxOf]
  walk_at "rd"
  exact ⟨v, g, rfl, hg, q1, q2⟩
theorem c_width_of (T : Txt K mg) : Cal P w K mg base 43 "width_of" (spJudge K fun s => .int (wid s : Nat)) :=
  T.d_width_of.cal sc_width_of (fun vs H Q E h => by obtain ⟨_, _, rfl, _⟩ := h; rfl) (b_width_of T (c_need_shape T))
abbrev s_height_of : Stmt := (top 23)
theorem sc_height_of : FnScope ["shape"] ["shape"] (defScope s_height_of) := ⟨rfl, rfl, rfl, by decide +kernel, rfl, by decide +kernel, by decide +kernel⟩
theorem b_height_of (T : Txt K mg) (C_need_shape : Cal P w K mg base 42 "need_shape" (spJudge K fun s => .int (wid s : Nat))) (C_height_in : Cal P w K mg base 41 "height_in" (spHeightIn 40)) :
    Body P w K mg base (42) ["shape"] "height_of" (defScope s_height_of) (defBody s_height_of) (spJudge K fun s => .int (hei s : Nat)) := by
  intro f cdv A outer s H vs Q E hr h
  obtain ⟨v, g, rfl, hg, q1, q2⟩ := h
  have hu := hu_of hr
  have tk : Takes (cxOf (L2.CX P w) P w K mg base ["shape"] "height_of" (defScope s_height_of) f cdv A outer s H E) (fun cls d _ H => E cls d H) := takes_of rfl rfl rfl rfl
  refine ⟨_, (pss_cons (ps_expr (pe_cal C_need_shape hr (by omega) tk (pa_cons (pv 0) pa_nil)))
    (pss_one (ps_ret (pe_cal C_height_in hr (by omega) tk (pa_cons (pv 0) pa_nil))))), ?_⟩
  refine i_start [some _] (by rfl) ?_
  try dsimp only [cxOf]
  walk_at "rd"
  refine ⟨v, g, rfl, hg, q1, fun sh e hs h1 h2 => ?_⟩
  walk_at "rd"
  refine ⟨v, sh, rfl, hs, h1, ?_⟩
  exact q2 sh e hs h1 h2
theorem c_height_of (T : Txt K mg) : Cal P w K mg base 43 "height_of" (spJudge K fun s => .int (hei s : Nat)) :=
  T.d_height_of.cal sc_height_of (fun vs H Q E h => by obtain ⟨_, _, rfl, _⟩ := h; rfl) (b_height_of T (c_need_shape T) (c_height_in T 40))
/-! ### tallest -/
def spTallest (K : PySem.W.Frag) : Sp := fun vs H Q E => ∃ x n, vs = [x] ∧ Kn H x n ∧ (∀ n : Nat, x = .int n → n ≤ 20000 → ∀ (h : Nat) H', Same H H' → Tl n h → Q (.int h) H') ∧
  ((∀ i, x = .int i → ¬ (0 ≤ i ∧ i ≤ 20000)) → E (.ref (He.ga K "BadCount")) none H)
abbrev s_tallest : Stmt := (top 24)
theorem sc_tallest : FnScope ["width"] ["width"] (defScope s_tallest) := ⟨rfl, rfl, rfl, by decide +kernel, rfl, by decide +kernel, by decide +kernel⟩
theorem b_tallest (T : Txt K mg) (C_need_count : Cal P w K mg base 2 "need_count" (spNeedCount K)) (C_tallest_of : Cal P w K mg base 1 "tallest_of" spTallestOf) : Body P w K mg base (2) ["width"] "tallest" (defScope s_tallest) (defBody s_tallest) (spTallest K) := by
  intro f cdv A outer s H vs Q E hr h
  obtain ⟨x, n, rfl, hk, q1, q2⟩ := h
  have hu := hu_of hr
  have tk : Takes (cxOf (L2.CX P w) P w K mg base ["width"] "tallest" (defScope s_tallest) f cdv A outer s H E) (fun cls d _ H => E cls d H) := takes_of rfl rfl rfl rfl
  refine ⟨_, (pss_cons (ps_expr (pe_cal C_need_count hr (by omega) tk (pa_cons (pv 0) (pa_cons (pe_gint T.g_MOST_NODES) pa_nil))))
    (pss_one (ps_ret (pe_cal C_tallest_of hr (by omega) tk (pa_cons (pv 0) pa_nil))))), ?_⟩
  refine i_start [some _] (by rfl) ?_
  try dsimp only [cxOf]
  walk_at "rd"
  refine ⟨x, n, 20000, rfl, hk, fun i e h0 h1 => ?_, q2⟩
  walk_at "rd"
  subst e
  have ei : ((i.toNat : Nat) : Int) = i := by omega
  refine ⟨i.toNat, by rw [ei], fun h H' sm tl => ?_⟩
  exact q1 i.toNat (by rw [ei]) (by omega) h H' sm tl
theorem c_tallest (T : Txt K mg) : Cal P w K mg base 3 "tallest" (spTallest K) := T.d_tallest.cal sc_tallest (fun vs H Q E h => by obtain ⟨_, _, rfl, _⟩ := h; rfl) (b_tallest T (c_need_count T) (c_tallest_of T))
/-! ### even_shape -/
def spEvenShape (K : PySem.W.Frag) : Sp := fun vs H Q E => ∃ x n, vs = [x] ∧ Kn H x n ∧ (∀ n : Nat, x = .int n → 1 ≤ n → n ≤ 20000 → ∀ v H', Same H H' → Shp H' v (evS n) → Q v H') ∧
  ((∀ i, x = .int i → ¬ (1 ≤ i ∧ i ≤ 20000)) → E (.ref (He.ga K "BadCount")) none H)
theorem rep_at {v : V} {n i : Nat} (h : i < n) : (List.replicate n [v]).flatten[i]? = some v := by
  have e : ∀ n, (List.replicate n [v]).flatten = List.replicate n v := by
    intro n
    induction n with
    | zero => rfl
    | succ n ih => rw [List.replicate_succ, List.flatten_cons, ih, List.replicate_succ]; rfl
  rw [e, List.getElem?_replicate, if_pos h]
abbrev s_even_shape : Stmt := (top 25)
theorem sc_even_shape : FnScope ["width"] ["width"] (defScope s_even_shape) := ⟨rfl, rfl, rfl, by decide +kernel, rfl, by decide +kernel, by decide +kernel⟩
theorem b_even_shape (T : Txt K mg) (C_need_count : Cal P w K mg base 2 "need_count" (spNeedCount K)) (C_stem_of : Cal P w K mg base 3 "stem_of" (spStemOf K 0)) (C_even_row : Cal P w K mg base 19 "even_row" (spEvenRow K 15))
    (C_shape_of : Cal P w K mg base 16 "shape_of" (spShapeOf K 15)) : Body P w K mg base (19) ["width"] "even_shape" (defScope s_even_shape) (defBody s_even_shape) (spEvenShape K) := by
  intro f cdv A outer s H vs Q E hr h
  obtain ⟨x, n, rfl, hk, q1, q2⟩ := h
  have hu := hu_of hr
  have tk : Takes (cxOf (L2.CX P w) P w K mg base ["width"] "even_shape" (defScope s_even_shape) f cdv A outer s H E) (fun cls d _ H => E cls d H) := takes_of rfl rfl rfl rfl
  refine ⟨_, (pss_cons (ps_expr (pe_cal C_need_count hr (by omega) tk (pa_cons (pv 0) (pa_cons (pe_gint T.g_MOST_NODES) pa_nil))))
    (pss_cons (ps_if (pt_cmpR op_eq (pv 0) pe_int (nomark _)) (pss_one (ps_raiseX T.x_BadCount tk)) pss_nil)
    (pss_one (ps_ret (pe_cal C_shape_of hr (by omega) tk (pa_cons (pe_cal C_even_row hr (by omega) tk (pa_cons (pe_bare T.b_Builder) (pa_cons (pe_op op_rep (pe_lst (pa_cons (pe_cal C_stem_of hr (by omega) tk (pa_cons pe_non pa_nil)) pa_nil)) (pv 0)) (pa_cons pe_int (pa_cons (pv 0) pa_nil))))) pa_nil)))))), ?_⟩
  refine i_start [some _] (by rfl) ?_
  try dsimp only [cxOf]
  walk_at "rd"
  refine ⟨x, n, 20000, rfl, hk, fun i e h0 h1 => ?_, fun z => q2 fun i e h => z i e ⟨by omega, h.2⟩⟩
  subst e
  walk_at "rd"
  refine i_dec (fun hz => ?_) (fun hz => ?_)
  · walk_at "rd"
    refine q2 fun j e => ?_
    cases e
    omega
  · walk_at "rd"
    obtain ⟨m, rfl⟩ : ∃ m : Nat, i = m := ⟨i.toNat, by omega⟩
    intro b db hb hdb nb
    walk_at "rd"
    refine ⟨.non, .one, rfl, .one, Nat.zero_le _, fun p H1 s1 t1 => ?_⟩
    walk_at "rd"
    refine ⟨by show 1 ≤ sizeLine; decide, fun l hl => ?_⟩
    walk_at "rd"
    have line : (20000 : Nat) ≤ sizeLine := by decide
    refine ⟨l, _, _, rfl, rfl, upd_same, by omega, by omega, by rw [List.length_singleton, Int.toNat_natCast]; omega, fun ms hms => ?_⟩
    walk_at "rd"
    have sH : Same H (L2.upd (L2.upd H db (.own b)) b (.ins (He.ga K "Builder") db [])) := Same.upd (Same.new hdb) hb
    have s2 : Same H1 (L2.upd H1 l (.lst [.ref p])) := Same.new hl
    have s3 : Same (L2.upd H1 l (.lst [.ref p])) (L2.upd (L2.upd H1 l (.lst [.ref p])) ms (.lst (List.replicate ((m : Int)).toNat [.ref p]).flatten)) := Same.new hms
    refine ⟨b, db, ms, _, 0, m, rfl, s3 _ _ (s2 _ _ (s1 _ _ upd_same)), upd_same, by omega, fun i h2 h3 => ⟨_, rep_at (by rw [Int.toNat_natCast]; exact h3), (t1.mono s2).mono s3⟩, evS_low (by omega) (by omega), fun v H' s4 t4 => ?_⟩
    walk_at "rd"
    refine ⟨v, _, rfl, t4, evS_low (by omega) (by omega), fun v' H'' s5 t5 => ?_⟩
    exact q1 m rfl (by omega) (by omega) v' H'' ((((sH.trans s1).trans s2).trans s3).trans (s4.trans s5)) t5
theorem c_even_shape (T : Txt K mg) : Cal P w K mg base 20 "even_shape" (spEvenShape K) :=
  T.d_even_shape.cal sc_even_shape (fun vs H Q E h => by obtain ⟨_, _, rfl, _⟩ := h; rfl) (b_even_shape T (c_need_count T) (c_stem_of T 0) (c_even_row T 15) (c_shape_of T 15))
end
end K60

set_option maxHeartbeats 4000000
set_option exponentiation.threshold 2000
namespace K60
open PySem PySem.Spec PyProof.Rows L2 KB KM

/-! ### the law's draws -/
abbrev ib : Int → Nat := Builtin.Int.intBits
theorem ib_le {x : Int} {m : Nat} (h : x.natAbs < 2 ^ m) : ib x ≤ m := PyProof.Rows.intBits_le h
theorem ib_mono {x y : Int} (h : x.natAbs ≤ y.natAbs) : ib x ≤ ib y := by
  by_cases hx : x = 0
  · subst hx; exact Nat.zero_le _
  · have hy : y ≠ 0 := by omega
    show Builtin.Int.intBits x ≤ Builtin.Int.intBits y
    unfold Builtin.Int.intBits
    rw [if_neg (by simpa using hx), if_neg (by simpa using hy)]
    have h1 : x.natAbs < 2 ^ (y.natAbs.log2 + 1) := Nat.lt_of_le_of_lt h Nat.lt_log2_self
    have h2 := (Nat.log2_lt (by omega)).mpr h1
    omega
theorem mulx {x y : Int} (a b : Nat) (h1 : ib x ≤ a) (h2 : ib y ≤ b) (h : a + b ≤ 134217728) : CMulX x y := by
  unfold CMulX
  have h3 : Builtin.Int.intBits x ≤ a := h1
  have h4 : Builtin.Int.intBits y ≤ b := h2
  omega
/-- what a feed holds behind at most n stirred draws -/
def FdL (n : Nat) (xs : List V) : Prop := ∃ a b c : Int, xs = [.int a, .int b, .int c] ∧ 0 ≤ a ∧ ib a ≤ 1048576 ∧ 0 ≤ b ∧ b < 10 ^ 40 ∧ 0 ≤ c ∧ c ≤ n
theorem FdL.mono {n m : Nat} {xs : List V} (h : FdL n xs) (l : n ≤ m) : FdL m xs := by
  obtain ⟨a, b, c, e, h1, h2, h3, h4, h5, h6⟩ := h
  exact ⟨a, b, c, e, h1, h2, h3, h4, h5, by omega⟩
section
variable {P : Program} {w : World} {K : PySem.W.Frag} {mg : Str → Option Value} {base : Heap}
/-! ### _law_feed -/
def spFeed (K : PySem.W.Frag) : Sp := fun vs H Q _ => ∃ (a : Addr) (ns : List Int) (k : Nat), vs = [.ref a, .int k] ∧ SqL K H a (ns.map V.int) ∧ (∀ z ∈ ns, ib z ≤ 1048576) ∧ k ≤ 100 ∧
  ∀ (p : Addr) (xs : List V) (H' : Hp), H p = none → Same H H' → H' p = some (.lst xs) → FdL 0 xs → Q (.ref p) H'
theorem cut1 (ns : List Int) : cutV (ns.map V.int) none (some 1) = (ns.take 1).map V.int := by
  unfold cutV
  have e := HT.sIx_nat (ns.map V.int).length (ns.map V.int).length 1
  rw [show ((1 : Nat) : Int) = 1 from rfl] at e
  rw [e, HT.sIx_none, List.drop_zero, Nat.sub_zero, List.map_take, List.length_map]
  cases ns with
  | nil => rfl
  | cons z r => simp
theorem sum1 {ns : List Int} (h : ∀ z ∈ ns, ib z ≤ 1048576) : ib (ns.take 1).sum ≤ 1048576 := by
  cases ns with
  | nil => decide
  | cons z r => simpa using h z (by simp)
abbrev s__law_feed : Stmt := (top 27)
theorem sc__law_feed : FnScope ["script", "k", "cell"] ["script", "k"] (defScope s__law_feed) := ⟨rfl, rfl, rfl, by decide +kernel, rfl, by decide +kernel, by decide +kernel⟩
theorem feed_end {cell : Int} {k : Nat} (h : ∃ z : Int, ib z ≤ 1048576 ∧ z ≤ cell ∧ cell ≤ z + 100000) :
    FdL 0 [.int (max 0 (cell - 10 ^ (18 : Int).toNat)), .int ((cell * 19 + 7 * (k : Int)) % (10 ^ (39 : Int).toNat + 23)), .int 0] := by
  obtain ⟨z, h1, h2, h3⟩ := h
  refine ⟨_, _, _, rfl, by omega, ?_, Int.emod_nonneg _ (by decide +kernel), ?_, by omega, by omega⟩
  · refine Nat.le_trans (ib_mono ?_) h1
    rw [show (10 : Int) ^ (18 : Int).toNat = 1000000000000000000 by decide +kernel]
    omega
  · exact Int.lt_trans (Int.emod_lt_of_pos _ (by decide +kernel)) (by decide +kernel)
theorem b_feed (T : Txt K mg) : Body P w K mg base (0) ["script", "k", "cell"] "_law_feed" (defScope s__law_feed) (defBody s__law_feed) (spFeed K) := by
  intro f cdv A outer s H vs Q E hr h
  obtain ⟨a, ns, k, rfl, hS, hb, hk, q⟩ := h
  have hu := hu_of hr
  have tk : Takes (cxOf (L2.CX P w) P w K mg base ["script", "k", "cell"] "_law_feed" (defScope s__law_feed) f cdv A outer s H E) (fun cls d _ H => E cls d H) := takes_of rfl rfl rfl rfl
  refine ⟨_, (pss_cons (ps_set (i := 2) sc__law_feed.nd rfl (Or.inl rfl) (pe_op op_add (pe_op op_mul pe_int (pv 1)) (pe_callB (cr_sum rfl) (by rfl) T.g_sum (by decide +kernel) (pa_cons (pe_slice sl_list (pv 0) po_none (po_some pe_int)) pa_nil))))
    (pss_cons (ps_if (pt_cmpR op_lt (pv 1) (pe_callB call_lenK (by rfl) T.g_len (by decide +kernel) (pa_cons (pv 0) pa_nil)) (nomark _)) (pss_one (ps_set (i := 2) sc__law_feed.nd rfl (Or.inl rfl) (pe_ix ix_list (pv 0) (pv 1) (fun _ _ => rfl)))) pss_nil)
    (pss_one (ps_ret (pe_lst (pa_cons (pe_callB (call_max2K rfl) (by rfl) T.g_max (by decide +kernel) (pa_cons pe_int (pa_cons (pe_op op_sub (pv 2) (pe_op op_pow pe_int pe_int)) pa_nil))) (pa_cons (pe_op op_mod (pe_callTy call_int1K (by rfl) T.g_int (by decide +kernel) (pa_cons (pe_op op_add (pe_op op_mul (pv 2) pe_int) (pe_op op_mul pe_int (pv 1))) pa_nil)) (pe_op op_add (pe_op op_pow pe_int pe_int) pe_int)) (pa_cons pe_int pa_nil)))))))), ?_⟩
  refine i_start [some _, some _, none] (by rfl) ?_
  try dsimp only [cxOf]
  walk_at "rd"
  refine i_rI (.inl ⟨by decide, by decide⟩) ?_
  walk_at "rd"
  refine ⟨a, _, rfl, hS, fun sl hsl => ?_⟩
  walk_at "rd"
  rw [cut1]
  refine ⟨sl, ns.take 1, rfl, SqL.of upd_same, ?_⟩
  walk_at "rd"
  have s1 : Same H (L2.upd H sl (.lst ((ns.take 1).map V.int))) := Same.new hsl
  refine i_lenL (s1.seq hS) ?_
  walk_at "rd"
  have fin : ∀ cell : Int, (∃ z : Int, ib z ≤ 1048576 ∧ z ≤ cell ∧ cell ≤ z + 100000) → ∀ p, L2.upd H sl (.lst ((ns.take 1).map V.int)) p = none →
      Q (.ref p) (L2.upd (L2.upd H sl (.lst ((ns.take 1).map V.int))) p (.lst [.int (max 0 (cell - 10 ^ (18 : Int).toNat)), .int ((cell * 19 + 7 * (k : Int)) % (10 ^ (39 : Int).toNat + 23)), .int 0])) :=
    fun cell hc p hp => q p _ _ (s1.free hp) (s1.trans (Same.new hp)) upd_same (feed_end hc)
  refine i_dec (fun hl => ?_) (fun hl => ?_)
  · rw [List.length_map] at hl
    have hk2 : k < ns.length := by omega
    walk_at "rd"
    refine i_ixL (s1.seq hS) (atI_nat (v := .int ns[k]) (by rw [List.getElem?_map, List.getElem?_eq_getElem hk2]; rfl)) ?_
    walk_at "rd"
    refine i_rI ⟨by decide, by decide, by decide⟩ ?_
    walk_at "rd"
    refine i_rI (.inr ⟨by decide, by decide⟩) ?_
    walk_at "rd"
    refine i_rI (.inl ⟨by decide, by decide⟩) ?_
    walk_at "rd"
    refine i_rI ⟨by decide, by decide, by decide⟩ ?_
    walk_at "rd"
    refine i_rI (by decide +kernel) ?_
    walk_at "rd"
    refine ⟨by show 3 ≤ sizeLine; decide, ?_⟩
    exact fin ns[k] ⟨ns[k], hb _ (List.getElem_mem hk2), by omega, by omega⟩
  · walk_at "rd"
    refine i_rI ⟨by decide, by decide, by decide⟩ ?_
    walk_at "rd"
    refine i_rI (.inr ⟨by decide, by decide⟩) ?_
    walk_at "rd"
    refine i_rI (.inl ⟨by decide, by decide⟩) ?_
    walk_at "rd"
    refine i_rI ⟨by decide, by decide, by decide⟩ ?_
    walk_at "rd"
    refine i_rI (by decide +kernel) ?_
    walk_at "rd"
    refine ⟨by show 3 ≤ sizeLine; decide, ?_⟩
    exact fin _ ⟨(ns.take 1).sum, sum1 hb, by omega, by omega⟩
/-! ### _law_draw -/
def spDraw : Sp := fun vs H Q _ => ∃ fd many n xs, vs = [.ref fd, .int many] ∧ H fd = some (.lst xs) ∧ FdL n xs ∧ 0 < many ∧ many ≤ 10 ^ 70 ∧ n < 1000000 ∧
  ∀ g ys, 0 ≤ g → g < many → FdL (n + 1) ys → Q (.int g) (L2.upd H fd (.lst ys))
abbrev s__law_draw : Stmt := (top 28)
theorem sc__law_draw : FnScope ["feed", "many", "rest", "got", "stir"] ["feed", "many"] (defScope s__law_draw) := ⟨rfl, rfl, rfl, by decide +kernel, rfl, by decide +kernel, by decide +kernel⟩
theorem b_draw (T : Txt K mg) : Body P w K mg base (0) ["feed", "many", "rest", "got", "stir"] "_law_draw" (defScope s__law_draw) (defBody s__law_draw) spDraw := by
  intro f cdv A outer s H vs Q E hr h
  obtain ⟨fd, many, n, xs, rfl, hf, ⟨a, b, c, rfl, ha, hab, hb, hb2, hc, hcn⟩, hm, hm2, hn, q⟩ := h
  have hu := hu_of hr
  have tk : Takes (cxOf (L2.CX P w) P w K mg base ["feed", "many", "rest", "got", "stir"] "_law_draw" (defScope s__law_draw) f cdv A outer s H E) (fun cls d _ H => E cls d H) := takes_of rfl rfl rfl rfl
  refine ⟨_, (pss_cons (ps_if (pt_cmpR op_gt (pe_ix ix_list (pv 0) pe_int (fun _ _ => rfl)) pe_int (nomark _)) (pss_cons (ps_set (i := 2) sc__law_draw.nd rfl (Or.inl rfl) (pe_op op_fdivW (pe_ix ix_list (pv 0) pe_int (fun _ _ => rfl)) (pv 1)))
    (pss_cons (ps_set (i := 3) sc__law_draw.nd rfl (Or.inl rfl) (pe_op op_sub (pe_ix ix_list (pv 0) pe_int (fun _ _ => rfl)) (pe_op op_mulX (pv 2) (pv 1))))
    (pss_cons (ps_asg (pv 2) (pg_sub (pv 0) pe_int set_list))
    (pss_one (ps_ret (pv 3)))))) pss_nil)
    (pss_cons (ps_asg (pe_op op_add (pe_ix ix_list (pv 0) pe_int (fun _ _ => rfl)) pe_int) (pg_sub (pv 0) pe_int set_list))
    (pss_cons (ps_set (i := 4) sc__law_draw.nd rfl (Or.inl rfl) (pe_op op_add (pe_ix ix_list (pv 0) pe_int (fun _ _ => rfl)) (pe_op op_mul pe_int (pe_ix ix_list (pv 0) pe_int (fun _ _ => rfl)))))
    (pss_cons (ps_set (i := 4) sc__law_draw.nd rfl (Or.inl rfl) (pe_op op_mod (pe_callTy call_int1K (by rfl) T.g_int (by decide +kernel) (pa_cons (pe_op op_add (pe_op op_mulX (pe_op op_mulX (pv 4) (pv 4)) (pv 4)) (pe_op op_mul pe_int (pe_ix ix_list (pv 0) pe_int (fun _ _ => rfl)))) pa_nil)) (pe_op op_add (pe_op op_pow pe_int pe_int) pe_int)))
    (pss_cons (ps_set (i := 4) sc__law_draw.nd rfl (Or.inl rfl) (pe_op op_mod (pe_callTy call_int1K (by rfl) T.g_int (by decide +kernel) (pa_cons (pe_op op_add (pe_op op_mulX (pv 4) (pv 4)) pe_int) pa_nil)) (pe_op op_add (pe_op op_pow pe_int pe_int) pe_int)))
    (pss_one (ps_ret (pe_op op_mod (pe_callTy call_int1K (by rfl) T.g_int (by decide +kernel) (pa_cons (pe_op op_fdivW (pv 4) (pe_op op_pow pe_int pe_int)) pa_nil)) (pv 1))))))))), ?_⟩
  refine i_start [some _, some _, none, none, none] (by rfl) ?_
  try dsimp only [cxOf]
  walk_at "rd"
  have mN : many.natAbs < 2 ^ 240 := Nat.lt_of_le_of_lt (show many.natAbs ≤ 10 ^ 70 by omega) (by decide +kernel)
  refine i_ixL (SqL.of hf) rfl ?_
  walk_at "rd"
  refine i_dec (fun h1 => ?_) (fun h1 => ?_)
  · walk_at "rd"
    refine i_ixL (SqL.of hf) rfl ?_
    walk_at "rd"
    refine i_rI (wide_div hm mN (by decide) (by decide)) ?_
    walk_at "rd"
    refine i_ixL (SqL.of hf) rfl ?_
    walk_at "rd"
    have d0 : 0 ≤ a / many := Int.ediv_nonneg ha (by omega)
    have d1 : a / many ≤ a := Int.ediv_le_self _ ha
    have db : ib (a / many) ≤ 1048576 := Nat.le_trans (ib_mono (by omega)) hab
    have mb := ib_le mN
    refine i_rI (mulx 1048576 240 db mb (by decide)) ?_
    walk_at "rd"
    refine i_setL hf rfl ?_
    walk_at "rd"
    have e : a - a / many * many = a % many := by rw [Int.emod_def, Int.mul_comm]
    rw [e]
    exact q _ _ (Int.emod_nonneg _ (by omega)) (Int.emod_lt_of_pos _ hm) ⟨a / many, b, c, rfl, d0, db, hb, hb2, hc, by omega⟩
  · walk_at "rd"
    refine i_ixL (SqL.of hf) rfl ?_
    walk_at "rd"
    refine i_setL hf rfl ?_
    walk_at "rd"
    refine i_ixL (SqL.of upd_same) rfl ?_
    walk_at "rd"
    refine i_ixL (SqL.of upd_same) rfl ?_
    walk_at "rd"
    refine i_rI (.inl ⟨by decide, by decide⟩) ?_
    walk_at "rd"
    generalize hst : b + 6700417 * (c + 1) = st
    have st1 : ib st ≤ 200 := ib_le (Nat.lt_of_le_of_lt (show st.natAbs ≤ 10 ^ 41 by omega) (by decide +kernel))
    have st2 : ib (st * st) ≤ 400 := by
      refine ib_le ?_
      have h2 : st.natAbs < 2 ^ 200 := Nat.lt_of_le_of_lt (show st.natAbs ≤ 10 ^ 41 by omega) (by decide +kernel)
      exact wide_lt (a := 200) (b := 200) h2 h2
    refine i_rI (mulx 200 200 st1 st1 (by decide)) ?_
    walk_at "rd"
    refine i_rI (mulx 400 200 st2 st1 (by decide)) ?_
    walk_at "rd"
    refine i_ixL (SqL.of upd_same) rfl ?_
    walk_at "rd"
    refine i_rI (.inl ⟨by decide, by decide⟩) ?_
    walk_at "rd"
    refine i_rI ⟨by decide, by decide, by decide⟩ ?_
    walk_at "rd"
    refine i_rI (by decide +kernel) ?_
    walk_at "rd"
    generalize hs2 : (st * st * st + 15485863 * (c + 1)) % (10 ^ (43 : Int).toNat + 57) = s2
    have s20 : 0 ≤ s2 := by rw [← hs2]; exact Int.emod_nonneg _ (by decide +kernel)
    have s21 : s2 < 10 ^ (43 : Int).toNat + 57 := by rw [← hs2]; exact Int.emod_lt_of_pos _ (by decide +kernel)
    rw [show (10 : Int) ^ (43 : Int).toNat + 57 = 10 ^ 43 + 57 by decide +kernel] at s21
    have s2b : ib s2 ≤ 200 := ib_le (Nat.lt_of_le_of_lt (show s2.natAbs ≤ 10 ^ 44 by omega) (by decide +kernel))
    refine i_rI (mulx 200 200 s2b s2b (by decide)) ?_
    walk_at "rd"
    refine i_rI ⟨by decide, by decide, by decide⟩ ?_
    walk_at "rd"
    refine i_rI (by decide +kernel) ?_
    walk_at "rd"
    refine i_rI ⟨by decide, by decide, by decide⟩ ?_
    walk_at "rd"
    refine i_rI (show CDivW _ (10 ^ (9 : Int).toNat) from ⟨by decide +kernel, by decide +kernel⟩) ?_
    walk_at "rd"
    refine i_rI hm ?_
    walk_at "rd"
    exact q _ _ (Int.emod_nonneg _ (by omega)) (Int.emod_lt_of_pos _ hm) ⟨a, b, c + 1, rfl, ha, hab, hb, hb2, by omega, by omega⟩
end
end K60

set_option maxHeartbeats 4000000
namespace K60
open PySem PySem.Spec PyProof.Rows L2 KB KM

section
variable {P : Program} {w : World} {K : PySem.W.Frag} {mg : Str → Option Value} {base : Heap}
theorem c_feed (T : Txt K mg) : Cal P w K mg base 1 "_law_feed" (spFeed K) := T.d__law_feed.cal sc__law_feed (fun vs H Q E h => by obtain ⟨_, _, _, rfl, _⟩ := h; rfl) (b_feed T)
theorem c_draw (T : Txt K mg) : Cal P w K mg base 1 "_law_draw" spDraw := T.d__law_draw.cal sc__law_draw (fun vs H Q E h => by obtain ⟨_, _, _, _, rfl, _⟩ := h; rfl) (b_draw T)
/-! ### _law_one -/
def spOne : Sp := fun vs H Q _ => ∃ fd th n xs ys, vs = [.ref fd, .ref th] ∧ H fd = some (.lst xs) ∧ FdL n xs ∧ n < 1000000 ∧ H th = some (.lst ys) ∧ th ≠ fd ∧ ys ≠ [] ∧ ys.length ≤ 100000 ∧
  ∀ v zs, v ∈ ys → FdL (n + 1) zs → Q v (L2.upd H fd (.lst zs))
abbrev s__law_one : Stmt := (top 29)
theorem sc__law_one : FnScope ["feed", "things"] ["feed", "things"] (defScope s__law_one) := ⟨rfl, rfl, rfl, by decide +kernel, rfl, by decide +kernel, by decide +kernel⟩
theorem b_one (T : Txt K mg) (C__law_draw : Cal P w K mg base 1 "_law_draw" spDraw) : Body P w K mg base (1) ["feed", "things"] "_law_one" (defScope s__law_one) (defBody s__law_one) spOne := by
  intro f cdv A outer s H vs Q E hr h
  obtain ⟨fd, th, n, xs, ys, rfl, hf, hF, hn, ht, ne, hy, hl, q⟩ := h
  have hu := hu_of hr
  have tk : Takes (cxOf (L2.CX P w) P w K mg base ["feed", "things"] "_law_one" (defScope s__law_one) f cdv A outer s H E) (fun cls d _ H => E cls d H) := takes_of rfl rfl rfl rfl
  refine ⟨_, (pss_one (ps_ret (pe_ix ix_list (pv 1) (pe_cal C__law_draw hr (by omega) tk (pa_cons (pv 0) (pa_cons (pe_callB call_lenK (by rfl) T.g_len (by decide +kernel) (pa_cons (pv 1) pa_nil)) pa_nil))) (fun _ _ => rfl)))), ?_⟩
  refine i_start [some _, some _] (by rfl) ?_
  try dsimp only [cxOf]
  have hp : 0 < ys.length := List.length_pos_iff.mpr hy
  walk_at "rd"
  refine i_lenL (SqL.of ht) ?_
  walk_at "rd"
  refine ⟨fd, _, n, xs, rfl, hf, hF, by omega, by omega, hn, fun g zs g0 g1 hz => ?_⟩
  walk_at "rd"
  have hg : g.toNat < ys.length := by omega
  have eg : g = ((g.toNat : Nat) : Int) := by omega
  rw [eg]
  refine i_ixL (SqL.of ((upd_ne ne).trans ht)) (atI_nat (List.getElem?_eq_getElem hg)) ?_
  walk_at "rd"
  exact q _ zs (List.getElem_mem hg) hz
theorem c_one (T : Txt K mg) : Cal P w K mg base 2 "_law_one" spOne := T.d__law_one.cal sc__law_one (fun vs H Q E h => by obtain ⟨_, _, _, _, _, rfl, _⟩ := h; rfl) (b_one T (c_draw T))
/-! ### _law_least -/
def spLeast : Sp := fun vs H Q _ => ∃ n : Nat, vs = [.int n] ∧ n < 2 ^ 60 ∧ ∀ H', Same H H' → Q (.int (L n : Nat)) H'
abbrev s__law_least : Stmt := (top 30)
theorem sc__law_least : FnScope ["height", "least", "more", "turn"] ["height"] (defScope s__law_least) := ⟨rfl, rfl, rfl, by decide +kernel, rfl, by decide +kernel, by decide +kernel⟩
theorem b_least (T : Txt K mg) : Body P w K mg base (0) ["height", "least", "more", "turn"] "_law_least" (defScope s__law_least) (defBody s__law_least) spLeast := by
  intro f cdv A outer s H vs Q E hr h
  obtain ⟨n, rfl, hn, q⟩ := h
  have hu := hu_of hr
  have tk : Takes (cxOf (L2.CX P w) P w K mg base ["height", "least", "more", "turn"] "_law_least" (defScope s__law_least) f cdv A outer s H E) (fun cls d _ H => E cls d H) := takes_of rfl rfl rfl rfl
  refine ⟨_, (pss_cons (ps_asg (pe_tup (pa_cons pe_int (pa_cons pe_int pa_nil))) (pg_tup (n := 2) (by rfl) (pgs_cons (pg_name (i := 1) sc__law_least.nd rfl (Or.inl rfl)) (pgs_cons (pg_name (i := 2) sc__law_least.nd rfl (Or.inl rfl)) pgs_nil))))
    (pss_cons (ps_for (passes_of rfl) rfl (pi_range1 rfl T.g_range (pa_cons (pv 0) pa_nil)) (pg_name (i := 3) sc__law_least.nd rfl (Or.inl rfl)) (pss_one (ps_par (i := 1) (j := 2) (by rfl) sc__law_least.nd rfl rfl (by decide) rfl rfl (pa_cons (pv 2) (pa_cons (pe_op op_add (pv 1) (pv 2)) pa_nil)) (by rfl))))
    (pss_one (ps_ret (pv 1))))), ?_⟩
  refine i_start [some _, none, none, none] (by rfl) ?_
  try dsimp only [cxOf]
  walk_at "rd"
  refine ⟨by show 2 ≤ sizeLine; decide, fun t ht => ?_⟩
  walk_at "rd"
  refine ⟨t, _, rfl, SqT.of upd_same, rfl, ?_⟩
  walk_at "rd"
  refine ⟨n, rfl, by omega, by omega, ?_⟩
  refine for_range (lo := 0) (n := ((n : Int)).toNat) (fun i s h => ∃ z, s = [some (.int n), some (.int (L i : Nat)), some (.int (L (i + 1) : Nat)), z] ∧ h = L2.upd H t (.tup [.int 1, .int 2])) ⟨none, rfl, rfl⟩ ?_ ?_
  · rintro i s h hi ⟨z, rfl, rfl⟩
    walk_at "rd"
    have e2 : ((L i : Nat) : Int) + ((L (i + 1) : Nat) : Int) = ((L (i + 2) : Nat) : Int) := by simp only [L]; omega
    rw [e2]
    exact ⟨_, rfl, rfl⟩
  · rintro s h ⟨z, rfl, rfl⟩
    rw [Int.toNat_natCast]
    walk_at "rd"
    exact q _ (Same.new ht)
theorem c_least (T : Txt K mg) : Cal P w K mg base 1 "_law_least" spLeast := T.d__law_least.cal sc__law_least (fun vs H Q E h => by obtain ⟨_, rfl, _⟩ := h; rfl) (b_least T)
/-! ### _law_tallest -/
def spLTallest : Sp := fun vs H Q _ => ∃ n : Nat, vs = [.int n] ∧ n ≤ 100000 ∧ ∀ (h : Nat) H', Same H H' → Tl n h → Q (.int h) H'
theorem L_big : ∀ n, n < L n := by
  intro n
  induction n with
  | zero => decide
  | succ n ih => have := L_lt n; omega
abbrev s__law_tallest : Stmt := (top 31)
theorem sc__law_tallest : FnScope ["width", "height"] ["width"] (defScope s__law_tallest) := ⟨rfl, rfl, rfl, by decide +kernel, rfl, by decide +kernel, by decide +kernel⟩
theorem b_ltallest (T : Txt K mg) (C__law_least : Cal P w K mg base 1 "_law_least" spLeast) : Body P w K mg base (1) ["width", "height"] "_law_tallest" (defScope s__law_tallest) (defBody s__law_tallest) spLTallest := by
  intro f cdv A outer s H vs Q E hr h
  obtain ⟨n, rfl, hn, q⟩ := h
  have hu := hu_of hr
  have tk : Takes (cxOf (L2.CX P w) P w K mg base ["width", "height"] "_law_tallest" (defScope s__law_tallest) f cdv A outer s H E) (fun cls d _ H => E cls d H) := takes_of rfl rfl rfl rfl
  refine ⟨_, (pss_cons (ps_set (i := 1) sc__law_tallest.nd rfl (Or.inl rfl) pe_int)
    (pss_cons (ps_while (passes_of rfl) (pt_cmpR op_le (pe_cal C__law_least hr (by omega) tk (pa_cons (pe_op op_add (pv 1) pe_int) pa_nil)) (pv 0) (nomark _)) (pss_one (ps_set (i := 1) sc__law_tallest.nd rfl (Or.inl rfl) (pe_op op_add (pv 1) pe_int))))
    (pss_one (ps_ret (pv 1))))), ?_⟩
  refine i_start [some _, none] (by rfl) ?_
  try dsimp only [cxOf]
  walk_at "rd"
  refine i_whileR (fun m s h => ∃ k : Nat, s = [some (.int n), some (.int k)] ∧ Same H h ∧ (k = 0 ∨ L k ≤ n) ∧ m = n + 1 - L (k + 1)) (n + 1 - L 1) ⟨0, rfl, Same.refl H, .inl rfl, rfl⟩ ?_
  rintro m s h ⟨k, rfl, s1, hk, rfl⟩
  walk_at "rd"
  have kb : k ≤ n := by have := L_big k; rcases hk with e | e <;> omega
  refine ⟨k + 1, by rw [Int.natCast_add]; rfl, by omega, fun H2 s2 => ?_⟩
  walk_at "rd"
  refine i_dec (fun c => ?_) (fun c => ?_)
  · refine i_more ?_
    walk_at "rd"
    have lt : L (k + 1) < L (k + 2) := L_lt (k + 1)
    refine ⟨n + 1 - L (k + 2), by omega, k + 1, ?_, s1.trans s2, .inr (by omega), rfl⟩
    rw [Int.natCast_add]
    rfl
  · walk_at "rd"
    exact q k H2 (s1.trans s2) ⟨hk, by omega⟩
theorem c_ltallest (T : Txt K mg) : Cal P w K mg base 2 "_law_tallest" spLTallest := T.d__law_tallest.cal sc__law_tallest (fun vs H Q E h => by obtain ⟨_, rfl, _⟩ := h; rfl) (b_ltallest T (c_least T))
/-! ### _law_is_integer -/
def spIsInteger : Sp := fun vs H Q _ => ∃ n m : Int, vs = [.int n, .int m] ∧ Q (.bl (decide (n = m))) H
abbrev s__law_is_integer : Stmt := (top 35)
theorem sc__law_is_integer : FnScope ["found", "due"] ["found", "due"] (defScope s__law_is_integer) := ⟨rfl, rfl, rfl, by decide +kernel, rfl, by decide +kernel, by decide +kernel⟩
theorem b_isinteger (T : Txt K mg) : Body P w K mg base (0) ["found", "due"] "_law_is_integer" (defScope s__law_is_integer) (defBody s__law_is_integer) spIsInteger := by
  intro f cdv A outer s H vs Q E hr h
  obtain ⟨n, m, rfl, q⟩ := h
  have hu := hu_of hr
  have tk : Takes (cxOf (L2.CX P w) P w K mg base ["found", "due"] "_law_is_integer" (defScope s__law_is_integer) f cdv A outer s H E) (fun cls d _ H => E cls d H) := takes_of rfl rfl rfl rfl
  refine ⟨_, (pss_one (ps_ret (pe_and (pe_callB call_isN1 (by rfl) T.g_isinstance (by decide +kernel) (pa_cons (pv 0) (pa_cons (pe_ty "int" T.g_int) pa_nil))) (pe_and (pe_not (pe_callB call_isN1 (by rfl) T.g_isinstance (by decide +kernel) (pa_cons (pv 0) (pa_cons (pe_ty "bool" T.g_bool) pa_nil)))) (pe_one (pe_cmpR op_eq (pv 0) (pv 1) (nomark _))))))), ?_⟩
  refine i_start [some _, some _] (by rfl) ?_
  try dsimp only [cxOf]
  walk_at "rd"
  refine i_inst (nn := "int") rfl (ty_int "int" (by decide)) ?_
  walk_at "rd"
  refine i_T ?_
  walk_at "rd"
  refine i_inst (nn := "int") rfl (ty_bool "int" (by decide)) ?_
  walk_at "rd"
  refine i_T ?_
  walk_at "rd"
  exact q
theorem c_isinteger (T : Txt K mg) : Cal P w K mg base 1 "_law_is_integer" spIsInteger := T.d__law_is_integer.cal sc__law_is_integer (fun vs H Q E h => by obtain ⟨_, _, rfl, _⟩ := h; rfl) (b_isinteger T)
/-! ### _law_refused -/
def spRefused : Sp := fun vs H Q _ => ∃ x n, vs = [x] ∧ Kn H x n ∧ (∀ i, x = .int i → ¬ (0 ≤ i ∧ i ≤ 20000)) ∧ Q (.bl true) H
abbrev s__law_refused : Stmt := (top 34)
theorem sc__law_refused : FnScope ["thing", "got"] ["thing"] (defScope s__law_refused) := ⟨rfl, rfl, rfl, by decide +kernel, rfl, by decide +kernel, by decide +kernel⟩
theorem b_refused (T : Txt K mg) (C_tallest : Cal P w K mg base 3 "tallest" (spTallest K)) : Body P w K mg base (3) ["thing", "got"] "_law_refused" (defScope s__law_refused) (defBody s__law_refused) spRefused := by
  intro f cdv A outer s H vs Q E hr h
  obtain ⟨x, n, rfl, hk, hx, q⟩ := h
  have hu := hu_of hr
  have tk : Takes (cxOf (L2.CX P w) P w K mg base ["thing", "got"] "_law_refused" (defScope s__law_refused) f cdv A outer s H E) (fun cls d _ H => E cls d H) := takes_of rfl rfl rfl rfl
  refine ⟨_, (pss_cons (ps_set (i := 1) sc__law_refused.nd rfl (Or.inl rfl) pe_bl)
    (pss_cons (ps_try_only rfl rfl ⟨rfl, by decide, .inl T.x_BadCount.at_⟩ tk (fun W pn xe tk _ => pss_one (ps_expr (pe_cal C_tallest hr (by omega) tk (pa_cons (pv 0) pa_nil)))) (fun a oe cls d pn _ _ => pss_one (ps_set (i := 1) sc__law_refused.nd rfl (Or.inl rfl) pe_bl)))
    (pss_one (ps_ret (pv 1))))), ?_⟩
  refine i_start [some _, none] (by rfl) ?_
  try dsimp only [cxOf]
  walk_at "rd"
  refine ⟨x, n, rfl, hk, fun i e h => absurd ⟨by omega, by omega⟩ (hx i e), fun _ => ?_⟩
  refine ⟨true, T.e_BadCount_BadCount, fun _ a ha => ?_, fun z => nomatch z⟩
  walk_at "rd"
  exact q
theorem c_refused (T : Txt K mg) : Cal P w K mg base 4 "_law_refused" spRefused := T.d__law_refused.cal sc__law_refused (fun vs H Q E h => by obtain ⟨_, _, rfl, _⟩ := h; rfl) (b_refused T (c_tallest T))
def spRefusedToo : Sp := fun vs H Q _ => ∃ x n, vs = [x] ∧ Kn H x n ∧ (∀ i, x = .int i → ¬ (1 ≤ i ∧ i ≤ 20000)) ∧ Q (.bl true) H
abbrev s__law_refused_too : Stmt := (top 38)
theorem sc__law_refused_too : FnScope ["thing", "got"] ["thing"] (defScope s__law_refused_too) := ⟨rfl, rfl, rfl, by decide +kernel, rfl, by decide +kernel, by decide +kernel⟩
theorem b_refused_too (T : Txt K mg) (C_even_shape : Cal P w K mg base 20 "even_shape" (spEvenShape K)) : Body P w K mg base (20) ["thing", "got"] "_law_refused_too" (defScope s__law_refused_too) (defBody s__law_refused_too) spRefusedToo := by
  intro f cdv A outer s H vs Q E hr h
  obtain ⟨x, n, rfl, hk, hx, q⟩ := h
  have hu := hu_of hr
  have tk : Takes (cxOf (L2.CX P w) P w K mg base ["thing", "got"] "_law_refused_too" (defScope s__law_refused_too) f cdv A outer s H E) (fun cls d _ H => E cls d H) := takes_of rfl rfl rfl rfl
  refine ⟨_, (pss_cons (ps_set (i := 1) sc__law_refused_too.nd rfl (Or.inl rfl) pe_bl)
    (pss_cons (ps_try_only rfl rfl ⟨rfl, by decide, .inl T.x_BadCount.at_⟩ tk (fun W pn xe tk _ => pss_one (ps_expr (pe_cal C_even_shape hr (by omega) tk (pa_cons (pv 0) pa_nil)))) (fun a oe cls d pn _ _ => pss_one (ps_set (i := 1) sc__law_refused_too.nd rfl (Or.inl rfl) pe_bl)))
    (pss_one (ps_ret (pv 1))))), ?_⟩
  refine i_start [some _, none] (by rfl) ?_
  try dsimp only [cxOf]
  walk_at "rd"
  refine ⟨x, n, rfl, hk, fun i e h1 h2 => absurd ⟨by omega, by omega⟩ (hx i e), fun _ => ?_⟩
  refine ⟨true, T.e_BadCount_BadCount, fun _ a ha => ?_, fun z => nomatch z⟩
  walk_at "rd"
  exact q
theorem c_refused_too (T : Txt K mg) : Cal P w K mg base 21 "_law_refused_too" spRefusedToo := T.d__law_refused_too.cal sc__law_refused_too (fun vs H Q E h => by obtain ⟨_, _, rfl, _⟩ := h; rfl) (b_refused_too T (c_even_shape T))
end
end K60

set_option maxHeartbeats 4000000
namespace K60
open PySem PySem.Spec PyProof.Rows L2 KB KM

/-- all but one object stays -/
def SameX (f : Addr) (H H' : Hp) : Prop := ∀ b o, b ≠ f → H b = some o → H' b = some o
theorem SameX.refl (f : Addr) (H : Hp) : SameX f H H := fun _ _ _ h => h
theorem SameX.trans {f : Addr} {H H1 H2 : Hp} (a : SameX f H H1) (b : SameX f H1 H2) : SameX f H H2 := fun c o n h => b c o n (a c o n h)
theorem SameX.of {f : Addr} {H H' : Hp} (a : Same H H') : SameX f H H' := fun c o _ h => a c o h
theorem SameX.upd {f : Addr} {H : Hp} {o : HO} : SameX f H (L2.upd H f o) := fun c u n h => (upd_ne n).trans h
theorem SameX.new {f p : Addr} {H H' : Hp} {o : HO} (a : SameX f H H') (hp : H' p = none) : SameX f H (L2.upd H' p o) := fun c u n h => by
  have e := a c u n h
  rw [upd_ne (ne_of_none e hp)]
  exact e
theorem SameX.tups {f : Addr} {H H' : Hp} {xs : List V} (a : SameX f H H') (h : H f = some (.lst xs)) : Tups H H' := fun b ys e => a b _ (ne_of e h (by intro z; cases z)) e
/-- the three ways down -/
def prs (h : Int) : List (Int × Int) := [(h - 1, h - 1), (h - 1, h - 2), (h - 2, h - 1)]
/-- a way as it lies in the list -/
def WayAt (w h : Nat) (H : Hp) (v : V) : Prop := ∃ (t : Addr) (l r : Nat) (lo hi : Int), v = .ref t ∧ H t = some (.tup [.int l, .int r, .int lo, .int hi]) ∧ l ≤ r + 1 ∧ r ≤ l + 1 ∧ h = 1 + max l r ∧ lo ≤ hi ∧ 0 ≤ lo ∧ hi ≤ w ∧
  ∀ first : Nat, lo ≤ first → (first : Int) ≤ hi → Fit first l ∧ first ≤ w ∧ Fit (w - first) r
theorem WayAt.mono {w h : Nat} {H H' : Hp} {v : V} (x : WayAt w h H v) (k : Tups H H') : WayAt w h H' v := by
  obtain ⟨t, l, r, lo, hi, e, ht, z⟩ := x
  exact ⟨t, l, r, lo, hi, e, k _ _ ht, z⟩
/-- a way is let -/
def Adm (w : Nat) (p : Int × Int) : Prop := 0 ≤ p.1 ∧ 0 ≤ p.2 ∧ max ((L p.1.toNat : Nat) : Int) ((w : Int) - 1 * 2 ^ p.2.toNat) ≤ min (1 * 2 ^ p.1.toNat) ((w : Int) - ((L p.2.toNat : Nat) : Int))
theorem pow_cast (n : Nat) : ((2 : Int) ^ n) = ((2 ^ n : Nat) : Int) := by rw [Int.natCast_pow]; rfl
theorem adm_there {w h : Nat} (f : Fit w (h + 1)) : ∃ j p, j < 2 ∧ (prs ((h + 1 : Nat) : Int))[j]? = some p ∧ Adm w p := by
  have L1 := L_le_pow h
  have P1 := L_pos h
  rcases way_there f with ⟨a, b, c⟩ | ⟨g, rfl, a, b⟩
  · refine ⟨0, _, by omega, rfl, ?_⟩
    have e : (((h + 1 : Nat) : Int) - 1).toNat = h := by omega
    refine ⟨by omega, by omega, ?_⟩
    show max ((L (((h + 1 : Nat) : Int) - 1).toNat : Nat) : Int) ((w : Int) - 1 * 2 ^ (((h + 1 : Nat) : Int) - 1).toNat) ≤ min (1 * 2 ^ (((h + 1 : Nat) : Int) - 1).toNat) ((w : Int) - ((L (((h + 1 : Nat) : Int) - 1).toNat : Nat) : Int))
    rw [e, pow_cast]
    omega
  · refine ⟨1, _, by omega, rfl, ?_⟩
    have e : (((g + 1 + 1 : Nat) : Int) - 1).toNat = g + 1 := by omega
    have e2 : (((g + 1 + 1 : Nat) : Int) - 2).toNat = g := by omega
    have L2 := L_le_pow g
    refine ⟨by show (0 : Int) ≤ ((g + 1 + 1 : Nat) : Int) - 1; omega, by show (0 : Int) ≤ ((g + 1 + 1 : Nat) : Int) - 2; omega, ?_⟩
    show max ((L (((g + 1 + 1 : Nat) : Int) - 1).toNat : Nat) : Int) ((w : Int) - 1 * 2 ^ (((g + 1 + 1 : Nat) : Int) - 2).toNat) ≤ min (1 * 2 ^ (((g + 1 + 1 : Nat) : Int) - 1).toNat) ((w : Int) - ((L (((g + 1 + 1 : Nat) : Int) - 2).toNat : Nat) : Int))
    rw [e, e2, pow_cast, pow_cast]
    omega
theorem way_of {w h : Nat} {j : Nat} {p : Int × Int} (hp : (prs (h : Int))[j]? = some p) (h0 : 0 ≤ p.1) (h1 : 0 ≤ p.2) {H : Hp} {t : Addr} {lo hi : Int} (elo : lo = max ((L p.1.toNat : Nat) : Int) ((w : Int) - 1 * 2 ^ p.2.toNat))
    (ehi : hi = min (1 * 2 ^ p.1.toNat) ((w : Int) - ((L p.2.toNat : Nat) : Int))) (le : lo ≤ hi) (ht : H t = some (.tup [.int p.1, .int p.2, .int lo, .int hi])) : WayAt w h H (.ref t) := by
  have k : p.1.toNat ≤ p.2.toNat + 1 ∧ p.2.toNat ≤ p.1.toNat + 1 ∧ h = 1 + max p.1.toNat p.2.toNat := by
    match j, hp with
    | 0, hp => cases hp; simp only at h0 h1 ⊢; omega
    | 1, hp => cases hp; simp only at h0 h1 ⊢; omega
    | 2, hp => cases hp; simp only at h0 h1 ⊢; omega
    | j + 3, hp => simp [prs] at hp
  refine ⟨t, p.1.toNat, p.2.toNat, lo, hi, rfl, by rw [Int.toNat_of_nonneg h0, Int.toNat_of_nonneg h1]; exact ht, k.1, k.2.1, k.2.2, le, ?_, ?_, fun first a b => ?_⟩
  · have := L_pos p.1.toNat; omega
  · omega
  · rw [pow_cast] at elo ehi
    exact ⟨⟨by omega, by omega⟩, by omega, ⟨by omega, by omega⟩⟩
section
variable {P : Program} {w : World} {K : PySem.W.Frag} {mg : Str → Option Value} {base : Heap}
/-! ### _law_balanced -/
def spBalanced (n : Nat) : Sp := fun vs H Q _ => ∃ (fd : Addr) (wd h m : Nat) (xs : List V), vs = [.ref fd, .int wd, .int h] ∧ H fd = some (.lst xs) ∧ FdL m xs ∧ Fit wd h ∧ h ≤ n ∧ h ≤ 40 ∧ wd ≤ 100000 ∧ m + 2 * wd ≤ 999000 ∧
  ∀ v s zs H', SameX fd H H' → H' fd = some (.lst zs) → FdL (m + 2 * wd - 2) zs → Shp H' v s → bal s → wid s = wd → hei s = h → Q v H'
abbrev s__law_balanced : Stmt := (top 32)
theorem sc__law_balanced : FnScope ["feed", "width", "height", "ways", "left", "right", "low", "high", "first"] ["feed", "width", "height"] (defScope s__law_balanced) := ⟨rfl, rfl, rfl, by decide +kernel, rfl, by decide +kernel, by decide +kernel⟩
theorem b_balanced (T : Txt K mg) (C__law_least : Cal P w K mg base 1 "_law_least" spLeast) (C__law_one : Cal P w K mg base 2 "_law_one" spOne) (C__law_draw : Cal P w K mg base 1 "_law_draw" spDraw) (n : Nat)
    (C__law_balanced : Cal P w K mg base (n + 2) "_law_balanced" (spPre spBalanced n)) : Body P w K mg base (n + 2) ["feed", "width", "height", "ways", "left", "right", "low", "high", "first"] "_law_balanced" (defScope s__law_balanced) (defBody s__law_balanced) (spBalanced n) := by
  intro f cdv A outer s H vs Q E hr h
  obtain ⟨fd, wd, h, m, xs, rfl, hf, hF, fit, hn, h40, hw, hm, q⟩ := h
  have hu := hu_of hr
  have tk : Takes (cxOf (L2.CX P w) P w K mg base ["feed", "width", "height", "ways", "left", "right", "low", "high", "first"] "_law_balanced" (defScope s__law_balanced) f cdv A outer s H E) (fun cls d _ H => E cls d H) := takes_of rfl rfl rfl rfl
  refine ⟨_, (pss_cons (ps_if (pt_cmpR op_eq (pv 2) pe_int (nomark _)) (pss_one (ps_ret pe_non)) pss_nil)
    (pss_cons (ps_set (i := 3) sc__law_balanced.nd rfl (Or.inl rfl) (pe_lst pa_nil))
    (pss_cons (ps_for (passes_of rfl) rfl (pi_list (pe_lst (pa_cons (pe_tup (pa_cons (pe_op op_sub (pv 2) pe_int) (pa_cons (pe_op op_sub (pv 2) pe_int) pa_nil))) (pa_cons (pe_tup (pa_cons (pe_op op_sub (pv 2) pe_int) (pa_cons (pe_op op_sub (pv 2) pe_int) pa_nil))) (pa_cons (pe_tup (pa_cons (pe_op op_sub (pv 2) pe_int) (pa_cons (pe_op op_sub (pv 2) pe_int) pa_nil))) pa_nil))))) (pg_tup (n := 2) (by rfl) (pgs_cons (pg_name (i := 4) sc__law_balanced.nd rfl (Or.inl rfl)) (pgs_cons (pg_name (i := 5) sc__law_balanced.nd rfl (Or.inl rfl)) pgs_nil))) (pss_one (ps_if (pt_cmpR op_ge (pe_callB (call_min2K rfl) (by rfl) T.g_min (by decide +kernel) (pa_cons (pv 4) (pa_cons (pv 5) pa_nil))) pe_int (nomark _)) (pss_cons (ps_set (i := 6) sc__law_balanced.nd rfl (Or.inl rfl) (pe_callB (call_max2K rfl) (by rfl) T.g_max (by decide +kernel) (pa_cons (pe_cal C__law_least hr (by omega) tk (pa_cons (pv 4) pa_nil)) (pa_cons (pe_op op_sub (pv 1) (pe_op op_shl pe_int (pv 5))) pa_nil))))
    (pss_cons (ps_set (i := 7) sc__law_balanced.nd rfl (Or.inl rfl) (pe_callB (call_min2K rfl) (by rfl) T.g_min (by decide +kernel) (pa_cons (pe_op op_shl pe_int (pv 4)) (pa_cons (pe_op op_sub (pv 1) (pe_cal C__law_least hr (by omega) tk (pa_cons (pv 5) pa_nil))) pa_nil))))
    (pss_one (ps_if (pt_cmpR op_le (pv 6) (pv 7) (nomark _)) (pss_one (ps_expr (pe_bm PySem.F.plainAttrs_list PySem.F.slot_list_append PySem.F.type_list_append mt_append (pv 3) (pa_cons (pe_tup (pa_cons (pv 4) (pa_cons (pv 5) (pa_cons (pv 6) (pa_cons (pv 7) pa_nil))))) pa_nil)))) pss_nil)))) pss_nil)))
    (pss_cons (ps_asg (pe_cal C__law_one hr (by omega) tk (pa_cons (pv 0) (pa_cons (pv 3) pa_nil))) (pg_tup (n := 4) (by rfl) (pgs_cons (pg_name (i := 4) sc__law_balanced.nd rfl (Or.inl rfl)) (pgs_cons (pg_name (i := 5) sc__law_balanced.nd rfl (Or.inl rfl)) (pgs_cons (pg_name (i := 6) sc__law_balanced.nd rfl (Or.inl rfl)) (pgs_cons (pg_name (i := 7) sc__law_balanced.nd rfl (Or.inl rfl)) pgs_nil))))))
    (pss_cons (ps_set (i := 8) sc__law_balanced.nd rfl (Or.inl rfl) (pe_op op_add (pv 6) (pe_cal C__law_draw hr (by omega) tk (pa_cons (pv 0) (pa_cons (pe_op op_add (pe_op op_sub (pv 7) (pv 6)) pe_int) pa_nil)))))
    (pss_one (ps_ret (pe_tup (pa_cons (pe_cal C__law_balanced hr (by omega) tk (pa_cons (pv 0) (pa_cons (pv 8) (pa_cons (pv 4) pa_nil)))) (pa_cons (pe_cal C__law_balanced hr (by omega) tk (pa_cons (pv 0) (pa_cons (pe_op op_sub (pv 1) (pv 8)) (pa_cons (pv 5) pa_nil)))) pa_nil)))))))))), ?_⟩
  refine i_start [some _, some _, some _, none, none, none, none, none, none] (by rfl) ?_
  try dsimp only [cxOf]
  walk_at "rd"
  refine i_dec (fun h0 => ?_) (fun h0 => ?_)
  · walk_at "rd"
    have e : h = 0 := by omega
    subst e
    have e1 : wd = 1 := by have := fit.1; have := fit.2; simp only [L] at *; omega
    exact q .non .one xs H (SameX.refl _ _) hf (hF.mono (by omega)) .one trivial e1.symm rfl
  · obtain ⟨g, rfl⟩ : ∃ g, h = g + 1 := ⟨h - 1, by omega⟩
    walk_at "rd"
    refine ⟨Nat.zero_le _, fun wl hwl => ?_⟩
    generalize eH1 : L2.upd H wl _ = H1
    obtain ⟨s1, e1⟩ := laid eH1 hwl
    walk_at "rd"
    refine ⟨by show 2 ≤ sizeLine; decide, fun t1 ht1 => ?_⟩
    generalize eH2 : L2.upd H1 t1 _ = H2
    obtain ⟨s2, e2⟩ := laid eH2 ht1
    walk_at "rd"
    refine ⟨by show 2 ≤ sizeLine; decide, fun t2 ht2 => ?_⟩
    generalize eH3 : L2.upd H2 t2 _ = H3
    obtain ⟨s3, e3⟩ := laid eH3 ht2
    walk_at "rd"
    refine ⟨by show 2 ≤ sizeLine; decide, fun t3 ht3 => ?_⟩
    generalize eH4 : L2.upd H3 t3 _ = H4
    obtain ⟨s4, e4⟩ := laid eH4 ht3
    walk_at "rd"
    refine ⟨by show 3 ≤ sizeLine; decide, fun l0 hl0 => ?_⟩
    generalize eH5 : L2.upd H4 l0 _ = H5
    obtain ⟨s5, e5⟩ := laid eH5 hl0
    have S5 : Same H H5 := (((s1.trans s2).trans s3).trans s4).trans s5
    have n4 : wl ≠ l0 := ne_of_none (((s2.trans s3).trans s4) _ _ e1) hl0
    have ew5 : H5 wl = some (.lst []) := (((s2.trans s3).trans s4).trans s5) _ _ e1
    have nfd : wl ≠ fd := fun z => by rw [z, hf] at hwl; cases hwl
    have tt : ∀ (i : Nat) (x : V), ([.ref t1, .ref t2, .ref t3] : List V)[i]? = some x → ∃ (t : Addr) (p : Int × Int), x = V.ref t ∧ (prs ((g + 1 : Nat) : Int))[i]? = some p ∧ H5 t = some (.tup [.int p.1, .int p.2]) := by
      intro i x hi
      match i, hi with
      | 0, hi => cases hi; exact ⟨t1, _, rfl, rfl, (((s3.trans s4).trans s5) _ _ e2)⟩
      | 1, hi => cases hi; exact ⟨t2, _, rfl, rfl, ((s4.trans s5) _ _ e3)⟩
      | 2, hi => cases hi; exact ⟨t3, _, rfl, rfl, s5 _ _ e4⟩
      | i + 3, hi => simp at hi
    have pb : ∀ {i : Nat} {p : Int × Int}, (prs ((g + 1 : Nat) : Int))[i]? = some p → p.1 ≤ 40 ∧ p.2 ≤ 40 := by
      intro i p hi
      match i, hi with
      | 0, hi => cases hi; constructor <;> (show _ ≤ _; omega)
      | 1, hi => cases hi; constructor <;> (show _ ≤ _; omega)
      | 2, hi => cases hi; constructor <;> (show _ ≤ _; omega)
      | i + 3, hi => simp [prs] at hi
    walk_at "rd"
    refine ⟨l0, rfl, ⟨_, SqL.of e5⟩, for_list (xs := [.ref t1, .ref t2, .ref t3]) (fun i s h => ∃ ws a4 a5 a6 a7, s = [some (.ref fd), some (.int wd), some (.int ((g + 1 : Nat) : Int)), some (.ref wl), a4, a5, a6, a7, none] ∧
      SameX wl H5 h ∧ h wl = some (.lst ws) ∧ (∀ v ∈ ws, WayAt wd (g + 1) h v) ∧ ws.length ≤ i ∧ (∀ j p, j < i → (prs ((g + 1 : Nat) : Int))[j]? = some p → Adm wd p → ws ≠ []))
      ⟨[], none, none, none, none, rfl, SameX.refl _ _, ew5, fun v z => by simp at z, Nat.le_refl _, fun j p z => by omega⟩ ?_ ?_ ?_⟩
    · rintro i s h _ ⟨ws, a4, a5, a6, a7, rfl, sx, ew, hw', hlen, hne⟩
      exact SqL.of (sx _ _ n4.symm e5)
    · rintro i x s h hi ⟨ws, a4, a5, a6, a7, rfl, sx, ew, hw', hlen, hne⟩
      obtain ⟨t, p, rfl, hp, ht⟩ := tt i x hi
      obtain ⟨b1, b2⟩ := pb hp
      have nt : t ≠ wl := ne_of ht ew5 (by intro z; cases z)
      have hi3 : i < 3 := by
        have := (List.getElem?_eq_some_iff.mp hi).1
        exact this
      walk_at "rd"
      refine ⟨t, _, rfl, SqT.of (sx _ _ nt ht), rfl, ?_⟩
      walk_at "rd"
      refine i_dec (fun hp0 => ?_) (fun hp0 => ?_)
      · have p0 : 0 ≤ p.1 := by omega
        have p1 : 0 ≤ p.2 := by omega
        walk_at "rd"
        refine ⟨p.1.toNat, by rw [Int.toNat_of_nonneg p0], by omega, fun H6 s6 => ?_⟩
        walk_at "rd"
        refine i_rI ⟨p1, by omega, by decide⟩ ?_
        walk_at "rd"
        refine i_rI ⟨p0, by omega, by decide⟩ ?_
        walk_at "rd"
        refine ⟨p.2.toNat, by rw [Int.toNat_of_nonneg p1], by omega, fun H7 s7 => ?_⟩
        walk_at "rd"
        have ew7 : H7 wl = some (.lst ws) := s7 _ _ (s6 _ _ ew)
        have sx7 : SameX wl H5 H7 := sx.trans (SameX.of (s6.trans s7))
        have hw7 : ∀ v ∈ ws, WayAt wd (g + 1) H7 v := fun v hv => (hw' v hv).mono (Same.tups (s6.trans s7))
        refine i_dec (fun hle => ?_) (fun hle => ?_)
        · walk_at "rd"
          refine i_tyL (SqL.of ew7) ?_
          walk_at "rd"
          refine ⟨by show 4 ≤ sizeLine; decide, fun t' ht' => ?_⟩
          generalize eH8 : L2.upd H7 t' _ = H8
          obtain ⟨s8, e8⟩ := laid eH8 ht'
          walk_at "rd"
          have l3 : ws.length < sizeLine := Nat.lt_of_le_of_lt (show ws.length ≤ 3 by omega) (by decide)
          refine i_app (s8 _ _ ew7) l3 ?_
          walk_at "rd"
          have nt' : t' ≠ wl := fun z => by rw [z, ew7] at ht'; cases ht'
          refine ⟨ws ++ [.ref t'], _, _, _, _, rfl, (sx7.trans (SameX.of s8)).trans SameX.upd, upd_same, fun v hv => ?_, by rw [List.length_append, List.length_singleton]; omega, fun _ _ _ _ _ z => by simp at z⟩
          have tu : Tups H8 (L2.upd H8 wl (.lst (ws ++ [.ref t']))) := SameX.tups (f := wl) SameX.upd (s8 _ _ ew7)
          rcases List.mem_append.mp hv with hv | hv
          · exact ((hw7 v hv).mono (Same.tups s8)).mono tu
          · rw [List.mem_singleton] at hv
            subst hv
            exact (way_of hp p0 p1 rfl rfl hle e8).mono tu
        · walk_at "rd"
          refine ⟨ws, _, _, _, _, rfl, sx7, ew7, hw7, by omega, fun j p' hj hp' ad => ?_⟩
          by_cases c : j = i
          · subst c
            rw [hp] at hp'
            cases hp'
            exact absurd ad.2.2 hle
          · exact hne j p' (by omega) hp' ad
      · walk_at "rd"
        refine ⟨ws, _, _, _, _, rfl, sx, ew, hw', by omega, fun j p' hj hp' ad => ?_⟩
        by_cases c : j = i
        · subst c
          rw [hp] at hp'
          cases hp'
          obtain ⟨ad1, ad2, _⟩ := ad
          omega
        · exact hne j p' (by omega) hp' ad
    · rintro s h ⟨ws, a4, a5, a6, a7, rfl, sx, ew, hw', hlen, hne⟩
      obtain ⟨j, p, hj, hp, ad⟩ := adm_there fit
      have wne : ws ≠ [] := hne j p (by show j < 3; omega) hp ad
      have hl3 : ws.length ≤ 3 := hlen
      have hf5 : H5 fd = some (.lst xs) := S5 _ _ hf
      have hfh : h fd = some (.lst xs) := sx _ _ nfd.symm hf5
      walk_at "rd"
      refine ⟨fd, wl, m, xs, ws, rfl, hfh, hF, by omega, ew, nfd, wne, by omega, fun v zs hv hz => ?_⟩
      have tu : Tups h (L2.upd h fd (.lst zs)) := SameX.tups (f := fd) SameX.upd hfh
      obtain ⟨t, l, r, lo, hi, rfl, ht, k1, k2, k3, k4, k5, k6, k7⟩ := (hw' v hv).mono tu
      walk_at "rd"
      refine ⟨t, _, rfl, SqT.of ht, rfl, ?_⟩
      walk_at "rd"
      refine ⟨fd, _, m + 1, zs, rfl, upd_same, hz, by omega, by omega, by omega, fun gt ys g0 g1 hy => ?_⟩
      rw [upd_upd]
      walk_at "rd"
      have sx1 : SameX fd H (L2.upd h fd (.lst ys)) := fun b o nb e => by
        rw [upd_ne nb]
        exact sx _ _ (fun z => by rw [z] at e; rw [e] at hwl; cases hwl) (S5 _ _ e)
      obtain ⟨first, ef⟩ : ∃ first : Nat, lo + gt = (first : Int) := ⟨(lo + gt).toNat, by omega⟩
      obtain ⟨f1, f2, f3⟩ := k7 first (by omega) (by omega)
      have w1 : 1 ≤ first := by have := f1.1; have := L_pos l; omega
      have w2 : 1 ≤ wd - first := by have := f3.1; have := L_pos r; omega
      obtain ⟨n', rfl⟩ : ∃ n', n = n' + 1 := ⟨n - 1, by omega⟩
      rw [ef]
      refine ⟨fd, first, l, m + 2, ys, rfl, upd_same, hy, f1, by omega, by omega, by omega, by omega, fun v1 sh1 zs1 H1' sx1' ef1 hz1 sp1 b1 wd1 he1 => ?_⟩
      walk_at "rd"
      have e2 : ((wd : Nat) : Int) - ((first : Nat) : Int) = ((wd - first : Nat) : Int) := by omega
      rw [e2]
      refine ⟨fd, wd - first, r, _, zs1, rfl, ef1, hz1, f3, by omega, by omega, by omega, by omega, fun v2 sh2 zs2 H2' sx2' ef2 hz2 sp2 b2 wd2 he2 => ?_⟩
      walk_at "rd"
      refine ⟨by show 2 ≤ sizeLine; decide, fun tp htp => ?_⟩
      generalize eH9 : L2.upd H2' tp _ = H9
      obtain ⟨s9, e9⟩ := laid eH9 htp
      walk_at "rd"
      have tu1 : Tups H1' H9 := fun a ys e => s9 _ _ (SameX.tups sx2' ef1 a ys e)
      refine q (.ref tp) (.two sh1 sh2) zs2 H9 (((sx1.trans sx1').trans sx2').trans (SameX.of s9)) (s9 _ _ ef2) (hz2.mono (by omega)) (.two e9 (sp1.mono tu1) (sp2.mono (Same.tups s9))) ⟨b1, b2, by omega, by omega⟩ ?_ ?_
      · simp only [wid]; omega
      · simp only [hei]; omega
theorem c_balanced (T : Txt K mg) (n : Nat) : Cal P w K mg base (n + 2 + 1) "_law_balanced" (spBalanced n) := T.d__law_balanced.rec_ sc__law_balanced 2 (fun n vs H Q E h => by obtain ⟨_, _, _, _, _, rfl, _⟩ := h; rfl) (b_balanced T (c_least T) (c_one T) (c_draw T)) n
end
end K60

set_option maxHeartbeats 4000000
namespace K60
open PySem PySem.Spec PyProof.Rows L2 KB KM

section
variable {P : Program} {w : World} {K : PySem.W.Frag} {mg : Str → Option Value} {base : Heap}
/-! ### _law_width -/
def spWidth : Sp := fun vs H Q _ => ∃ (fd : Addr) (n : Nat) (xs : List V), vs = [.ref fd] ∧ H fd = some (.lst xs) ∧ FdL n xs ∧ n ≤ 999000 ∧
  ∀ (wn : Nat) zs H', wn ≤ 20000 → SameX fd H H' → H' fd = some (.lst zs) → FdL (n + 3) zs → Q (.int wn) H'
theorem L_20 : L 20 = 17711 := by decide +kernel
abbrev s__law_width : Stmt := (top 33)
theorem sc__law_width : FnScope ["feed", "way"] ["feed"] (defScope s__law_width) := ⟨rfl, rfl, rfl, by decide +kernel, rfl, by decide +kernel, by decide +kernel⟩
theorem b_width (T : Txt K mg) (C__law_least : Cal P w K mg base 1 "_law_least" spLeast) (C__law_one : Cal P w K mg base 2 "_law_one" spOne) (C__law_draw : Cal P w K mg base 1 "_law_draw" spDraw) : Body P w K mg base (2) ["feed", "way"] "_law_width" (defScope s__law_width) (defBody s__law_width) spWidth := by
  intro f cdv A outer s H vs Q E hr h
  obtain ⟨fd, n, xs, rfl, hf, hF, hn, q⟩ := h
  have hu := hu_of hr
  have tk : Takes (cxOf (L2.CX P w) P w K mg base ["feed", "way"] "_law_width" (defScope s__law_width) f cdv A outer s H E) (fun cls d _ H => E cls d H) := takes_of rfl rfl rfl rfl
  refine ⟨_, (pss_cons (ps_set (i := 1) sc__law_width.nd rfl (Or.inl rfl) (pe_cal C__law_draw hr (by omega) tk (pa_cons (pv 0) (pa_cons pe_int pa_nil))))
    (pss_cons (ps_if (pt_cmpR op_eq (pv 1) pe_int (nomark _)) (pss_one (ps_ret (pe_cal C__law_one hr (by omega) tk (pa_cons (pv 0) (pa_cons (pe_lst (pa_cons pe_int (pa_cons pe_int (pa_cons pe_int (pa_cons pe_int (pa_cons pe_int (pa_cons pe_int (pa_cons pe_int pa_nil)))))))) pa_nil))))) pss_nil)
    (pss_cons (ps_if (pt_cmpR op_eq (pv 1) pe_int (nomark _)) (pss_one (ps_ret (pe_cal C__law_draw hr (by omega) tk (pa_cons (pv 0) (pa_cons pe_int pa_nil))))) pss_nil)
    (pss_one (ps_ret (pe_op op_sub (pe_op op_add (pe_cal C__law_least hr (by omega) tk (pa_cons (pe_cal C__law_draw hr (by omega) tk (pa_cons (pv 0) (pa_cons pe_int pa_nil))) pa_nil)) (pe_cal C__law_draw hr (by omega) tk (pa_cons (pv 0) (pa_cons pe_int pa_nil)))) pe_int)))))), ?_⟩
  refine i_start [some _, none] (by rfl) ?_
  try dsimp only [cxOf]
  walk_at "rd"
  refine ⟨fd, 4, n, xs, rfl, hf, hF, by decide, by decide, by omega, fun g ys g0 g1 hy => ?_⟩
  walk_at "rd"
  refine i_dec (fun c => ?_) (fun c => ?_)
  · walk_at "rd"
    refine ⟨by show 7 ≤ sizeLine; decide, fun l hl => ?_⟩
    generalize eH1 : L2.upd (L2.upd H fd (.lst ys)) l _ = H1
    obtain ⟨s1, e1⟩ := laid eH1 hl
    walk_at "rd"
    have nl : l ≠ fd := fun z => by rw [z, upd_same] at hl; cases hl
    refine ⟨fd, l, n + 1, ys, _, rfl, s1 _ _ upd_same, hy, by omega, e1, nl, by simp, by show 7 ≤ 100000; decide, fun v zs hv hz => ?_⟩
    walk_at "rd"
    obtain ⟨k, rfl, hk⟩ : ∃ k : Nat, v = .int k ∧ k ≤ 20000 := by
      simp only [List.mem_cons, List.not_mem_nil, or_false] at hv
      rcases hv with rfl | rfl | rfl | rfl | rfl | rfl | rfl
      · exact ⟨0, rfl, by omega⟩
      · exact ⟨1, rfl, by omega⟩
      · exact ⟨2, rfl, by omega⟩
      · exact ⟨3, rfl, by omega⟩
      · exact ⟨4, rfl, by omega⟩
      · exact ⟨19999, rfl, by omega⟩
      · exact ⟨20000, rfl, by omega⟩
    exact q k zs _ hk ((SameX.upd.trans (SameX.of s1)).trans SameX.upd) upd_same (hz.mono (by omega))
  · walk_at "rd"
    refine i_dec (fun c2 => ?_) (fun c2 => ?_)
    · walk_at "rd"
      refine ⟨fd, 20001, n + 1, ys, rfl, upd_same, hy, by decide, by decide, by omega, fun g2 zs h0 h1 hz => ?_⟩
      walk_at "rd"
      obtain ⟨k, rfl⟩ : ∃ k : Nat, g2 = k := ⟨g2.toNat, by omega⟩
      exact q k zs _ (by omega) (SameX.upd.trans SameX.upd) upd_same (hz.mono (by omega))
    · walk_at "rd"
      refine ⟨fd, 21, n + 1, ys, rfl, upd_same, hy, by decide, by decide, by omega, fun g2 zs h0 h1 hz => ?_⟩
      walk_at "rd"
      obtain ⟨k, rfl⟩ : ∃ k : Nat, g2 = k := ⟨g2.toNat, by omega⟩
      refine ⟨k, rfl, by omega, fun H2 s2 => ?_⟩
      walk_at "rd"
      refine ⟨fd, 3, n + 2, zs, rfl, s2 _ _ upd_same, hz, by decide, by decide, by omega, fun g3 us h2 h3 hu3 => ?_⟩
      walk_at "rd"
      have lp := L_pos k
      have lm := L_mono (show k ≤ 20 by omega)
      rw [L_20] at lm
      obtain ⟨r, er⟩ : ∃ r : Nat, ((L k : Nat) : Int) + g3 - 1 = r := ⟨(((L k : Nat) : Int) + g3 - 1).toNat, by omega⟩
      rw [er]
      exact q r us _ (by omega) (((SameX.upd.trans SameX.upd).trans (SameX.of s2)).trans SameX.upd) upd_same hu3
theorem c_width (T : Txt K mg) : Cal P w K mg base 3 "_law_width" spWidth := T.d__law_width.cal sc__law_width (fun vs H Q E h => by obtain ⟨_, _, _, rfl, _⟩ := h; rfl) (b_width T (c_least T) (c_one T) (c_draw T))
/-! ### _law_even -/
def KnOk (H : Hp) (kvs : List (Key × V)) : Prop := (∃ v, valV kvs (.inl 1) = some v) ∧ ∀ k v, valV kvs (.inl k) = some v → ∃ n : Nat, k = n ∧ 1 ≤ n ∧ Shp H v (evS n)
theorem KnOk.mono {H H' : Hp} {kvs : List (Key × V)} (h : KnOk H kvs) (t : Tups H H') : KnOk H' kvs := ⟨h.1, fun k v e => by
  obtain ⟨n, a, b, c⟩ := h.2 k v e
  exact ⟨n, a, b, c.mono t⟩⟩
theorem KnOk.put {H : Hp} {kvs : List (Key × V)} {n : Nat} {v : V} (h : KnOk H kvs) (hn : 1 ≤ n) (hv : Shp H v (evS n)) : KnOk H (putK kvs (.inl (n : Int)) v) := by
  refine ⟨?_, fun k u e => ?_⟩
  · obtain ⟨u, hu⟩ := h.1
    rw [valV_put]
    split
    · exact ⟨_, rfl⟩
    · exact ⟨u, hu⟩
  · rw [valV_put] at e
    split at e
    · rename_i c
      cases e
      exact ⟨n, Sum.inl.inj c, hn, hv⟩
    · exact h.2 k u e
theorem SameX.tupsD {f : Addr} {H H' : Hp} {xs : List (Key × V)} (a : SameX f H H') (h : H f = some (.dK xs)) : Tups H H' := fun b ys e => a b _ (ne_of e h (by intro z; cases z)) e
def spEven (n : Nat) : Sp := fun vs H Q _ => ∃ (wd : Nat) (d : Addr) (kvs : List (Key × V)), vs = [.int wd, .ref d] ∧ 1 ≤ wd ∧ wd ≤ 100000 ∧ hei (evS wd) ≤ n ∧ H d = some (.dK kvs) ∧ KnOk H kvs ∧ kvs.length + 2 ^ (n + 1) ≤ 10000000 ∧
  ∀ v H' kvs', SameX d H H' → H' d = some (.dK kvs') → KnOk H' kvs' → kvs'.length + 1 ≤ kvs.length + 2 ^ (n + 1) → Shp H' v (evS wd) → Q v H'
abbrev s__law_even : Stmt := (top 37)
theorem sc__law_even : FnScope ["width", "known"] ["width", "known"] (defScope s__law_even) := ⟨rfl, rfl, rfl, by decide +kernel, rfl, by decide +kernel, by decide +kernel⟩
theorem b_even (T : Txt K mg) (n : Nat) (C__law_even : Cal P w K mg base (n + 0) "_law_even" (spPre spEven n)) : Body P w K mg base (n + 0) ["width", "known"] "_law_even" (defScope s__law_even) (defBody s__law_even) (spEven n) := by
  intro f cdv A outer s H vs Q E hr h
  obtain ⟨wd, d, kvs, rfl, h1, h2, hn, hd, ok, hl, q⟩ := h
  have hu := hu_of hr
  have tk : Takes (cxOf (L2.CX P w) P w K mg base ["width", "known"] "_law_even" (defScope s__law_even) f cdv A outer s H E) (fun cls d _ H => E cls d H) := takes_of rfl rfl rfl rfl
  refine ⟨_, (pss_cons (ps_if (pt_cmp (pc_dnotin hu (pv 0) (pv 1))) (pss_one (ps_dput hu (pv 1) (pv 0) (pe_tup (pa_cons (pe_cal C__law_even hr (by omega) tk (pa_cons (pe_op op_fdiv (pe_op op_add (pv 0) pe_int) pe_int) (pa_cons (pv 1) pa_nil))) (pa_cons (pe_cal C__law_even hr (by omega) tk (pa_cons (pe_op op_fdiv (pv 0) pe_int) (pa_cons (pv 1) pa_nil))) pa_nil))) rfl)) pss_nil)
    (pss_one (ps_ret (pe_dget hu (pv 1) (pv 0) (fun _ _ => rfl))))), ?_⟩
  refine i_start [some _, some _] (by rfl) ?_
  try dsimp only [cxOf]
  have p2 : 1 ≤ 2 ^ n := Nat.one_le_two_pow
  have p2s : 2 ^ (n + 1) = 2 * 2 ^ n := by rw [Nat.pow_succ]; omega
  have line : sizeLine = 16777216 := sizeLine_eq
  walk_at "rd"
  refine ⟨d, _, rfl, DGet.k (k := Sum.inl (wd : Int)) hd, ?_⟩
  walk_at "rd"
  cases e : valV kvs (.inl (wd : Int)) with
  | some v =>
    refine i_F ?_
    walk_at "rd"
    refine ⟨d, v, rfl, by rw [← e]; exact DGet.k (k := Sum.inl (wd : Int)) hd, ?_⟩
    walk_at "rd"
    obtain ⟨m, em, _, hv⟩ := ok.2 _ _ e
    have em' : m = wd := by omega
    subst em'
    exact q v H kvs (SameX.refl _ _) hd ok (by omega) hv
  | none =>
    refine i_T ?_
    have w2 : ¬ wd ≤ 1 := fun z => by
      obtain ⟨u, hu⟩ := ok.1
      have e1 : wd = 1 := by omega
      subst e1
      rw [show ((1 : Nat) : Int) = 1 from rfl, hu] at e
      cases e
    have ev := evS_2 w2
    rw [ev] at hn
    simp only [hei] at hn
    obtain ⟨n', rfl⟩ : ∃ n', n = n' + 1 := ⟨n - 1, by omega⟩
    walk_at "rd"
    refine i_rI (by show (0 : Int) < 2 ∧ (2 : Int) < 1073741824; decide) ?_
    walk_at "rd"
    have a1 : ((wd : Int) + 1) / 2 = (((wd + 1) / 2 : Nat) : Int) := by omega
    have a2 : ((wd : Int)) / 2 = ((wd / 2 : Nat) : Int) := by omega
    rw [a1]
    refine ⟨(wd + 1) / 2, d, kvs, rfl, by omega, by omega, by omega, hd, ok, by omega, fun v1 H1 k1 sx1 d1 ok1 l1 sp1 => ?_⟩
    walk_at "rd"
    refine i_rI (by show (0 : Int) < 2 ∧ (2 : Int) < 1073741824; decide) ?_
    walk_at "rd"
    rw [a2]
    refine ⟨wd / 2, d, k1, rfl, by omega, by omega, by omega, d1, ok1, by omega, fun v2 H2 k2 sx2 d2 ok2 l2 sp2 => ?_⟩
    walk_at "rd"
    refine ⟨by show 2 ≤ sizeLine; decide, fun t ht => ?_⟩
    generalize eH3 : L2.upd H2 t _ = H3
    obtain ⟨s3, e3⟩ := laid eH3 ht
    walk_at "rd"
    have d3 := s3 _ _ d2
    refine ⟨d, _, rfl, DPut.k (k := Sum.inl (wd : Int)) d3 (by omega), ?_⟩
    walk_at "rd"
    have t12 : Tups H1 H2 := SameX.tupsD sx2 d1
    have t4 : Tups H3 (L2.upd H3 d (.dK (putK k2 (.inl (wd : Int)) (.ref t)))) := SameX.tupsD SameX.upd d3
    have hv : Shp (L2.upd H3 d (.dK (putK k2 (.inl (wd : Int)) (.ref t)))) (.ref t) (evS wd) := by
      rw [ev]
      exact .two (t4 _ _ e3) (((sp1.mono t12).mono (Same.tups s3)).mono t4) ((sp2.mono (Same.tups s3)).mono t4)
    refine ⟨d, .ref t, rfl, ?_, ?_⟩
    · have g := DGet.k (k := Sum.inl (wd : Int)) (upd_same (H := H3) (a := d) (o := .dK (putK k2 (.inl (wd : Int)) (.ref t))))
      rw [valV_put, if_pos rfl] at g
      exact g
    · walk_at "rd"
      have lp := length_putK k2 (Sum.inl (wd : Int)) (V.ref t)
      refine q (.ref t) _ _ (((sx1.trans sx2).trans (SameX.of s3)).trans SameX.upd) upd_same ?_ (by omega) hv
      exact KnOk.put ((ok2.mono (Same.tups s3)).mono t4) h1 hv
theorem c_even (T : Txt K mg) (n : Nat) : Cal P w K mg base (n + 0 + 1) "_law_even" (spEven n) := T.d__law_even.rec_ sc__law_even 0 (fun n vs H Q E h => by obtain ⟨_, _, _, rfl, _⟩ := h; rfl) (b_even T) n
end
end K60

set_option maxHeartbeats 4000000
namespace K60
open PySem PySem.Spec PyProof.Rows L2 KB KM

theorem SameX.fresh {f : Addr} {H0 H H' : Hp} (a : SameX f H H') (s : Same H0 H) (n : H0 f = none) : Same H0 H' := fun b o e => a b o (fun z => by rw [z, n] at e; cases e) (s b o e)
section
variable {P : Program} {w : World} {K : PySem.W.Frag} {mg : Str → Option Value} {base : Heap}
/-! ### _law_asked_one -/
def spAsked (K : PySem.W.Frag) : Sp := fun vs H Q _ => ∃ (a : Addr) (ns : List Int), vs = [.ref a] ∧ SqL K H a (ns.map V.int) ∧ (∀ z ∈ ns, ib z ≤ 1048576) ∧ ns.length ≤ 63 ∧ ∀ H', Same H H' → Q (.bl true) H'
theorem gOf {H : Hp} {v : V} {s : Sh} (h : Shp H v s) : GShp H v s.g := h.g
/-- a judge asked of a good shape -/
theorem judge {K : PySem.W.Frag} {f : Sh → V} {H : Hp} {v : V} {s : Sh} {Q : VK} {E : XK} (h : Shp H v s) (h1 : hei s ≤ 40) (h2 : wid s ≤ 20000) (q : Q (f s) H) : spJudge K f [v] H Q E := by
  refine ⟨v, s.g, rfl, h.g, fun z => ?_, fun s' e hs _ _ => ?_⟩
  · rw [wIn_sh s 40 h1 h2] at z
    have := wid_pos s
    omega
  · have : s = s' := by
      have inj : ∀ a b : Sh, a.g = b.g → a = b := by
        intro a
        induction a with
        | one => intro b e; cases b with
          | one => rfl
          | two _ _ => cases e
        | two l r i1 i2 => intro b e; cases b with
          | one => cases e
          | two l' r' =>
            simp only [Sh.g, GS.two.injEq] at e
            rw [i1 _ e.1, i2 _ e.2]
      exact inj _ _ e
    subst this
    exact q
abbrev s__law_asked_one : Stmt := (top 36)
theorem sc__law_asked_one : FnScope ["script", "k", "feed", "width", "few", "far", "thing", "shape"] ["script"] (defScope s__law_asked_one) := ⟨rfl, rfl, rfl, by decide +kernel, rfl, by decide +kernel, by decide +kernel⟩
theorem b_asked_one (T : Txt K mg) (C__law_feed : Cal P w K mg base 1 "_law_feed" (spFeed K)) (C__law_width : Cal P w K mg base 3 "_law_width" spWidth) (C__law_draw : Cal P w K mg base 1 "_law_draw" spDraw)
    (C__law_one : Cal P w K mg base 2 "_law_one" spOne) (C__law_is_integer : Cal P w K mg base 1 "_law_is_integer" spIsInteger) (C_tallest : Cal P w K mg base 3 "tallest" (spTallest K)) (C__law_tallest : Cal P w K mg base 2 "_law_tallest" spLTallest)
    (C__law_refused : Cal P w K mg base 4 "_law_refused" spRefused) (C__law_balanced : Cal P w K mg base 23 "_law_balanced" (spBalanced 20)) (C_height_of : Cal P w K mg base 43 "height_of" (spJudge K fun s => .int (hei s : Nat)))
    (C_is_balanced : Cal P w K mg base 43 "is_balanced" (spJudge K fun s => .bl (decide (0 ≤ bh s)))) (C_width_of : Cal P w K mg base 43 "width_of" (spJudge K fun s => .int (wid s : Nat))) : Body P w K mg base (43) ["script", "k", "feed", "width", "few", "far", "thing", "shape"] "_law_asked_one" (defScope s__law_asked_one) (defBody s__law_asked_one) (spAsked K) := by
  intro f cdv A outer s H vs Q E hr h
  obtain ⟨a, ns, rfl, hS, hb, hl, q⟩ := h
  have hu := hu_of hr
  have tk : Takes (cxOf (L2.CX P w) P w K mg base ["script", "k", "feed", "width", "few", "far", "thing", "shape"] "_law_asked_one" (defScope s__law_asked_one) f cdv A outer s H E) (fun cls d _ H => E cls d H) := takes_of rfl rfl rfl rfl
  refine ⟨_, (pss_cons (ps_for (passes_of rfl) rfl (pi_range1 rfl T.g_range (pa_cons (pe_callB (call_max2K rfl) (by rfl) T.g_max (by decide +kernel) (pa_cons pe_int (pa_cons (pe_callB (call_min2K rfl) (by rfl) T.g_min (by decide +kernel) (pa_cons pe_int (pa_cons (pe_callB call_lenK (by rfl) T.g_len (by decide +kernel) (pa_cons (pv 0) pa_nil)) pa_nil))) pa_nil))) pa_nil)) (pg_name (i := 1) sc__law_asked_one.nd rfl (Or.inl rfl)) (pss_cons (ps_set (i := 2) sc__law_asked_one.nd rfl (Or.inl rfl) (pe_cal C__law_feed hr (by omega) tk (pa_cons (pv 0) (pa_cons (pv 1) pa_nil))))
    (pss_cons (ps_par (i := 3) (j := 4) (by rfl) sc__law_asked_one.nd rfl rfl (by decide) rfl rfl (pa_cons (pe_cal C__law_width hr (by omega) tk (pa_cons (pv 2) pa_nil)) (pa_cons (pe_op op_add pe_int (pe_cal C__law_draw hr (by omega) tk (pa_cons (pv 2) (pa_cons pe_int pa_nil)))) pa_nil)) (by rfl))
    (pss_cons (ps_set (i := 5) sc__law_asked_one.nd rfl (Or.inl rfl) (pe_cal C__law_draw hr (by omega) tk (pa_cons (pv 2) (pa_cons (pe_op op_pow pe_int pe_int) pa_nil))))
    (pss_cons (ps_set (i := 6) sc__law_asked_one.nd rfl (Or.inl rfl) (pe_cal C__law_one hr (by omega) tk (pa_cons (pv 2) (pa_cons (pe_lst (pa_cons (pe_un un_neg pe_int) (pa_cons (pe_op op_sub (pe_un un_neg pe_int) (pv 5)) (pa_cons pe_int (pa_cons (pe_op op_add pe_int (pv 5)) (pa_cons pe_bl (pa_cons pe_bl (pa_cons pe_non (pa_cons pe_str (pa_cons (pe_lst (pa_cons pe_int pa_nil)) (pa_cons (pe_tup (pa_cons pe_int pa_nil)) pa_nil))))))))))) pa_nil))))
    (pss_cons (ps_if (PW.pt (pw_or (pt_not (pt_val (pe_cal C__law_is_integer hr (by omega) tk (pa_cons (pe_cal C_tallest hr (by omega) tk (pa_cons (pv 3) pa_nil)) (pa_cons (pe_cal C__law_tallest hr (by omega) tk (pa_cons (pv 3) pa_nil)) pa_nil))))) (pw_or1 (pt_not (pt_val (pe_cal C__law_refused hr (by omega) tk (pa_cons (pv 6) pa_nil))))))) (pss_one (ps_ret pe_bl)) pss_nil)
    (pss_cons (ps_set (i := 7) sc__law_asked_one.nd rfl (Or.inl rfl) (pe_cal C__law_balanced hr (by omega) tk (pa_cons (pv 2) (pa_cons (pv 4) (pa_cons (pe_cal C__law_tallest hr (by omega) tk (pa_cons (pv 4) pa_nil)) pa_nil)))))
    (pss_cons (ps_if (PW.pt (pw_or (pt_not (pt_val (pe_cal C__law_is_integer hr (by omega) tk (pa_cons (pe_cal C_height_of hr (by omega) tk (pa_cons (pv 7) pa_nil)) (pa_cons (pe_cal C__law_tallest hr (by omega) tk (pa_cons (pv 4) pa_nil)) pa_nil))))) (pw_or1 (pt_cmpR op_notBl (pe_cal C_is_balanced hr (by omega) tk (pa_cons (pv 7) pa_nil)) pe_bl (nomark _))))) (pss_one (ps_ret pe_bl)) pss_nil)
    (pss_one (ps_if (PW.pt (pw_or (pt_not (pt_val (pe_cal C__law_is_integer hr (by omega) tk (pa_cons (pe_cal C_tallest hr (by omega) tk (pa_cons (pv 4) pa_nil)) (pa_cons (pe_cal C__law_tallest hr (by omega) tk (pa_cons (pv 4) pa_nil)) pa_nil))))) (pw_or1 (pt_not (pt_val (pe_cal C__law_is_integer hr (by omega) tk (pa_cons (pe_cal C_width_of hr (by omega) tk (pa_cons (pv 7) pa_nil)) (pa_cons (pv 4) pa_nil)))))))) (pss_one (ps_ret pe_bl)) pss_nil))))))))))
    (pss_one (ps_ret pe_bl))), ?_⟩
  refine i_start [some _, none, none, none, none, none, none, none] (by rfl) ?_
  try dsimp only [cxOf]
  walk_at "rd"
  refine i_lenL hS ?_
  walk_at "rd"
  rw [List.length_map]
  refine ⟨_, rfl, by omega, by omega, ?_⟩
  refine for_range (lo := 0) (n := (max (3 : Int) (min (63 : Int) (ns.length : Nat))).toNat) (fun i s h => ∃ b1 b2 b3 b4 b5 b6 b7, s = [some (.ref a), b1, b2, b3, b4, b5, b6, b7] ∧ Same H h) ⟨none, none, none, none, none, none, none, rfl, Same.refl H⟩ ?_ ?_
  · rintro i s h hi ⟨b1, b2, b3, b4, b5, b6, b7, rfl, sH⟩
    have hi63 : i < 63 := by omega
    rw [Int.zero_add]
    walk_at "rd"
    refine ⟨a, ns, i, rfl, sH.seq hS, hb, by omega, fun fd xs H1 nf s1 e1 hF => ?_⟩
    walk_at "rd"
    refine ⟨fd, 0, xs, rfl, e1, hF, by omega, fun wn zs H2 hwn sx2 e2 hF2 => ?_⟩
    walk_at "rd"
    refine ⟨fd, 60, 3, zs, rfl, e2, hF2, by decide, by decide, by decide, fun g ys g0 g1 hy => ?_⟩
    walk_at "rd"
    obtain ⟨fw, efw⟩ : ∃ fw : Nat, 1 + g = (fw : Int) := ⟨(1 + g).toNat, by omega⟩
    rw [efw]
    walk_at "rd"
    refine i_rI ⟨by decide, by decide, by decide⟩ ?_
    walk_at "rd"
    have far0 : (10 : Int) ^ (60 : Int).toNat = 10 ^ 60 := by decide +kernel
    refine ⟨fd, _, 4, ys, rfl, upd_same, hy, by rw [far0]; decide, by rw [far0]; decide, by decide, fun far us f0 f1 hu5 => ?_⟩
    rw [upd_upd]
    walk_at "rd"
    refine ⟨by show 1 ≤ sizeLine; decide, fun l1 hl1 => ?_⟩
    generalize eH3 : L2.upd (L2.upd H2 fd (.lst us)) l1 _ = H3
    obtain ⟨s3, e3⟩ := laid eH3 hl1
    walk_at "rd"
    refine ⟨by show 1 ≤ sizeLine; decide, fun t1 ht1 => ?_⟩
    generalize eH4 : L2.upd H3 t1 _ = H4
    obtain ⟨s4, e4⟩ := laid eH4 ht1
    walk_at "rd"
    refine ⟨by show 10 ≤ sizeLine; decide, fun l2 hl2 => ?_⟩
    generalize eH5 : L2.upd H4 l2 _ = H5
    obtain ⟨s5, e5⟩ := laid eH5 hl2
    walk_at "rd"
    have hfd4 : H4 fd = some (.lst us) := s4 _ _ (s3 _ _ upd_same)
    have nl2 : l2 ≠ fd := fun z => by rw [z, hfd4] at hl2; cases hl2
    refine ⟨fd, l2, 5, us, _, rfl, s5 _ _ hfd4, hu5, by decide, e5, nl2, by simp, by show 10 ≤ 100000; decide, fun v vs hv hF6 => ?_⟩
    generalize eH6 : L2.upd H5 fd (.lst vs) = H6
    have e6 : H6 fd = some (.lst vs) := by rw [← eH6]; exact upd_same
    have hfd5 : H5 fd = some (.lst us) := s5 _ _ hfd4
    have tu5 : SameX fd H5 H6 := by rw [← eH6]; exact SameX.upd
    walk_at "rd"
    have nl1 : l1 ≠ fd := fun z => by rw [z, upd_same] at hl1; cases hl1
    have el1 : H6 l1 = some (.lst [.int 3]) := tu5 _ _ nl1 (s5 _ _ (s4 _ _ e3))
    have et1 : H6 t1 = some (.tup [.int 3]) := tu5 _ _ (ne_of e4 hfd4 (by intro z; cases z)) (s5 _ _ e4)
    obtain ⟨nn, kn, knot⟩ : ∃ nn, Kn H6 v nn ∧ ∀ i, v = .int i → ¬ (0 ≤ i ∧ i ≤ 20000) := by
      simp only [List.mem_cons, List.not_mem_nil, or_false] at hv
      rcases hv with rfl | rfl | rfl | rfl | rfl | rfl | rfl | rfl | rfl | rfl
      · exact ⟨"int", ⟨rfl, by decide⟩, fun i e => by cases e; omega⟩
      · exact ⟨"int", ⟨rfl, by decide⟩, fun i e => by cases e; omega⟩
      · exact ⟨"int", ⟨rfl, by decide⟩, fun i e => by cases e; omega⟩
      · exact ⟨"int", ⟨rfl, by decide⟩, fun i e => by cases e; omega⟩
      · exact ⟨"bool", ⟨rfl, by decide⟩, fun i e => by cases e⟩
      · exact ⟨"bool", ⟨rfl, by decide⟩, fun i e => by cases e⟩
      · exact ⟨"NoneType", ⟨rfl, by decide⟩, fun i e => by cases e⟩
      · exact ⟨"str", ⟨rfl, by decide⟩, fun i e => by cases e⟩
      · exact ⟨"list", ⟨tyN_lst el1, by decide⟩, fun i e => by cases e⟩
      · exact ⟨"tuple", ⟨tyN_tup et1, by decide⟩, fun i e => by cases e⟩
    -- the first question
    refine ⟨.int wn, "int", rfl, ⟨rfl, by decide⟩, fun n1 e hn1 ht H7 s7 tl1 => ?_, fun z => absurd ⟨by omega, by omega⟩ (z wn rfl)⟩
    have en : n1 = wn := by have := V.int.inj e; omega
    subst en
    walk_at "rd"
    refine ⟨n1, rfl, by omega, fun h2 H8 s8 tl2 => ?_⟩
    have eh := tl1.inj tl2
    subst eh
    walk_at "rd"
    refine ⟨_, _, rfl, ?_⟩
    walk_at "rd"
    refine i_ndec (fun z => absurd rfl z) fun _ => ?_
    walk_at "rd"
    have kn8 : Kn H8 v nn := by
      refine ⟨?_, kn.2⟩
      have k1 := kn.1
      clear hv knot
      cases v with
      | ref p =>
        have k2 : (match H6 p with
          | some (.lst _) => some "list"
          | some (.tup _) => some "tuple"
          | some (.dK _) => some "dict"
          | some (.dT _) => some "dict"
          | some (.frz _ (.lst _)) => some "list"
          | _ => none) = some nn := k1
        cases eo : H6 p with
        | none => rw [eo] at k2; cases k2
        | some o =>
          have e8 := s8 _ _ (s7 _ _ eo)
          simp only [tyN, e8]
          rw [eo] at k2
          exact k2
      | _ => exact k1
    refine ⟨v, nn, rfl, kn8, knot, ?_⟩
    walk_at "rd"
    refine i_F ?_
    walk_at "rd"
    -- the shape
    have fw1 : 1 ≤ fw := by omega
    have fw60 : fw ≤ 60 := by omega
    refine ⟨fw, rfl, by omega, fun hh H9 s9 tl3 => ?_⟩
    walk_at "rd"
    have hh20 := tl3.le (by omega)
    have e9 : H9 fd = some (.lst vs) := s9 _ _ (s8 _ _ (s7 _ _ e6))
    refine ⟨fd, fw, hh, 6, vs, rfl, e9, hF6, tl3.fit fw1, hh20, by omega, by omega, by omega, fun sv sh zs2 H10 sx10 e10 hF10 sp10 bl10 wd10 he10 => ?_⟩
    walk_at "rd"
    refine judge sp10 (by omega) (by omega) ?_
    walk_at "rd"
    refine ⟨fw, rfl, by omega, fun h3 H11 s11 tl4 => ?_⟩
    have eh2 := tl3.inj tl4
    subst eh2
    walk_at "rd"
    refine ⟨_, _, rfl, ?_⟩
    walk_at "rd"
    refine i_ndec (fun z => absurd (by rw [he10]) z) fun _ => ?_
    walk_at "rd"
    have sp11 := sp10.mono (Same.tups s11)
    refine judge sp11 (by omega) (by omega) ?_
    walk_at "rd"
    refine i_ndec (fun z => absurd (decide_eq_true (bh_nonneg.mpr bl10)) z) fun _ => ?_
    walk_at "rd"
    -- the second question
    refine ⟨.int fw, "int", rfl, ⟨rfl, by decide⟩, fun n2 e hn2 ht2 H12 s12 tl5 => ?_, fun z => absurd ⟨by omega, by omega⟩ (z fw rfl)⟩
    have en2 : n2 = fw := by have := V.int.inj e; omega
    subst en2
    walk_at "rd"
    refine ⟨n2, rfl, by omega, fun h4 H13 s13 tl6 => ?_⟩
    have eh3 := tl5.inj tl6
    subst eh3
    walk_at "rd"
    refine ⟨_, _, rfl, ?_⟩
    walk_at "rd"
    refine i_ndec (fun z => absurd rfl z) fun _ => ?_
    walk_at "rd"
    have sp13 := sp11.mono (Same.tups (s12.trans s13))
    refine judge sp13 (by omega) (by omega) ?_
    walk_at "rd"
    refine ⟨_, _, rfl, ?_⟩
    walk_at "rd"
    refine i_ndec (fun z => absurd (by rw [wd10]) z) fun _ => ?_
    walk_at "rd"
    refine ⟨_, _, _, _, _, _, _, rfl, ?_⟩
    have nfh : h fd = none := nf
    have S2 : Same h (L2.upd H2 fd (.lst us)) := SameX.fresh (SameX.upd (H := H2)) (SameX.fresh sx2 s1 nfh) nfh
    have S6 : Same h H6 := SameX.fresh tu5 (S2.trans ((s3.trans s4).trans s5)) nfh
    have S9 : Same h H9 := S6.trans ((s7.trans s8).trans s9)
    have S10 : Same h H10 := SameX.fresh sx10 S9 nfh
    exact sH.trans (S10.trans (s11.trans (s12.trans s13)))
  · rintro s h ⟨b1, b2, b3, b4, b5, b6, b7, rfl, sH⟩
    walk_at "rd"
    exact q h sH
theorem c_asked_one (T : Txt K mg) : Cal P w K mg base 44 "_law_asked_one" (spAsked K) := T.d__law_asked_one.cal sc__law_asked_one (fun vs H Q E h => by obtain ⟨_, _, rfl, _⟩ := h; rfl)
  (b_asked_one T (c_feed T) (c_width T) (c_draw T) (c_one T) (c_isinteger T) (c_tallest T) (c_ltallest T) (c_refused T) (c_balanced T 20) (c_height_of T) (c_is_balanced T) (c_width_of T))
end
end K60

set_option maxHeartbeats 4000000
namespace K60
open PySem PySem.Spec PyProof.Rows L2 KB KM

/-- a shape as data -/
def pd : Sh → PyData
  | .one => .none
  | .two l r => .tuple [pd l, pd r]
theorem pd_dp {K : PySem.W.Frag} {H : Hp} {v : V} {s : Sh} (h : Shp H v s) : Dp K H v (pd s) := by
  induction h with
  | one => exact .non
  | two a _ _ ih1 ih2 => exact .tup (SqT.of a) (.cons ih1 (.cons ih2 .nil))
theorem pd_lay : ∀ s : Sh, PyData.canLay0 (pd s) = true
  | .one => rfl
  | .two l r => by simp only [pd, PyData.canLay0, PyData.canLayAll0, pd_lay l, pd_lay r, Bool.and_self]
theorem pd_depth : ∀ s : Sh, PyData.depth (pd s) = hei s
  | .one => rfl
  | .two l r => by simp only [pd, PyData.depth, PyData.depthAll, pd_depth l, pd_depth r, hei]; omega
theorem pd_shaped {s : Sh} (h : hei s ≤ 64) : SeqAt.shaped (pd s) = true := by
  unfold SeqAt.shaped
  rw [pd_lay, pd_depth, decide_eq_true h]
  rfl
theorem pd_refl (s : Sh) : PyData.eqv (pd s) (pd s) = true := PySem.SeqAt.eqv_refl (pd s) (pd_lay s)
theorem i_neSame {K : PySem.W.Frag} {H : Hp} {x y : V} {s : Sh} {Q : VK} (h1 : Shp H x s) (h2 : Shp H y s) (h : hei s ≤ 64) (q : Q (.bl false) H) : rNeD K x y H Q :=
  ⟨pd s, pd s, pd_dp h1, pd_dp h2, pd_shaped h, pd_shaped h, by rw [pd_refl]; exact q⟩
section
variable {P : Program} {w : World} {K : PySem.W.Frag} {mg : Str → Option Value} {base : Heap}
theorem kn_one (H : Hp) : KnOk H [(.inl 1, .non)] := by
  refine ⟨⟨.non, rfl⟩, fun k v e => ?_⟩
  unfold valV at e
  rw [List.find?_cons] at e
  by_cases c : (Sum.inl 1 : Key) = Sum.inl k
  · rw [decide_eq_true c] at e
    cases e
    cases c
    exact ⟨1, rfl, Nat.le_refl 1, by rw [evS_1 (Nat.le_refl 1)]; exact .one⟩
  · rw [decide_eq_false c] at e
    cases e
theorem kn_stay {H H' : Hp} {v : V} {n : String} (k : Kn H v n) (s : Same H H') : Kn H' v n := by
  obtain ⟨k1, k2⟩ := k
  refine ⟨?_, k2⟩
  cases v with
  | ref p =>
    have k3 : (match H p with
      | some (.lst _) => some "list"
      | some (.tup _) => some "tuple"
      | some (.dK _) => some "dict"
      | some (.dT _) => some "dict"
      | some (.frz _ (.lst _)) => some "list"
      | _ => none) = some n := k1
    cases eo : H p with
    | none => rw [eo] at k3; cases k3
    | some o =>
      have e8 := s _ _ eo
      simp only [tyN, e8]
      rw [eo] at k3
      exact k3
  | _ => exact k1
theorem bits_is (n : Nat) (h : 1 ≤ n) : (Builtin.Int.intBits ((n : Int) - 1) : Nat) = bits (n - 1) := by
  rw [show ((n : Nat) : Int) - 1 = ((n - 1 : Nat) : Int) by omega]
  unfold Builtin.Int.intBits
  by_cases c : n - 1 = 0
  · rw [c, bits_0]; rfl
  · rw [bits_log _ c, if_neg (by simpa using c), Int.natAbs_natCast]
abbrev s__law_asked_two : Stmt := (top 39)
theorem sc__law_asked_two : FnScope ["script", "known", "k", "feed", "width", "far", "thing", "shape"] ["script"] (defScope s__law_asked_two) := ⟨rfl, rfl, rfl, by decide +kernel, rfl, by decide +kernel, by decide +kernel⟩
theorem b_asked_two (T : Txt K mg) (C__law_feed : Cal P w K mg base 1 "_law_feed" (spFeed K)) (C__law_draw : Cal P w K mg base 1 "_law_draw" spDraw)
    (C__law_one : Cal P w K mg base 2 "_law_one" spOne) (C__law_is_integer : Cal P w K mg base 1 "_law_is_integer" spIsInteger) (C__law_refused_too : Cal P w K mg base 21 "_law_refused_too" spRefusedToo)
    (C_even_shape : Cal P w K mg base 20 "even_shape" (spEvenShape K)) (C__law_even : Cal P w K mg base 16 "_law_even" (spEven 15)) (C_height_of : Cal P w K mg base 43 "height_of" (spJudge K fun s => .int (hei s : Nat)))
    (C_is_balanced : Cal P w K mg base 43 "is_balanced" (spJudge K fun s => .bl (decide (0 ≤ bh s)))) (C_width_of : Cal P w K mg base 43 "width_of" (spJudge K fun s => .int (wid s : Nat))) : Body P w K mg base (43) ["script", "known", "k", "feed", "width", "far", "thing", "shape"] "_law_asked_two" (defScope s__law_asked_two) (defBody s__law_asked_two) (spAsked K) := by
  intro f cdv A outer s H vs Q E hr h
  obtain ⟨a, ns, rfl, hS, hb, hl, q⟩ := h
  have hu := hu_of hr
  have tk : Takes (cxOf (L2.CX P w) P w K mg base ["script", "known", "k", "feed", "width", "far", "thing", "shape"] "_law_asked_two" (defScope s__law_asked_two) f cdv A outer s H E) (fun cls d _ H => E cls d H) := takes_of rfl rfl rfl rfl
  refine ⟨_, (pss_cons (ps_set (i := 1) sc__law_asked_two.nd rfl (Or.inl rfl) (pe_disp (pps_cons pe_int pe_non pps_nil) rfl rfl (by decide) (by decide)))
    (pss_cons (ps_for (passes_of rfl) rfl (pi_range1 rfl T.g_range (pa_cons (pe_callB (call_max2K rfl) (by rfl) T.g_max (by decide +kernel) (pa_cons pe_int (pa_cons (pe_callB (call_min2K rfl) (by rfl) T.g_min (by decide +kernel) (pa_cons pe_int (pa_cons (pe_callB call_lenK (by rfl) T.g_len (by decide +kernel) (pa_cons (pv 0) pa_nil)) pa_nil))) pa_nil))) pa_nil)) (pg_name (i := 2) sc__law_asked_two.nd rfl (Or.inl rfl)) (pss_cons (ps_set (i := 3) sc__law_asked_two.nd rfl (Or.inl rfl) (pe_cal C__law_feed hr (by omega) tk (pa_cons (pv 0) (pa_cons (pv 2) pa_nil))))
    (pss_cons (ps_set (i := 4) sc__law_asked_two.nd rfl (Or.inl rfl) (pe_op op_add pe_int (pe_cal C__law_draw hr (by omega) tk (pa_cons (pv 3) (pa_cons pe_int pa_nil)))))
    (Evl.pss_cut (ps_if (PW.pt (pw_and (pt_cmpR op_eq (pe_cal C__law_draw hr (by omega) tk (pa_cons (pv 3) (pa_cons pe_int pa_nil))) pe_int (nomark _)) (pw_and1 (pt_cmpR op_eq (pv 2) pe_int (nomark _))))) (pss_one (ps_set (i := 4) sc__law_asked_two.nd rfl (Or.inl rfl) (pe_op op_add pe_int (pe_cal C__law_draw hr (by omega) tk (pa_cons (pv 3) (pa_cons pe_int pa_nil)))))) pss_nil)
    (pss_cons (ps_set (i := 5) sc__law_asked_two.nd rfl (Or.inl rfl) (pe_cal C__law_draw hr (by omega) tk (pa_cons (pv 3) (pa_cons (pe_op op_pow pe_int pe_int) pa_nil))))
    (pss_cons (ps_set (i := 6) sc__law_asked_two.nd rfl (Or.inl rfl) (pe_cal C__law_one hr (by omega) tk (pa_cons (pv 3) (pa_cons (pe_lst (pa_cons pe_int (pa_cons (pe_un un_neg pe_int) (pa_cons (pe_op op_sub (pe_un un_neg pe_int) (pv 5)) (pa_cons pe_int (pa_cons (pe_op op_add pe_int (pv 5)) (pa_cons pe_bl (pa_cons pe_bl (pa_cons pe_non (pa_cons pe_str (pa_cons (pe_tup (pa_cons pe_non (pa_cons pe_non pa_nil))) pa_nil))))))))))) pa_nil))))
    (pss_cons (ps_if (pt_not (pt_val (pe_cal C__law_refused_too hr (by omega) tk (pa_cons (pv 6) pa_nil)))) (pss_one (ps_ret pe_bl)) pss_nil)
    (pss_cons (ps_set (i := 7) sc__law_asked_two.nd rfl (Or.inl rfl) (pe_cal C_even_shape hr (by omega) tk (pa_cons (pv 4) pa_nil)))
    (pss_cons (ps_if (PW.pt (pw_or (pt_cmpR (op_neD hr.units) (pv 7) (pe_cal C__law_even hr (by omega) tk (pa_cons (pv 4) (pa_cons (pv 1) pa_nil))) (nomark _)) (pw_or (pt_cmpR (op_neD hr.units) (pe_cal C_even_shape hr (by omega) tk (pa_cons (pv 4) pa_nil)) (pv 7) (nomark _)) (pw_or1 (pt_cmpR op_notBl (pe_cal C_is_balanced hr (by omega) tk (pa_cons (pv 7) pa_nil)) pe_bl (nomark _)))))) (pss_one (ps_ret pe_bl)) pss_nil)
    (pss_one (ps_if (PW.pt (pw_or (pt_not (pt_val (pe_cal C__law_is_integer hr (by omega) tk (pa_cons (pe_cal C_width_of hr (by omega) tk (pa_cons (pv 7) pa_nil)) (pa_cons (pv 4) pa_nil))))) (pw_or1 (pt_not (pt_val (pe_cal C__law_is_integer hr (by omega) tk (pa_cons (pe_cal C_height_of hr (by omega) tk (pa_cons (pv 7) pa_nil)) (pa_cons (pe_bits (pe_op op_sub (pv 4) pe_int)) pa_nil)))))))) (pss_one (ps_ret pe_bl)) pss_nil)))))))))))
    (pss_one (ps_ret pe_bl)))), ?_⟩
  refine i_start [some _, none, none, none, none, none, none, none] (by rfl) ?_
  try dsimp only [cxOf]
  walk_at "rd"
  refine i_disp fun d hd => ?_
  walk_at "rd"
  refine ⟨upd_same, [(.inl 1, .non)], rfl, by decide, ?_⟩
  rw [upd_upd, show mergeK [] [((.inl 1 : Key), V.non)] = [(.inl 1, .non)] from rfl]
  walk_at "rd"
  have sd : Same H (L2.upd H d (.dK [(.inl 1, .non)])) := Same.new hd
  refine i_lenL (sd.seq hS) ?_
  walk_at "rd"
  rw [List.length_map]
  refine ⟨_, rfl, by omega, by omega, ?_⟩
  refine for_range (lo := 0) (n := (max (3 : Int) (min (63 : Int) (ns.length : Nat))).toNat) (fun i s h => ∃ b2 b3 b4 b5 b6 b7 kvs, s = [some (.ref a), some (.ref d), b2, b3, b4, b5, b6, b7] ∧ Same H h ∧ h d = some (.dK kvs) ∧ KnOk h kvs ∧ kvs.length ≤ 1 + i * 65536)
    ⟨none, none, none, none, none, none, _, rfl, sd, upd_same, kn_one _, by simp⟩ ?_ ?_
  · rintro i s h hi ⟨b2, b3, b4, b5, b6, b7, kvs, rfl, sH, hd1, ok, hlen⟩
    have hi63 : i < 63 := by omega
    rw [Int.zero_add]
    walk_at "rd"
    refine ⟨a, ns, i, rfl, sH.seq hS, hb, by omega, fun fd xs H1 nf s1 e1 hF => ?_⟩
    walk_at "rd"
    have nfd : d ≠ fd := fun z => by rw [← z, hd1] at nf; cases nf
    refine ⟨fd, 200, 0, xs, rfl, e1, hF, by decide, by decide, by decide, fun g ys g0 g1 hy => ?_⟩
    walk_at "rd"
    have nfh : h fd = none := nf
    have S2 : Same h (L2.upd H1 fd (.lst ys)) := SameX.fresh (SameX.upd (H := H1)) s1 nfh
    refine i_cut (fun s2 h2 => ∃ (wd : Nat) (zs : List V), s2 = [some (.ref a), some (.ref d), some (.int (i : Nat)), some (.ref fd), some (.int wd), b5, b6, b7] ∧ 1 ≤ wd ∧ wd ≤ 20000 ∧ Same h h2 ∧ h2 fd = some (.lst zs) ∧ FdL 3 zs) ?_ ?_
    · walk_at "rd"
      refine ⟨fd, 6, 1, ys, rfl, upd_same, hy, by decide, by decide, by decide, fun g2 zs h0 h1 hz => ?_⟩
      rw [upd_upd]
      walk_at "rd"
      have S3 : Same h (L2.upd H1 fd (.lst zs)) := SameX.fresh (SameX.upd (H := H1)) s1 nfh
      refine i_dec (fun c => ?_) (fun c => ?_)
      · walk_at "rd"
        refine i_dec (fun c2 => ?_) (fun c2 => ?_)
        · walk_at "rd"
          refine ⟨fd, 11, 2, zs, rfl, upd_same, hz, by decide, by decide, by decide, fun g3 us h2 h3 hu3 => ?_⟩
          rw [upd_upd]
          walk_at "rd"
          obtain ⟨wd, ewd⟩ : ∃ wd : Nat, 19990 + g3 = (wd : Int) := ⟨(19990 + g3).toNat, by omega⟩
          rw [ewd]
          exact ⟨wd, us, rfl, by omega, by omega, SameX.fresh (SameX.upd (H := H1)) s1 nfh, upd_same, hu3⟩
        · walk_at "rd"
          obtain ⟨wd, ewd⟩ : ∃ wd : Nat, 1 + g = (wd : Int) := ⟨(1 + g).toNat, by omega⟩
          rw [ewd]
          exact ⟨wd, zs, rfl, by omega, by omega, S3, upd_same, hz.mono (by decide)⟩
      · walk_at "rd"
        obtain ⟨wd, ewd⟩ : ∃ wd : Nat, 1 + g = (wd : Int) := ⟨(1 + g).toNat, by omega⟩
        rw [ewd]
        exact ⟨wd, zs, rfl, by omega, by omega, S3, upd_same, hz.mono (by decide)⟩
    · rintro s2 h2 ⟨wd, zs, rfl, w1, w2, sm2, e2, hz⟩
      clear S2 hy g1 g0
      walk_at "rd"
      refine i_rI ⟨by decide, by decide, by decide⟩ ?_
      walk_at "rd"
      have far0 : (10 : Int) ^ (60 : Int).toNat = 10 ^ 60 := by decide +kernel
      refine ⟨fd, _, 3, zs, rfl, e2, hz, by rw [far0]; decide, by rw [far0]; decide, by decide, fun far us f0 f1 hu5 => ?_⟩
      walk_at "rd"
      have S3 : Same h (L2.upd h2 fd (.lst us)) := SameX.fresh (SameX.upd (H := h2)) sm2 nfh
      refine ⟨by show 2 ≤ sizeLine; decide, fun t1 ht1 => ?_⟩
      generalize eH4 : L2.upd (L2.upd h2 fd (.lst us)) t1 _ = H4
      obtain ⟨s4, e4⟩ := laid eH4 ht1
      walk_at "rd"
      refine ⟨by show 10 ≤ sizeLine; decide, fun l2 hl2 => ?_⟩
      generalize eH5 : L2.upd H4 l2 _ = H5
      obtain ⟨s5, e5⟩ := laid eH5 hl2
      walk_at "rd"
      have hfd4 : H4 fd = some (.lst us) := s4 _ _ upd_same
      have nl2 : l2 ≠ fd := fun z => by rw [z, hfd4] at hl2; cases hl2
      have hfd5 : H5 fd = some (.lst us) := s5 _ _ hfd4
      refine ⟨fd, l2, 4, us, _, rfl, hfd5, hu5, by decide, e5, nl2, by simp, by show 10 ≤ 100000; decide, fun v vs hv hF6 => ?_⟩
      generalize eH6 : L2.upd H5 fd (.lst vs) = H6
      have tu5 : SameX fd H5 H6 := by rw [← eH6]; exact SameX.upd
      walk_at "rd"
      have et1 : H6 t1 = some (.tup [.non, .non]) := tu5 _ _ (ne_of e4 hfd4 (by intro z; cases z)) (s5 _ _ e4)
      have S6 : Same h H6 := SameX.fresh tu5 (S3.trans (s4.trans s5)) nfh
      obtain ⟨nn, kn, knot⟩ : ∃ nn, Kn H6 v nn ∧ ∀ i, v = .int i → ¬ (1 ≤ i ∧ i ≤ 20000) := by
        simp only [List.mem_cons, List.not_mem_nil, or_false] at hv
        rcases hv with rfl | rfl | rfl | rfl | rfl | rfl | rfl | rfl | rfl | rfl
        · exact ⟨"int", ⟨rfl, by decide⟩, fun i e => by cases e; omega⟩
        · exact ⟨"int", ⟨rfl, by decide⟩, fun i e => by cases e; omega⟩
        · exact ⟨"int", ⟨rfl, by decide⟩, fun i e => by cases e; omega⟩
        · exact ⟨"int", ⟨rfl, by decide⟩, fun i e => by cases e; omega⟩
        · exact ⟨"int", ⟨rfl, by decide⟩, fun i e => by cases e; omega⟩
        · exact ⟨"bool", ⟨rfl, by decide⟩, fun i e => by cases e⟩
        · exact ⟨"bool", ⟨rfl, by decide⟩, fun i e => by cases e⟩
        · exact ⟨"NoneType", ⟨rfl, by decide⟩, fun i e => by cases e⟩
        · exact ⟨"str", ⟨rfl, by decide⟩, fun i e => by cases e⟩
        · exact ⟨"tuple", ⟨tyN_tup et1, by decide⟩, fun i e => by cases e⟩
      refine ⟨v, nn, rfl, kn, knot, ?_⟩
      walk_at "rd"
      refine i_F ?_
      walk_at "rd"
      refine ⟨.int wd, "int", rfl, ⟨rfl, by decide⟩, fun n1 e hn1 hn2 sv H7 s7 sp7 => ?_, fun z => absurd ⟨by omega, by omega⟩ (z wd rfl)⟩
      have en : n1 = wd := by have := V.int.inj e; omega
      subst en
      walk_at "rd"
      have d7 : H7 d = some (.dK kvs) := s7 _ _ (S6 _ _ hd1)
      have ok7 : KnOk H7 kvs := ok.mono (Same.tups (S6.trans s7))
      have low := evS_low w1 w2
      refine ⟨n1, d, kvs, rfl, w1, by omega, low, d7, ok7, by omega, fun ev H8 kv8 sx8 d8 ok8 len8 sp8 => ?_⟩
      walk_at "rd"
      have tu8 : Tups H7 H8 := SameX.tupsD sx8 d7
      refine i_neSame (sp7.mono tu8) sp8 (by omega) ?_
      walk_at "rd"
      refine ⟨.int n1, "int", rfl, ⟨rfl, by decide⟩, fun n2 e' hn1' hn2' sv2 H9 s9 sp9 => ?_, fun z => absurd ⟨by omega, by omega⟩ (z n1 rfl)⟩
      have en2 : n2 = n1 := by have := V.int.inj e'; omega
      subst en2
      walk_at "rd"
      have spv : Shp H9 sv (evS n2) := (sp7.mono tu8).mono (Same.tups s9)
      refine i_neSame sp9 spv (by omega) ?_
      walk_at "rd"
      have wdE := evS_wid n2 w1
      obtain ⟨heE, blE⟩ := evS_hei n2 w1
      refine judge spv (by omega) (by omega) ?_
      walk_at "rd"
      refine i_ndec (fun z => absurd (decide_eq_true (bh_nonneg.mpr blE)) z) fun _ => ?_
      walk_at "rd"
      refine judge spv (by omega) (by omega) ?_
      walk_at "rd"
      refine ⟨_, _, rfl, ?_⟩
      walk_at "rd"
      refine i_ndec (fun z => absurd (by rw [wdE]) z) fun _ => ?_
      walk_at "rd"
      refine judge spv (by omega) (by omega) ?_
      walk_at "rd"
      refine ⟨_, _, rfl, ?_⟩
      walk_at "rd"
      refine i_ndec (fun z => absurd (by rw [bits_is n2 w1, heE]) z) fun _ => ?_
      walk_at "rd"
      refine ⟨_, _, _, _, _, _, kv8, rfl, ?_, s9 _ _ d8, ok8.mono (Same.tups s9), by omega⟩
      have S8 : Same H H8 := SameX.fresh sx8 ((sH.trans S6).trans s7) hd
      exact S8.trans s9
  · rintro s h ⟨b2, b3, b4, b5, b6, b7, kvs, rfl, sH, _⟩
    walk_at "rd"
    exact q h sH
theorem c_asked_two (T : Txt K mg) : Cal P w K mg base 44 "_law_asked_two" (spAsked K) := T.d__law_asked_two.cal sc__law_asked_two (fun vs H Q E h => by obtain ⟨_, _, rfl, _⟩ := h; rfl)
  (b_asked_two T (c_feed T) (c_draw T) (c_one T) (c_isinteger T) (c_refused_too T) (c_even_shape T) (c_even T 15) (c_height_of T) (c_is_balanced T) (c_width_of T))
/-! ### law -/
def spLaw (K : PySem.W.Frag) : Sp := fun vs H Q _ => ∃ (a : Addr) (ns : List Int), vs = [.ref a] ∧ SqL K H a (ns.map V.int) ∧ (∀ z ∈ ns, ib z ≤ 1048576) ∧ ns.length ≤ 63 ∧ ∀ H', Q (.bl true) H'
abbrev s_law : Stmt := (top 40)
theorem sc_law : FnScope ["script"] ["script"] (defScope s_law) := ⟨rfl, rfl, rfl, by decide +kernel, rfl, by decide +kernel, by decide +kernel⟩
theorem b_law (T : Txt K mg) (C__law_asked_one : Cal P w K mg base 44 "_law_asked_one" (spAsked K)) (C__law_asked_two : Cal P w K mg base 44 "_law_asked_two" (spAsked K)) : Body P w K mg base (44) ["script"] "law" (defScope s_law) (defBody s_law) (spLaw K) := by
  intro f cdv A outer s H vs Q E hr h
  obtain ⟨a, ns, rfl, hS, hb, hl, q⟩ := h
  have hu := hu_of hr
  have tk : Takes (cxOf (L2.CX P w) P w K mg base ["script"] "law" (defScope s_law) f cdv A outer s H E) (fun cls d _ H => E cls d H) := takes_of rfl rfl rfl rfl
  refine ⟨_, (pss_one (ps_ret (pe_and (pe_cal C__law_asked_one hr (by omega) tk (pa_cons (pv 0) pa_nil)) (pe_one (pe_cal C__law_asked_two hr (by omega) tk (pa_cons (pv 0) pa_nil)))))), ?_⟩
  refine i_start [some _] (by rfl) ?_
  try dsimp only [cxOf]
  walk_at "rd"
  refine ⟨a, ns, rfl, hS, hb, hl, fun H1 s1 => ?_⟩
  walk_at "rd"
  refine ⟨a, ns, rfl, s1.seq hS, hb, hl, fun H2 s2 => ?_⟩
  walk_at "rd"
  exact q H2
end
end K60

set_option maxHeartbeats 0
namespace K60
open PySem PySem.Spec PyProof.Rows L2 KB
/-! ### the head -/
def fn0 : List He.DefD := [⟨("is_integer", none), "is_integer", "is_integer", defArgs (top 6), defBody (top 6), defScope (top 6), [], []⟩,
  ⟨("need_count", none), "need_count", "need_count", defArgs (top 7), defBody (top 7), defScope (top 7), [.non], []⟩,
  ⟨("Stem", some "__init__"), "__init__", "Stem.__init__", defArgs (inClass (top 10) 0), defBody (inClass (top 10) 0), defScope (inClass (top 10) 0), [], []⟩,
  ⟨("Builder", some "pair"), "pair", "Builder.pair", defArgs (inClass (top 11) 0), defBody (inClass (top 11) 0), defScope (inClass (top 11) 0), [], []⟩,
  ⟨("Builder", some "sides"), "sides", "Builder.sides", defArgs (inClass (top 11) 1), defBody (inClass (top 11) 1), defScope (inClass (top 11) 1), [], []⟩,
  ⟨("tallest_of", none), "tallest_of", "tallest_of", defArgs (top 12), defBody (top 12), defScope (top 12), [], []⟩,
  ⟨("width_in", none), "width_in", "width_in", defArgs (top 13), defBody (top 13), defScope (top 13), [], []⟩,
  ⟨("height_in", none), "height_in", "height_in", defArgs (top 14), defBody (top 14), defScope (top 14), [], []⟩,
  ⟨("balanced_height", none), "balanced_height", "balanced_height", defArgs (top 15), defBody (top 15), defScope (top 15), [], []⟩,
  ⟨("stem_of", none), "stem_of", "stem_of", defArgs (top 16), defBody (top 16), defScope (top 16), [], []⟩,
  ⟨("shape_of", none), "shape_of", "shape_of", defArgs (top 17), defBody (top 17), defScope (top 17), [], []⟩,
  ⟨("even_row", none), "even_row", "even_row", defArgs (top 18), defBody (top 18), defScope (top 18), [], []⟩,
  ⟨("need_shape", none), "need_shape", "need_shape", defArgs (top 20), defBody (top 20), defScope (top 20), [], []⟩,
  ⟨("is_balanced", none), "is_balanced", "is_balanced", defArgs (top 21), defBody (top 21), defScope (top 21), [], []⟩,
  ⟨("width_of", none), "width_of", "width_of", defArgs (top 22), defBody (top 22), defScope (top 22), [], []⟩,
  ⟨("height_of", none), "height_of", "height_of", defArgs (top 23), defBody (top 23), defScope (top 23), [], []⟩,
  ⟨("tallest", none), "tallest", "tallest", defArgs (top 24), defBody (top 24), defScope (top 24), [], []⟩,
  ⟨("even_shape", none), "even_shape", "even_shape", defArgs (top 25), defBody (top 25), defScope (top 25), [], []⟩,
  ⟨("_law_feed", none), "_law_feed", "_law_feed", defArgs (top 27), defBody (top 27), defScope (top 27), [], []⟩,
  ⟨("_law_draw", none), "_law_draw", "_law_draw", defArgs (top 28), defBody (top 28), defScope (top 28), [], []⟩,
  ⟨("_law_one", none), "_law_one", "_law_one", defArgs (top 29), defBody (top 29), defScope (top 29), [], []⟩,
  ⟨("_law_least", none), "_law_least", "_law_least", defArgs (top 30), defBody (top 30), defScope (top 30), [], []⟩,
  ⟨("_law_tallest", none), "_law_tallest", "_law_tallest", defArgs (top 31), defBody (top 31), defScope (top 31), [], []⟩,
  ⟨("_law_balanced", none), "_law_balanced", "_law_balanced", defArgs (top 32), defBody (top 32), defScope (top 32), [], []⟩,
  ⟨("_law_width", none), "_law_width", "_law_width", defArgs (top 33), defBody (top 33), defScope (top 33), [], []⟩,
  ⟨("_law_refused", none), "_law_refused", "_law_refused", defArgs (top 34), defBody (top 34), defScope (top 34), [], []⟩,
  ⟨("_law_is_integer", none), "_law_is_integer", "_law_is_integer", defArgs (top 35), defBody (top 35), defScope (top 35), [], []⟩,
  ⟨("_law_asked_one", none), "_law_asked_one", "_law_asked_one", defArgs (top 36), defBody (top 36), defScope (top 36), [], []⟩,
  ⟨("_law_even", none), "_law_even", "_law_even", defArgs (top 37), defBody (top 37), defScope (top 37), [], []⟩,
  ⟨("_law_refused_too", none), "_law_refused_too", "_law_refused_too", defArgs (top 38), defBody (top 38), defScope (top 38), [], []⟩]
def fn1 : List He.DefD := [⟨("_law_asked_two", none), "_law_asked_two", "_law_asked_two", defArgs (top 39), defBody (top 39), defScope (top 39), [], []⟩,
  ⟨("law", none), "law", "law", defArgs (top 40), defBody (top 40), defScope (top 40), [], []⟩]
def fn : List He.DefD := fn0 ++ fn1

def fa0 : List He.Fa := [.free "isinstance",
  .free "int",
  .free "bool",
  .free "tuple",
  .free "len",
  .free "max",
  .free "min",
  .free "abs",
  .free "sum",
  .free "range",
  .int "MOST_NODES" 20000,
  .int "MOST_HEIGHT" 40,
  .glo "MatchError",
  .exc "MatchError",
  .glo "BadShape",
  .exc "BadShape",
  .glo "BadCount",
  .exc "BadCount",
  .glo "Stem",
  .cls "Stem",
  .noat "Stem" "left",
  .noat "Stem" "right",
  .noat "Stem" "width",
  .noat "Stem" "height",
  .mkr "Stem",
  .glo "Builder",
  .cls "Builder",
  .meth "Builder" "pair",
  .meth "Builder" "sides",
  .exm "MatchError" "BadCount" false]
def fa1 : List He.Fa := [.exm "BadShape" "BadCount" false,
  .exm "BadCount" "BadCount" true,
  .glo "is_integer",
  .glo "need_count",
  .glo "tallest_of",
  .glo "width_in",
  .glo "height_in",
  .glo "balanced_height",
  .glo "stem_of",
  .glo "shape_of",
  .glo "even_row",
  .glo "need_shape",
  .glo "is_balanced",
  .glo "width_of",
  .glo "height_of",
  .glo "tallest",
  .glo "even_shape",
  .glo "_law_feed",
  .glo "_law_draw",
  .glo "_law_one",
  .glo "_law_least",
  .glo "_law_tallest",
  .glo "_law_balanced",
  .glo "_law_width",
  .glo "_law_refused",
  .glo "_law_is_integer",
  .glo "_law_asked_one",
  .glo "_law_even",
  .glo "_law_refused_too",
  .glo "_law_asked_two"]
def fa2 : List He.Fa := [.glo "law"]
def fa : List He.Fa := fa0 ++ fa1 ++ fa2

def exB (K : PySem.W.Frag) : Bool := (PySem.W.makesIn K (He.ga K "Builder") && (He.eqO (PySem.W.findIn K (.ref (He.ga K "Builder")) "__init__") (some (some (.builtin "object.__init__"))) && PySem.W.keepIn K (.ref (He.ga K "Builder"))))
def names0 : List PySem.Str := ["MatchError",
  "BadShape",
  "BadCount",
  "MOST_NODES",
  "is_integer",
  "need_count",
  "MOST_HEIGHT",
  "Stem",
  "Builder",
  "tallest_of",
  "width_in",
  "height_in",
  "balanced_height",
  "stem_of",
  "shape_of",
  "even_row",
  "need_shape",
  "is_balanced",
  "width_of",
  "height_of",
  "tallest",
  "even_shape",
  "_law_feed",
  "_law_draw",
  "_law_one",
  "_law_least",
  "_law_tallest",
  "_law_balanced",
  "_law_width",
  "_law_refused"]
def names1 : List PySem.Str := ["_law_is_integer",
  "_law_asked_one",
  "_law_even",
  "_law_refused_too",
  "_law_asked_two"]
def names : List PySem.Str := names0 ++ names1

abbrev lawAt : Nat := 40
theorem full1 {K : PySem.W.Frag} {fd : FuncData} {ps : List Str} (h : ∃ ds, Vals [] ds ∧ Binds K fd ps ds) : Binds K fd ps [] := by
  obtain ⟨ds, h1, h2⟩ := h
  cases h1
  exact h2
theorem txt_of {K : PySem.W.Frag} {h : Heap} {mg : Str → Option Value} (KX : K.In h) (G : h.Ns mainGlobals mg) (c : He.SaysD fa fn K) (m : exB K = true) : Txt K mg := by
  obtain ⟨fd0, F0⟩ := c.def_ 0 (d := ⟨("is_integer", none), "is_integer", "is_integer", defArgs (top 6), defBody (top 6), defScope (top 6), [], []⟩) rfl
  obtain ⟨fd1, F1⟩ := c.def_ 1 (d := ⟨("need_count", none), "need_count", "need_count", defArgs (top 7), defBody (top 7), defScope (top 7), [.non], []⟩) rfl
  obtain ⟨fd2, F2⟩ := c.def_ 2 (d := ⟨("Stem", some "__init__"), "__init__", "Stem.__init__", defArgs (inClass (top 10) 0), defBody (inClass (top 10) 0), defScope (inClass (top 10) 0), [], []⟩) rfl
  obtain ⟨fd3, F3⟩ := c.def_ 3 (d := ⟨("Builder", some "pair"), "pair", "Builder.pair", defArgs (inClass (top 11) 0), defBody (inClass (top 11) 0), defScope (inClass (top 11) 0), [], []⟩) rfl
  obtain ⟨fd4, F4⟩ := c.def_ 4 (d := ⟨("Builder", some "sides"), "sides", "Builder.sides", defArgs (inClass (top 11) 1), defBody (inClass (top 11) 1), defScope (inClass (top 11) 1), [], []⟩) rfl
  obtain ⟨fd5, F5⟩ := c.def_ 5 (d := ⟨("tallest_of", none), "tallest_of", "tallest_of", defArgs (top 12), defBody (top 12), defScope (top 12), [], []⟩) rfl
  obtain ⟨fd6, F6⟩ := c.def_ 6 (d := ⟨("width_in", none), "width_in", "width_in", defArgs (top 13), defBody (top 13), defScope (top 13), [], []⟩) rfl
  obtain ⟨fd7, F7⟩ := c.def_ 7 (d := ⟨("height_in", none), "height_in", "height_in", defArgs (top 14), defBody (top 14), defScope (top 14), [], []⟩) rfl
  obtain ⟨fd8, F8⟩ := c.def_ 8 (d := ⟨("balanced_height", none), "balanced_height", "balanced_height", defArgs (top 15), defBody (top 15), defScope (top 15), [], []⟩) rfl
  obtain ⟨fd9, F9⟩ := c.def_ 9 (d := ⟨("stem_of", none), "stem_of", "stem_of", defArgs (top 16), defBody (top 16), defScope (top 16), [], []⟩) rfl
  obtain ⟨fd10, F10⟩ := c.def_ 10 (d := ⟨("shape_of", none), "shape_of", "shape_of", defArgs (top 17), defBody (top 17), defScope (top 17), [], []⟩) rfl
  obtain ⟨fd11, F11⟩ := c.def_ 11 (d := ⟨("even_row", none), "even_row", "even_row", defArgs (top 18), defBody (top 18), defScope (top 18), [], []⟩) rfl
  obtain ⟨fd12, F12⟩ := c.def_ 12 (d := ⟨("need_shape", none), "need_shape", "need_shape", defArgs (top 20), defBody (top 20), defScope (top 20), [], []⟩) rfl
  obtain ⟨fd13, F13⟩ := c.def_ 13 (d := ⟨("is_balanced", none), "is_balanced", "is_balanced", defArgs (top 21), defBody (top 21), defScope (top 21), [], []⟩) rfl
  obtain ⟨fd14, F14⟩ := c.def_ 14 (d := ⟨("width_of", none), "width_of", "width_of", defArgs (top 22), defBody (top 22), defScope (top 22), [], []⟩) rfl
  obtain ⟨fd15, F15⟩ := c.def_ 15 (d := ⟨("height_of", none), "height_of", "height_of", defArgs (top 23), defBody (top 23), defScope (top 23), [], []⟩) rfl
  obtain ⟨fd16, F16⟩ := c.def_ 16 (d := ⟨("tallest", none), "tallest", "tallest", defArgs (top 24), defBody (top 24), defScope (top 24), [], []⟩) rfl
  obtain ⟨fd17, F17⟩ := c.def_ 17 (d := ⟨("even_shape", none), "even_shape", "even_shape", defArgs (top 25), defBody (top 25), defScope (top 25), [], []⟩) rfl
  obtain ⟨fd18, F18⟩ := c.def_ 18 (d := ⟨("_law_feed", none), "_law_feed", "_law_feed", defArgs (top 27), defBody (top 27), defScope (top 27), [], []⟩) rfl
  obtain ⟨fd19, F19⟩ := c.def_ 19 (d := ⟨("_law_draw", none), "_law_draw", "_law_draw", defArgs (top 28), defBody (top 28), defScope (top 28), [], []⟩) rfl
  obtain ⟨fd20, F20⟩ := c.def_ 20 (d := ⟨("_law_one", none), "_law_one", "_law_one", defArgs (top 29), defBody (top 29), defScope (top 29), [], []⟩) rfl
  obtain ⟨fd21, F21⟩ := c.def_ 21 (d := ⟨("_law_least", none), "_law_least", "_law_least", defArgs (top 30), defBody (top 30), defScope (top 30), [], []⟩) rfl
  obtain ⟨fd22, F22⟩ := c.def_ 22 (d := ⟨("_law_tallest", none), "_law_tallest", "_law_tallest", defArgs (top 31), defBody (top 31), defScope (top 31), [], []⟩) rfl
  obtain ⟨fd23, F23⟩ := c.def_ 23 (d := ⟨("_law_balanced", none), "_law_balanced", "_law_balanced", defArgs (top 32), defBody (top 32), defScope (top 32), [], []⟩) rfl
  obtain ⟨fd24, F24⟩ := c.def_ 24 (d := ⟨("_law_width", none), "_law_width", "_law_width", defArgs (top 33), defBody (top 33), defScope (top 33), [], []⟩) rfl
  obtain ⟨fd25, F25⟩ := c.def_ 25 (d := ⟨("_law_refused", none), "_law_refused", "_law_refused", defArgs (top 34), defBody (top 34), defScope (top 34), [], []⟩) rfl
  obtain ⟨fd26, F26⟩ := c.def_ 26 (d := ⟨("_law_is_integer", none), "_law_is_integer", "_law_is_integer", defArgs (top 35), defBody (top 35), defScope (top 35), [], []⟩) rfl
  obtain ⟨fd27, F27⟩ := c.def_ 27 (d := ⟨("_law_asked_one", none), "_law_asked_one", "_law_asked_one", defArgs (top 36), defBody (top 36), defScope (top 36), [], []⟩) rfl
  obtain ⟨fd28, F28⟩ := c.def_ 28 (d := ⟨("_law_even", none), "_law_even", "_law_even", defArgs (top 37), defBody (top 37), defScope (top 37), [], []⟩) rfl
  obtain ⟨fd29, F29⟩ := c.def_ 29 (d := ⟨("_law_refused_too", none), "_law_refused_too", "_law_refused_too", defArgs (top 38), defBody (top 38), defScope (top 38), [], []⟩) rfl
  obtain ⟨fd30, F30⟩ := c.def_ 30 (d := ⟨("_law_asked_two", none), "_law_asked_two", "_law_asked_two", defArgs (top 39), defBody (top 39), defScope (top 39), [], []⟩) rfl
  obtain ⟨fd31, F31⟩ := c.def_ 31 (d := ⟨("law", none), "law", "law", defArgs (top 40), defBody (top 40), defScope (top 40), [], []⟩) rfl
  have m0 := m
  obtain ⟨m0a, m0b⟩ := He.ba m0
  obtain ⟨m0b, m0c⟩ := He.ba m0b
  exact {
    g_isinstance := He.free_ok KX G (c.fact 0 (f := .free "isinstance") rfl)
    g_int := He.free_ok KX G (c.fact 1 (f := .free "int") rfl)
    g_bool := He.free_ok KX G (c.fact 2 (f := .free "bool") rfl)
    g_tuple := He.free_ok KX G (c.fact 3 (f := .free "tuple") rfl)
    g_len := He.free_ok KX G (c.fact 4 (f := .free "len") rfl)
    g_max := He.free_ok KX G (c.fact 5 (f := .free "max") rfl)
    g_min := He.free_ok KX G (c.fact 6 (f := .free "min") rfl)
    g_abs := He.free_ok KX G (c.fact 7 (f := .free "abs") rfl)
    g_sum := He.free_ok KX G (c.fact 8 (f := .free "sum") rfl)
    g_range := He.free_ok KX G (c.fact 9 (f := .free "range") rfl)
    g_MOST_NODES := He.int_ok KX G (c.fact 10 (f := .int "MOST_NODES" 20000) rfl)
    g_MOST_HEIGHT := He.int_ok KX G (c.fact 11 (f := .int "MOST_HEIGHT" 40) rfl)
    x_MatchError := ⟨He.glo_ok KX G (c.fact 12 (f := .glo "MatchError") rfl), (He.exc_ok (c.fact 13 (f := .exc "MatchError") rfl)).1, (He.exc_ok (c.fact 13 (f := .exc "MatchError") rfl)).2.1, (He.exc_ok (c.fact 13 (f := .exc "MatchError") rfl)).2.2.1, (He.exc_ok (c.fact 13 (f := .exc "MatchError") rfl)).2.2.2⟩
    x_BadShape := ⟨He.glo_ok KX G (c.fact 14 (f := .glo "BadShape") rfl), (He.exc_ok (c.fact 15 (f := .exc "BadShape") rfl)).1, (He.exc_ok (c.fact 15 (f := .exc "BadShape") rfl)).2.1, (He.exc_ok (c.fact 15 (f := .exc "BadShape") rfl)).2.2.1, (He.exc_ok (c.fact 15 (f := .exc "BadShape") rfl)).2.2.2⟩
    x_BadCount := ⟨He.glo_ok KX G (c.fact 16 (f := .glo "BadCount") rfl), (He.exc_ok (c.fact 17 (f := .exc "BadCount") rfl)).1, (He.exc_ok (c.fact 17 (f := .exc "BadCount") rfl)).2.1, (He.exc_ok (c.fact 17 (f := .exc "BadCount") rfl)).2.2.1, (He.exc_ok (c.fact 17 (f := .exc "BadCount") rfl)).2.2.2⟩
    c_Stem := He.cls_ok (c.fact 19 (f := .cls "Stem") rfl)
    n_Stem_left := He.noat_ok (c.fact 20 (f := .noat "Stem" "left") rfl)
    n_Stem_right := He.noat_ok (c.fact 21 (f := .noat "Stem" "right") rfl)
    n_Stem_width := He.noat_ok (c.fact 22 (f := .noat "Stem" "width") rfl)
    n_Stem_height := He.noat_ok (c.fact 23 (f := .noat "Stem" "height") rfl)
    k_Stem := ⟨He.glo_ok KX G (c.fact 18 (f := .glo "Stem") rfl), _, fd2, _, _, F2, He.mkr_ok (c.fact 24 (f := .mkr "Stem") rfl), F2.bindsN (ps := ["self", "left", "right"]) (fun _ _ _ _ _ _ us hl => match us, hl with | [_, _, _], _ => rfl)⟩
    c_Builder := He.cls_ok (c.fact 26 (f := .cls "Builder") rfl)
    b_Builder := ⟨He.glo_ok KX G (c.fact 25 (f := .glo "Builder") rfl), m0a, He.eqO_ok m0b, m0c⟩
    m_Builder_pair := ⟨_, fd3, _, _, F3, He.meth_ok (c.fact 27 (f := .meth "Builder" "pair") rfl), F3.bindsN (ps := ["self", "left", "right"]) (fun _ _ _ _ _ _ us hl => match us, hl with | [_, _, _], _ => rfl)⟩
    m_Builder_sides := ⟨_, fd4, _, _, F4, He.meth_ok (c.fact 28 (f := .meth "Builder" "sides") rfl), F4.bindsN (ps := ["self", "tree"]) (fun _ _ _ _ _ _ us hl => match us, hl with | [_, _], _ => rfl)⟩
    e_MatchError_BadCount := He.exm_ok (c.fact 29 (f := .exm "MatchError" "BadCount" false) rfl)
    e_BadShape_BadCount := He.exm_ok (c.fact 30 (f := .exm "BadShape" "BadCount" false) rfl)
    e_BadCount_BadCount := He.exm_ok (c.fact 31 (f := .exm "BadCount" "BadCount" true) rfl)
    d_is_integer := ⟨_, fd0, _, _, F0, He.glo_ok KX G (c.fact 32 (f := .glo "is_integer") rfl), F0.bindsN (ps := ["thing"]) (fun _ _ _ _ _ _ us hl => match us, hl with | [_], _ => rfl)⟩
    d_need_count := ⟨_, fd1, _, _, F1, He.glo_ok KX G (c.fact 33 (f := .glo "need_count") rfl), full1 (F1.binds1 (ps := ["thing", "most"]) 2 1 (by intro z; cases z) rfl (fun _ _ _ _ _ _ _ us its h1 h2 => match us, h1, its, h2 with | [_, _], _, [_], _ => ⟨_, rfl, rfl⟩))⟩
    d_tallest_of := ⟨_, fd5, _, _, F5, He.glo_ok KX G (c.fact 34 (f := .glo "tallest_of") rfl), F5.bindsN (ps := ["width"]) (fun _ _ _ _ _ _ us hl => match us, hl with | [_], _ => rfl)⟩
    d_width_in := ⟨_, fd6, _, _, F6, He.glo_ok KX G (c.fact 35 (f := .glo "width_in") rfl), F6.bindsN (ps := ["thing", "most"]) (fun _ _ _ _ _ _ us hl => match us, hl with | [_, _], _ => rfl)⟩
    d_height_in := ⟨_, fd7, _, _, F7, He.glo_ok KX G (c.fact 36 (f := .glo "height_in") rfl), F7.bindsN (ps := ["shape"]) (fun _ _ _ _ _ _ us hl => match us, hl with | [_], _ => rfl)⟩
    d_balanced_height := ⟨_, fd8, _, _, F8, He.glo_ok KX G (c.fact 37 (f := .glo "balanced_height") rfl), F8.bindsN (ps := ["shape"]) (fun _ _ _ _ _ _ us hl => match us, hl with | [_], _ => rfl)⟩
    d_stem_of := ⟨_, fd9, _, _, F9, He.glo_ok KX G (c.fact 38 (f := .glo "stem_of") rfl), F9.bindsN (ps := ["shape"]) (fun _ _ _ _ _ _ us hl => match us, hl with | [_], _ => rfl)⟩
    d_shape_of := ⟨_, fd10, _, _, F10, He.glo_ok KX G (c.fact 39 (f := .glo "shape_of") rfl), F10.bindsN (ps := ["tree"]) (fun _ _ _ _ _ _ us hl => match us, hl with | [_], _ => rfl)⟩
    d_even_row := ⟨_, fd11, _, _, F11, He.glo_ok KX G (c.fact 40 (f := .glo "even_row") rfl), F11.bindsN (ps := ["builder", "members", "begin", "end"]) (fun _ _ _ _ _ _ us hl => match us, hl with | [_, _, _, _], _ => rfl)⟩
    d_need_shape := ⟨_, fd12, _, _, F12, He.glo_ok KX G (c.fact 41 (f := .glo "need_shape") rfl), F12.bindsN (ps := ["shape"]) (fun _ _ _ _ _ _ us hl => match us, hl with | [_], _ => rfl)⟩
    d_is_balanced := ⟨_, fd13, _, _, F13, He.glo_ok KX G (c.fact 42 (f := .glo "is_balanced") rfl), F13.bindsN (ps := ["shape"]) (fun _ _ _ _ _ _ us hl => match us, hl with | [_], _ => rfl)⟩
    d_width_of := ⟨_, fd14, _, _, F14, He.glo_ok KX G (c.fact 43 (f := .glo "width_of") rfl), F14.bindsN (ps := ["shape"]) (fun _ _ _ _ _ _ us hl => match us, hl with | [_], _ => rfl)⟩
    d_height_of := ⟨_, fd15, _, _, F15, He.glo_ok KX G (c.fact 44 (f := .glo "height_of") rfl), F15.bindsN (ps := ["shape"]) (fun _ _ _ _ _ _ us hl => match us, hl with | [_], _ => rfl)⟩
    d_tallest := ⟨_, fd16, _, _, F16, He.glo_ok KX G (c.fact 45 (f := .glo "tallest") rfl), F16.bindsN (ps := ["width"]) (fun _ _ _ _ _ _ us hl => match us, hl with | [_], _ => rfl)⟩
    d_even_shape := ⟨_, fd17, _, _, F17, He.glo_ok KX G (c.fact 46 (f := .glo "even_shape") rfl), F17.bindsN (ps := ["width"]) (fun _ _ _ _ _ _ us hl => match us, hl with | [_], _ => rfl)⟩
    d__law_feed := ⟨_, fd18, _, _, F18, He.glo_ok KX G (c.fact 47 (f := .glo "_law_feed") rfl), F18.bindsN (ps := ["script", "k"]) (fun _ _ _ _ _ _ us hl => match us, hl with | [_, _], _ => rfl)⟩
    d__law_draw := ⟨_, fd19, _, _, F19, He.glo_ok KX G (c.fact 48 (f := .glo "_law_draw") rfl), F19.bindsN (ps := ["feed", "many"]) (fun _ _ _ _ _ _ us hl => match us, hl with | [_, _], _ => rfl)⟩
    d__law_one := ⟨_, fd20, _, _, F20, He.glo_ok KX G (c.fact 49 (f := .glo "_law_one") rfl), F20.bindsN (ps := ["feed", "things"]) (fun _ _ _ _ _ _ us hl => match us, hl with | [_, _], _ => rfl)⟩
    d__law_least := ⟨_, fd21, _, _, F21, He.glo_ok KX G (c.fact 50 (f := .glo "_law_least") rfl), F21.bindsN (ps := ["height"]) (fun _ _ _ _ _ _ us hl => match us, hl with | [_], _ => rfl)⟩
    d__law_tallest := ⟨_, fd22, _, _, F22, He.glo_ok KX G (c.fact 51 (f := .glo "_law_tallest") rfl), F22.bindsN (ps := ["width"]) (fun _ _ _ _ _ _ us hl => match us, hl with | [_], _ => rfl)⟩
    d__law_balanced := ⟨_, fd23, _, _, F23, He.glo_ok KX G (c.fact 52 (f := .glo "_law_balanced") rfl), F23.bindsN (ps := ["feed", "width", "height"]) (fun _ _ _ _ _ _ us hl => match us, hl with | [_, _, _], _ => rfl)⟩
    d__law_width := ⟨_, fd24, _, _, F24, He.glo_ok KX G (c.fact 53 (f := .glo "_law_width") rfl), F24.bindsN (ps := ["feed"]) (fun _ _ _ _ _ _ us hl => match us, hl with | [_], _ => rfl)⟩
    d__law_refused := ⟨_, fd25, _, _, F25, He.glo_ok KX G (c.fact 54 (f := .glo "_law_refused") rfl), F25.bindsN (ps := ["thing"]) (fun _ _ _ _ _ _ us hl => match us, hl with | [_], _ => rfl)⟩
    d__law_is_integer := ⟨_, fd26, _, _, F26, He.glo_ok KX G (c.fact 55 (f := .glo "_law_is_integer") rfl), F26.bindsN (ps := ["found", "due"]) (fun _ _ _ _ _ _ us hl => match us, hl with | [_, _], _ => rfl)⟩
    d__law_asked_one := ⟨_, fd27, _, _, F27, He.glo_ok KX G (c.fact 56 (f := .glo "_law_asked_one") rfl), F27.bindsN (ps := ["script"]) (fun _ _ _ _ _ _ us hl => match us, hl with | [_], _ => rfl)⟩
    d__law_even := ⟨_, fd28, _, _, F28, He.glo_ok KX G (c.fact 57 (f := .glo "_law_even") rfl), F28.bindsN (ps := ["width", "known"]) (fun _ _ _ _ _ _ us hl => match us, hl with | [_, _], _ => rfl)⟩
    d__law_refused_too := ⟨_, fd29, _, _, F29, He.glo_ok KX G (c.fact 58 (f := .glo "_law_refused_too") rfl), F29.bindsN (ps := ["thing"]) (fun _ _ _ _ _ _ us hl => match us, hl with | [_], _ => rfl)⟩
    d__law_asked_two := ⟨_, fd30, _, _, F30, He.glo_ok KX G (c.fact 59 (f := .glo "_law_asked_two") rfl), F30.bindsN (ps := ["script"]) (fun _ _ _ _ _ _ us hl => match us, hl with | [_], _ => rfl)⟩
    d_law := ⟨_, fd31, _, _, F31, He.glo_ok KX G (c.fact 60 (f := .glo "law") rfl), F31.bindsN (ps := ["script"]) (fun _ _ _ _ _ _ us hl => match us, hl with | [_], _ => rfl)⟩
  }
theorem law_def {K : PySem.W.Frag} (c : He.SaysD fa fn K) : ∃ fd, FunD K "law" "law" (defArgs (top 40)) (defBody (top 40)) (defScope (top 40)) [] [] (He.ga K "law") fd := by
  obtain ⟨fd, F⟩ := c.def_ 31 (d := ⟨("law", none), "law", "law", defArgs (top 40), defBody (top 40), defScope (top 40), [], []⟩) rfl
  exact ⟨fd, F⟩
theorem law_glo {K : PySem.W.Frag} {h : Heap} {mg : Str → Option Value} (KX : K.In h) (G : h.Ns mainGlobals mg) (c : He.SaysD fa fn K) : mg "law" = some (.ref (He.ga K "law")) := He.glo_ok KX G (c.fact 60 (f := .glo "law") rfl)
abbrev R : PySem.W.OpenRow := PySem.W.OpenLaw.row PySem.Challenge.rw_lawfulpages_k60_tallest_by_least_widths
abbrev hk : PySem.W.Hook := He.hookX 6 fa fn [] [] exB
def ob (s : PySem.W.SharedT) : He.AlX := He.obsX 6 fa fn [] [] exB (HandSHeadRun.getT s)
theorem ob_eq (s : PySem.W.SharedT) : ob s = hk.obs s.abs := He.obsX_eq (HandSHeadRun.getT_eq s)
theorem run (w : World) : HandSHeadRun.RunEq R (PySem.W.view R.prog [lawAt]) hk ob 6000 names w := by
  intro os
  kernel_rfl
end K60

set_option maxHeartbeats 0
open PySem PySem.W PySem.Calls PyProof.Rows
theorem PySem.Challenge.cw_lawfulpages_k60_tallest_by_least_widths_holds : PySem.Challenge.rw_lawfulpages_k60_tallest_by_least_widths.Holds := by
  w_on; o_law
  refine HandSHeadRun.head_any (r := OpenLaw.row PySem.Challenge.rw_lawfulpages_k60_tallest_by_least_widths) (q := view (OpenLaw.row PySem.Challenge.rw_lawfulpages_k60_tallest_by_least_widths).prog [K60.lawAt]) (H := K60.hk) (ob := K60.ob) (M := 6000) (loose := K60.names)
    (d := HandSHeadRun.topDef (OpenLaw.row PySem.Challenge.rw_lawfulpages_k60_tallest_by_least_widths).prog K60.lawAt) (kwd := []) K60.ob_eq
    (by kernel_rfl) (fun s => by kernel_rfl) K60.run (by kernel_rfl) (by kernel_rfl) (by kernel_rfl) (by rfl) (by first | assumption | decide +kernel) (by decide +kernel) ⟨rfl, rfl, rfl, rfl, rfl, by decide +kernel⟩ ?hw ?hc
  case hw => w_witness2
  case hc =>
    refine KB.walk_ofEB (l := PySem.Challenge.rw_lawfulpages_k60_tallest_by_least_widths) (n := 63) (k := 45) (x := "script") rfl (by decide) (by kernel_rfl) ⟨rfl, by decide, by decide⟩ ?F
    intro w mg fa h Y G hmg0
    obtain ⟨K, KX, c⟩ := Y
    have hmg : mg ("law" : PySem.Str) = some (.ref fa) := by
      have e : (HandSHeadRun.topDef (OpenLaw.row PySem.Challenge.rw_lawfulpages_k60_tallest_by_least_widths).prog K60.lawAt).name = ("law" : PySem.Str) := by kernel_rfl
      rw [← e]
      exact hmg0
    have cd := c.t.d
    have T := K60.txt_of KX G cd c.more
    obtain ⟨fd, F⟩ := K60.law_def cd
    have e := hmg.symm.trans (K60.law_glo KX G cd)
    cases e
    refine ⟨K, fd, K60.spLaw K, KX, ?_, fun H a ns hl hb _ hS => ⟨a, ns, rfl, hS, hb, hl, fun _ => rfl⟩, fun base _ _ => ?_⟩
    · have b := L2.FunD.bindsA (ps := ["script"]) F fun _ _ _ _ _ _ us hl => match us, hl with | [_], _ => rfl
      exact fun s v => b s [v] rfl
    · exact KB.fn_body F K60.sc_law (fun vs H Q E h => by obtain ⟨_, _, rfl, _⟩ := h; rfl) (K60.b_law T (K60.c_asked_one T) (K60.c_asked_two T))
#print axioms PySem.Challenge.cw_lawfulpages_k60_tallest_by_least_widths_holds
end
