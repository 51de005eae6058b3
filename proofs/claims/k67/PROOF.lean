import PyProof.Rows.All
import Wide.All
import OpenK.AllK
import Wide.FinOn
import KE.KStateDown
import HandS.ForExc
import HandS.Dict
import HandS.WordsDict
import HandS.Defaults
import HandS.IsInst
import HandS.Style
import HandS.Wide
import HandS.WideBits
import HandS.EndBits
import HandS.Head0
import HandS.Head1
import HandS.Head2
import HandS.HeadEnd
import HandS.HeadHook1
import HandS.HeadHook2
import HandS.Steps
import HandS.Evl
import HandS.Iter
import HandS.SortKw
import KE.GoesEnum
import KE.DataMinMax
import HandS.NoneIn
import HandS.TupAny
import HandS.TryMany
import HandS.RevRange
import HandS.Zip
import HandS.Conv
import HandS.DictTup
import HandS.SortRule
import HandS.Replace
import HandS.Text
import PyProof.ReprRoads
import PyProof.ListStr
import HandS.HeadHook4
import PySem.Challenge.RW_lawfulpages_k67_whole_row_ways_by_laying
set_option Elab.async false
set_option linter.all false
set_option maxRecDepth 100000
set_option maxHeartbeats 4000000
namespace KB
open PySem PySem.Spec PyProof.Rows L2

/-! calls of the text's own defs, told by their names -/
structure Cal (P : Program) (w : World) (K : PySem.W.Frag) (mg : Str → Option Value) (base : Heap) (k : Nat) (x : Str) (sp : Sp) : Prop where
  ex : ∃ (f : Addr) (fd : FuncData) (ps : List Str), mg x = some (.ref f) ∧ PySem.W.keepIn K (.ref f) = true ∧ Binds K fd ps [] ∧
    FnOk P w K mg base (L2.CX P w) k f fd ps sp
structure Met (P : Program) (w : World) (K : PySem.W.Frag) (mg : Str → Option Value) (base : Heap) (k : Nat) (C : Addr) (m : Str) (sp : Sp) : Prop where
  cl : Cls K C
  ex : ∃ (f : Addr) (fd : FuncData) (ps : List Str), Meth K C m f ∧ Binds K fd ps [] ∧ FnOk P w K mg base (L2.CX P w) k f fd ps sp
structure Mak (P : Program) (w : World) (K : PySem.W.Frag) (mg : Str → Option Value) (base : Heap) (k : Nat) (x : Str) (C : Addr) (sp : Sp) : Prop where
  at_ : mg x = some (.ref C)
  ex : ∃ (f : Addr) (fd : FuncData) (ps : List Str), Mk K C f ∧ Binds K fd ps [] ∧ FnOk P w K mg base (L2.CX P w) k f fd ps sp

section
variable {X : Cx} {k j : Nat} {x m : Str} {sp : Sp} {W : WX} {p pos apos : Pos} {e o : Expr} {es : List Expr} {t : TA} {ta : TE} {C : Addr}
theorem pe_cal (c : Cal X.prog X.w X.K X.mg X.base k x sp) (hr : Room j X.A) (hk : k ≤ j) (tk : Takes X W) (ha : PA X (e :: es) t) (hg : Gl X x := by rfl)
    (hdb : (x == ("__debug__" : Str)) = false := by decide) (he : starEach (e :: es) X.env = (false, eval e X.env) :: starEach es X.env := by rfl)
    (hpl : (backTo pos (starEach es X.env)).any (·.1) = false := by rfl) :
    PE X (.Call (.Name x p) (e :: es) [] pos) (tCallS sp (WE W) t) := by
  obtain ⟨f, fd, ps, hm, hkp, hb, F⟩ := c.ex
  exact pe_callS F (hr.mono hk) hg hm hkp hb (fun σ => passAt tk σ) ha hdb he hpl
/-- how a method's call is read: the parts by computation -/
structure MF (X : Cx) (o : Expr) (m : Str) (apos : Pos) (e : Expr) (es : List Expr) (pos : Pos) (pl : Sem Bool) : Prop where
  h1 : starEach (e :: es) X.env =
    (false, eval e X.env) :: starEach es X.env
  h2 : (backTo pos (starEach es X.env)).any
    (·.1) = false
  h3 : eval (.Call (.Attribute o m apos) (e :: es) [] pos) X.env =
    eval o X.env >>= fun ov => standAt apos.atName >>= fun _ => holding [ov] (getMethod ov m pl) >>= fun r =>
      callWith pos r.1 r.2 (backTo pos (starEach (e :: es) X.env))
        (backToKw pos (keywordEach [] X.env))
theorem pe_met {pl : Sem Bool} (c : Met X.prog X.w X.K X.mg X.base k C m sp) (hr : Room j X.A) (hk : k ≤ j) (ho : PE X o ta) (ha : PA X (e :: es) t)
    (M : MF X o m apos e es pos pl := by exact ⟨by rfl, by rfl, by rfl⟩) : PE X (.Call (.Attribute o m apos) (e :: es) [] pos) (tMeth C m sp [] E0 ta t) := by
  obtain ⟨f, fd, ps, hm, hb, F⟩ := c.ex
  exact pe_meth ho c.cl hm F (hr.mono hk) hb .nil passL ha M.h1 M.h2 M.h3
theorem pe_mak (c : Mak X.prog X.w X.K X.mg X.base k x C sp) (hr : Room j X.A) (hk : k + 1 ≤ j) (ha : PA X (e :: es) t) (hg : Gl X x := by rfl)
    (hdb : (x == ("__debug__" : Str)) = false := by decide) (he : starEach (e :: es) X.env = (false, eval e X.env) :: starEach es X.env := by rfl)
    (hpl : (backTo pos (starEach es X.env)).any (·.1) = false := by rfl) :
    PE X (.Call (.Name x p) (e :: es) [] pos) (tMake C sp [] E0 t) := by
  obtain ⟨f, fd, ps, hm, hb, F⟩ := c.ex
  exact pe_make hm F (hr.mono hk) hg c.at_ hb .nil passL ha hdb he hpl
end

/-! a class of the text without an __init__ -/
structure Bare (K : PySem.W.Frag) (mg : Str → Option Value) (x : Str) (C : Addr) : Prop where
  at_ : mg x = some (.ref C)
  makes : PySem.W.makesIn K C = true
  ini : PySem.W.findIn K (.ref C) "__init__" = some (some (.builtin "object.__init__"))
  kp : PySem.W.keepIn K (.ref C) = true
def tBare (C : Addr) : TE := fun _ H Q => ∀ x dx, H x = none → H dx = none → dx ≠ x → Q (.ref x) (upd (upd H dx (.own x)) x (.ins C dx []))
theorem pe_bare {X : Cx} {x : Str} {C : Addr} {p pos : Pos} (b : Bare X.K X.mg x C) (hg : Gl X x := by rfl) (hdb : (x == ("__debug__" : Str)) = false := by decide) : PE X (.Call (.Name x p) [] [] pos) (tBare C) := by
  refine ⟨fun pins s σ H Q I h => ?_⟩
  refine wpAny_Call_Name_kw (ld_glob I hg b.at_ ?_ hdb)
  refine PySem.W.callWith_K0 I.kIn b.kp ?_
  have I2 := Inv.made (C := C) I
  have hq := h (s.heap.objs.size + 1) s.heap.objs.size (I.hok.fresh (Nat.le_succ _)) (I.hok.fresh (Nat.le_refl _)) (Nat.ne_of_lt (Nat.lt_succ_self _))
  have kin := I.kIn
  have Y := PySem.W.makes_of (M := model X.prog X.w) I2.kIn b.makes
  refine wpAny_call ?_
  obtain ⟨hh, g, d, t, os⟩ := s
  refine PySem.W.make_core (PySem.W.makes_of kin b.makes) (PySem.W.looks_findIn kin b.ini) (fun self => PySem.W.Looks.of_pure (PySem.W.oi_bind self)) (.inr ⟨rfl, rfl⟩) ?_
  have e2 : ((hh.push PySem.W.emptyDict).push (PySem.W.instObj C hh.objs.size)).get? (hh.objs.size + 1) = some (PySem.W.instObj C hh.objs.size) := by
    have z := Heap.get?_push_size (hh.push PySem.W.emptyDict) (o := PySem.W.instObj C hh.objs.size) rfl
    rwa [Heap.size_push] at z
  have l1 : PySem.W.Looks (model X.prog X.w) ((hh.push PySem.W.emptyDict).push (PySem.W.instObj C hh.objs.size)) (typeOf (.ref (hh.objs.size + 1))) (.ref C) :=
    (PySem.W.Looks.ld e2).andThen .now
  refine codeAny_call_builtin PySem.W.oi_plain PySem.W.entry_oi ?_
  show wpAny _ _ (checkBuiltinCall "object.__init__" ⟨[.ref (hh.objs.size + 1)], []⟩) _ _ _
  refine PySem.W.check_slot (i := "object.__init__") (owner := "object") (n := "__init__") (self := .ref (hh.objs.size + 1)) (rest := []) (kw := []) PySem.W.oi_kind PySem.W.oi_split (l1.andThen Y.top) (PySem.W.oi_args _) ?_
  show wpAny _ _ (Builtin.«object.__init__» ⟨[.ref (hh.objs.size + 1)], []⟩) _ _ _
  rw [PySem.W.oi_run]
  refine wpAny_pure ⟨rfl, ?_⟩
  exact ⟨.ref (hh.objs.size + 1), _, I2, rfl, hq⟩

/-! a def of the text by the head's facts -/
section
variable {P : Program} {w : World} {K : PySem.W.Frag} {mg : Str → Option Value} {base : Heap}
/-- its body keeps the promise: what is to be shown of it -/
def Body (P : Program) (w : World) (K : PySem.W.Frag) (mg : Str → Option Value) (base : Heap) (k : Nat) (N : List Str) (qual : Str) (sc : Scope) (body : List Stmt) (sp : Sp) : Prop :=
  ∀ (f : Addr) (cdv : Value) (A : Around) (outer : List Env) (s : Shared) (H : Hp) (vs : List V) (Q : VK) (E : XK), Room k (A.deeper (envOfC qual sc s.heap.objs.size f cdv)) → sp vs H Q E →
    ∃ t, PSs (cxOf (L2.CX P w) P w K mg base N qual sc f cdv A outer s H E) body t ∧ t { nx := fun _ H' => Q .non H', rt := Q } (start N vs) H
theorem fn_body {x qual : Str} {params : Arguments} {body : List Stmt} {sc : Scope} {dvs : List V} {kws : List (Str × V)} {f : Addr} {fd : FuncData} {N ps : List Str} {k : Nat} {sp : Sp}
    (F : FunD K x qual params body sc dvs kws f fd) (S : FnScope N ps sc) (len : ∀ vs H Q E, sp vs H Q E → vs.length = ps.length) (B : Body P w K mg base k N qual sc body sp) :
    FnOk P w K mg base (L2.CX P w) (k + 1) f fd ps sp := F.ok S len fun cdv A outer s H vs Q E hr h => B f cdv A outer s H vs Q E hr h
/-- a parameter list without defaults binds -/
def Plain (ps : List Str) (x qual : Str) (params : Arguments) (body : List Stmt) (sc : Scope) : Prop :=
  ∀ (kV doc pm : Value) (an : Option Addr) (cdv ct : Value) (us : List Value), us.length = ps.length → bindArgs (PySem.W.fnOf x qual params body sc .none kV doc pm an cdv ct) ⟨us, []⟩ = pure (ps.zip us)
end

/-! the end -/
theorem walk_ofEB {l : PySem.W.OpenLaw} {n k : Nat} {q : Program} {loose : List Str} {XP : (Str → Option Value) → Heap → Prop} {YP : World → Heap → Prop} {d : DefRec} {x : Str}
    (hn : l.most = some n) (hn2 : n ≤ sizeLine) (hdf : d.params.defaults = []) (hr : Room k callerA)
    (F : ∀ (w : World) (mg : Str → Option Value) (fa : Addr) (h : Heap), YP w h → h.Ns mainGlobals mg → mg d.name = some (.ref fa) →
      ∃ (K : PySem.W.Frag) (fd : FuncData) (sp : Sp), K.In h ∧ (∀ (s : Shared) (u : Value), BindsTo s fd ⟨[u], []⟩ [(x, u)]) ∧
        (∀ (H : Hp) (a : Addr) (ns : List Int), ns.length ≤ n → (∀ z ∈ ns, Builtin.Int.intBits z ≤ 1048576) → Only H → SqL K H a (ns.map V.int) → sp [.ref a] H (fun v _ => v = .bl true) fun _ _ _ => False) ∧
        ∀ base : Heap, K.In base → base.Ns mainGlobals mg → FnOk l.prog w K mg base (L2.CX l.prog w) k fa fd [x] sp) :
    PySem.W.WalkO q loose XP YP l.row.toRowW d [] (fun f vs => PySem.call f vs) := by
  refine Att.attach_callB hn hdf ?_
  intro w s₀ s₁ mg mb fa o pm cd doc a vs ns G Y ho hd hcd hmg hobj hints hlen hbits hg
  obtain ⟨K, fd, sp, KX, hb, hsp, hF⟩ := F w mg fa _ Y G.T.g hmg
  refine law_call KX G.T.g G.T.b G.T.builtins G.T.nolimit hg hobj hints (Nat.le_trans hlen hn2) hr hF hb (fun H hO hS => hsp H a ns hlen hbits hO hS) ?_
  intro H e s' z
  obtain ⟨_, _, _, _, _, _, _, _, _, _, _, _, y⟩ := z
  exact y

/-! values' types, for isinstance with a built-in class -/
def tyN (H : Hp) : V → Option String
  | .non => some "NoneType"
  | .bl _ => some "bool"
  | .int _ => some "int"
  | .str _ => some "str"
  | .ref a => match H a with
    | some (.lst _) => some "list"
    | some (.tup _) => some "tuple"
    | some (.dK _) => some "dict"
    | some (.dT _) => some "dict"
    | some (.frz _ (.lst _)) => some "list"
    | _ => none
  | _ => none
theorem tyN_ok {K : PySem.W.Frag} {H : Hp} {x : V} {n : String} (h : tyN H x = some n) : TyX K H x (.type n) := by
  cases x with
  | non => cases h; exact .base .non
  | bl b => cases h; exact .base (.bl b)
  | int i => cases h; exact .base (.int i)
  | str x => cases h; exact .base (.str x)
  | ref a =>
    have h1 : (match H a with
      | some (.lst _) => some "list"
      | some (.tup _) => some "tuple"
      | some (.dK _) => some "dict"
      | some (.dT _) => some "dict"
      | some (.frz _ (.lst _)) => some "list"
      | _ => none) = some n := h
    split at h1
    · rename_i e; cases h1; exact .base (.lst e)
    · rename_i e; cases h1; exact .base (.tup e)
    · rename_i e; cases h1; exact .base (.dK e)
    · rename_i e; cases h1; exact .base (.dT e)
    · rename_i e; cases h1; exact .base (.frz e)
    · cases h1
  | _ => cases h
def rIsN1 : List V → Hp → VK → Prop := fun xs H Q => ∃ (x : V) (T n : String) (b : Bool), xs = [x, .ty T] ∧ tyN H x = some n ∧ kitB n T = some b ∧ Q (.bl b) H
theorem call_isN1 {X : Cx} : CallR X (.builtin "isinstance") rIsN1 := by
  intro pins s σ H xs us Q I r h
  obtain ⟨x, T, n, b, e, h1, h2, q⟩ := h
  exact call_isi pins s σ H xs us Q I r ⟨x, .ty T, .type n, .type T, b, e, .ty T, tyN_ok h1, kit_ty h2, q⟩
/-- a constant of the module that is an int -/
theorem pe_gint {X : Cx} {x : Str} {i : Int} {pos : Pos} (hm : ∃ t, X.mg x = some (.int i t)) (hg : Gl X x := by rfl) (hd : (x == ("__debug__" : Str)) = false := by decide) : PE X (.Name x pos) (tC (.int i)) := by
  obtain ⟨t, hm⟩ := hm
  exact pe_glob hg hm ⟨t, rfl⟩ hd
/-- an own exception class over ValueError -/
structure ExcC (K : PySem.W.Frag) (mg : Str → Option Value) (x : Str) (C : Addr) : Prop where
  at_ : mg x = some (.ref C)
  ex : PySem.W.excIn K C He.veBase "ValueError.__new__" = true
  kp : PySem.W.keepIn K (.ref C) = true
  sub : PySem.W.subIn K (.ref C) (.type "BaseException") = some true
  ty : PySem.W.typeIn K (.ref C) = some (.type "type")
theorem ps_raiseX {X : Cx} {W : WX} {x m : Str} {C : Addr} {j : Nat} {p p2 pos pos' : Pos} (c : ExcC X.K X.mg x C) (tk : Takes X W) (hc : X.calm = true := by rfl) (hg : Gl X x := by rfl) (hdb : (x == ("__debug__" : Str)) = false := by decide) :
    PS X (.Raise (some (.Call (.Name x p) [.Constant (.str m) j p2] [] pos)) none pos') (fun _ σ H => W (.ref C) none σ H) :=
  ps_raise hc tk (pmk_own PySem.F.excBase_ValueError c.ex c.at_ c.kp (raises_own c.sub c.ty) hg hdb)
theorem pe_ty {X : Cx} {x : Str} {pos : Pos} (n : String) (hm : X.mg x = none) (hv : bootBuiltins x = some (.type n) := by decide +kernel) (hg : Gl X x := by rfl) (hn : x ≠ "__name__" := by decide) (hd : (x == ("__debug__" : Str)) = false := by decide) :
    PE X (.Name x pos) (tC (.ty n)) := pe_bltn hg hm hv rfl hn hd

/-! defs as they stand behind the top; a call's promise by the body's -/
structure DefT (K : PySem.W.Frag) (mg : Str → Option Value) (x : Str) (st : Stmt) (ps : List Str) : Prop where
  ex : ∃ (f : Addr) (fd : FuncData) (dvs : List V) (kws : List (Str × V)), FunD K x x (defArgs st) (defBody st) (defScope st) dvs kws f fd ∧ mg x = some (.ref f) ∧ Binds K fd ps []
structure MetT (K : PySem.W.Frag) (C : Addr) (m qual : Str) (st : Stmt) (ps : List Str) : Prop where
  ex : ∃ (f : Addr) (fd : FuncData) (dvs : List V) (kws : List (Str × V)), FunD K m qual (defArgs st) (defBody st) (defScope st) dvs kws f fd ∧ Meth K C m f ∧ Binds K fd ps []
structure MakT (K : PySem.W.Frag) (mg : Str → Option Value) (x : Str) (C : Addr) (qual : Str) (st : Stmt) (ps : List Str) : Prop where
  at_ : mg x = some (.ref C)
  ex : ∃ (f : Addr) (fd : FuncData) (dvs : List V) (kws : List (Str × V)), FunD K "__init__" qual (defArgs st) (defBody st) (defScope st) dvs kws f fd ∧ Mk K C f ∧ Binds K fd ps []
def spNo : Sp := fun _ _ _ _ => False
def spPre (sp : Nat → Sp) : Nat → Sp
  | 0 => spNo
  | n + 1 => sp n
section
variable {P : Program} {w : World} {K : PySem.W.Frag} {mg : Str → Option Value} {base : Heap} {x m qual : Str} {C : Addr} {st : Stmt} {ps N : List Str} {k : Nat}
theorem DefT.cal {sp : Sp} (d : DefT K mg x st ps) (S : FnScope N ps (defScope st)) (len : ∀ vs H Q E, sp vs H Q E → vs.length = ps.length)
    (B : Body P w K mg base k N x (defScope st) (defBody st) sp) : Cal P w K mg base (k + 1) x sp := by
  obtain ⟨f, fd, dvs, kws, F, h1, h2⟩ := d.ex
  exact ⟨f, fd, ps, h1, F.kp, h2, fn_body F S len B⟩
theorem DefT.no (d : DefT K mg x st ps) : Cal P w K mg base k x spNo := by
  obtain ⟨f, fd, dvs, kws, F, h1, h2⟩ := d.ex
  exact ⟨f, fd, ps, h1, F.kp, h2, ⟨fun _ _ _ _ z => z.elim, fun _ _ _ _ _ _ _ _ _ _ _ _ _ z => z.elim⟩⟩
theorem MetT.met {sp : Sp} (d : MetT K C m qual st ps) (c : Cls K C) (S : FnScope N ps (defScope st)) (len : ∀ vs H Q E, sp vs H Q E → vs.length = ps.length)
    (B : Body P w K mg base k N qual (defScope st) (defBody st) sp) : Met P w K mg base (k + 1) C m sp := by
  obtain ⟨f, fd, dvs, kws, F, h1, h2⟩ := d.ex
  exact ⟨c, f, fd, ps, h1, h2, fn_body F S len B⟩
theorem MakT.mak {sp : Sp} (d : MakT K mg x C qual st ps) (S : FnScope N ps (defScope st)) (len : ∀ vs H Q E, sp vs H Q E → vs.length = ps.length)
    (B : Body P w K mg base k N qual (defScope st) (defBody st) sp) : Mak P w K mg base (k + 1) x C sp := by
  obtain ⟨f, fd, dvs, kws, F, h1, h2⟩ := d.ex
  exact ⟨d.at_, f, fd, ps, h1, h2, fn_body F S len B⟩
theorem Cal.mono {sp : Sp} {j : Nat} (c : Cal P w K mg base j x sp) (h : j ≤ k) : Cal P w K mg base k x sp := by
  obtain ⟨f, fd, ps, h1, h2, h3, F⟩ := c.ex
  exact ⟨f, fd, ps, h1, h2, h3, F.mono h⟩
theorem Cal.imp {sp sp' : Sp} (c : Cal P w K mg base k x sp) (h : ∀ vs H Q E, sp' vs H Q E → sp vs H Q E) : Cal P w K mg base k x sp' := by
  obtain ⟨f, fd, ps, h1, h2, h3, F⟩ := c.ex
  exact ⟨f, fd, ps, h1, h2, h3, F.imp h⟩
/-- a def that calls itself: by the promise of one less deep; c: what else it calls -/
theorem DefT.rec_ {sp : Nat → Sp} (d : DefT K mg x st ps) (S : FnScope N ps (defScope st)) (c : Nat) (len : ∀ n vs H Q E, sp n vs H Q E → vs.length = ps.length)
    (B : ∀ n, Cal P w K mg base (n + c) x (spPre sp n) → Body P w K mg base (n + c) N x (defScope st) (defBody st) (sp n)) : ∀ n, Cal P w K mg base (n + c + 1) x (sp n) := by
  intro n
  induction n with
  | zero => exact d.cal S (len 0) (B 0 (d.no (k := 0 + c)))
  | succ n ih => exact d.cal S (len (n + 1)) (B (n + 1) (ih.mono (by omega)))
/-- how a def's parameters are bound, from its row -/
theorem defT_of {d : He.DefD} {fd : FuncData} (hx : d.name = x) (hq : d.qual = x) (ha : d.params = defArgs st) (hb : d.body = defBody st) (hs : d.scope = defScope st) (h0 : d.dfl = []) (h1 : d.kwd = [])
    (F : FunD K d.name d.qual d.params d.body d.scope (d.dvs K) (d.kws K) (He.fAd K d.at_) fd) (hm : mg x = some (.ref (He.fAd K d.at_)))
    (pl : Plain ps x x (defArgs st) (defBody st) (defScope st)) : DefT K mg x st ps := by
  rw [hx, hq, ha, hb, hs] at F
  have e1 : d.dvs K = [] := by unfold He.DefD.dvs; rw [h0]; rfl
  have e2 : d.kws K = [] := by unfold He.DefD.kws; rw [h1]; rfl
  rw [e1, e2] at F
  exact ⟨_, _, [], [], F, hm, F.bindsN pl⟩
end
end KB

set_option maxHeartbeats 4000000
/-! readings, one step at a time -/
namespace KB
open PySem PySem.Spec PyProof.Rows L2

theorem Same.new {H : Hp} {p : Addr} {o : HO} (h : H p = none) : Same H (upd H p o) := fun b u e => by rw [upd_ne (ne_of_none e h)]; exact e
theorem Same.upd {H H' : Hp} {p : Addr} {o : HO} (s : Same H H') (h : H p = none) : Same H (upd H' p o) := fun b u e => by rw [upd_ne (ne_of_none e h)]; exact s b u e

/-! named readings of rules that have none -/
def rLenK (K : PySem.W.Frag) : List V → Hp → VK → Prop := fun xs H Q => ∃ x n, xs = [x] ∧ LenV K x H n ∧ Q (.int n) H
theorem call_lenK {X : Cx} : CallR X (.builtin "len") (rLenK X.K) := call_len
def rMax2 : List V → Hp → VK → Prop := fun xs H Q => ∃ i j, xs = [.int i, .int j] ∧ Q (.int (if j > i then j else i)) H
theorem call_max2K {X : Cx} (hc : X.calm = true) : CallR X (.builtin "max") rMax2 := call_max2 hc
def rMin2 : List V → Hp → VK → Prop := fun xs H Q => ∃ i j, xs = [.int i, .int j] ∧ Q (.int (if j < i then j else i)) H
theorem call_min2K {X : Cx} (hc : X.calm = true) : CallR X (.builtin "min") rMin2 := call_min2 hc
def rAbs : List V → Hp → VK → Prop := fun xs H Q => ∃ i, xs = [.int i] ∧ Q (.int (if i < 0 then -i else i)) H
theorem call_absK {X : Cx} : CallR X (.builtin "abs") rAbs := call_abs
def rInt1 : List V → Hp → VK → Prop := fun xs H Q => (∃ i, xs = [.int i] ∧ Q (.int i) H) ∨ ∃ k, xs = [.bl k] ∧ Q (.int (if k then 1 else 0)) H
theorem call_int1K {X : Cx} : CallR X (.type "int") rInt1 := call_int1

section
variable {σ : L2.St} {H : Hp} {Q : VK} {D : Ends} {v x y : V} {i j : Nat} {te ta tb tc tv : TE} {t u : TS} {tt tu : TT} {tr : TA} {K : PySem.W.Frag} {r r' : R2}
  {QB : Bool → Hp → Prop} {QA : List V → Hp → Prop} {g : TG} {a C dx p : Addr} {fs : List (Str × V)} {f m : Str} {xs vs : List V} {n k : Int} {b c : Bool}
theorem i_var (h : σ[i]? = some (some v)) (q : Q v H) : tVar i σ H Q := ⟨v, h, q⟩
theorem i_c (q : Q v H) : tC v σ H Q := q
theorem i_op (q : ta σ H fun x H1 => tb σ H1 fun y H2 => r x y H2 Q) : tOp r ta tb σ H Q := q
theorem i_un {ru : V → Hp → VK → Prop} (q : ta σ H fun x H1 => ru x H1 Q) : tUn ru ta σ H Q := q
theorem i_rI0 {gg : Int → Int → V} (q : Q (gg n k) H) : rI0 gg (.int n) (.int k) H Q := ⟨n, k, rfl, rfl, q⟩
theorem i_rI {P : Int → Int → Prop} {gg : Int → Int → V} (hc : P n k) (q : Q (gg n k) H) : rI P gg (.int n) (.int k) H Q := ⟨n, k, rfl, rfl, hc, q⟩
theorem i_rU {gg : Int → V} (q : Q (gg n) H) : rU gg (.int n) H Q := ⟨n, rfl, q⟩
theorem i_eqI (q : Q (.bl (decide (n = k))) H) : rEq (.int n) (.int k) H Q := ⟨rfl, by
  have e : decide (V.int n = V.int k) = decide (n = k) := by rw [dec_int, Bool.beq_eq_decide_eq]
  rw [e]; exact q⟩
theorem i_neI (q : Q (.bl (!decide (n = k))) H) : rNe (.int n) (.int k) H Q := ⟨rfl, by
  have e : decide (V.int n = V.int k) = decide (n = k) := by rw [dec_int, Bool.beq_eq_decide_eq]
  rw [e]; exact q⟩
theorem i_isN0 (q : Q (.bl true) H) : rIsN .non .non H Q := ⟨rfl, by simpa using q⟩
theorem i_isNr (q : Q (.bl false) H) : rIsN (.ref a) .non H Q := ⟨rfl, by simpa using q⟩
theorem i_isNi (q : Q (.bl false) H) : rIsN (.int n) .non H Q := ⟨rfl, by simpa using q⟩
theorem i_isNb (q : Q (.bl false) H) : rIsN (.bl b) .non H Q := ⟨rfl, by simpa using q⟩
theorem i_notN0 (q : Q (.bl false) H) : rNotN .non .non H Q := ⟨rfl, by simpa using q⟩
theorem i_notNr (q : Q (.bl true) H) : rNotN (.ref a) .non H Q := ⟨rfl, by simpa using q⟩
theorem i_notNi (q : Q (.bl true) H) : rNotN (.int n) .non H Q := ⟨rfl, by simpa using q⟩
theorem i_isB (q : Q (.bl (decide (b = c))) H) : rIsB (.bl b) (.bl c) H Q := ⟨b, c, rfl, rfl, q⟩
theorem i_notB (q : Q (.bl (!decide (b = c))) H) : rNotB (.bl b) (.bl c) H Q := ⟨b, c, rfl, rfl, q⟩
theorem i_test (q : te σ H fun x H' => ∃ k, x = .bl k ∧ QB k H') : tTest te σ H QB := q
theorem i_B (q : te σ H fun x H' => ∃ k, x = .bl k ∧ QB k H') : tB te σ H QB := q
theorem i_bl {R : Bool → Prop} (h : R b) : ∃ k, V.bl b = V.bl k ∧ R k := ⟨b, rfl, h⟩
theorem i_and (q : tt σ H fun c H1 => if c = true then tu σ H1 QB else QB false H1) : tAnd tt tu σ H QB := q
theorem i_or (q : tt σ H fun c H1 => if c = true then QB true H1 else tu σ H1 QB) : tOr tt tu σ H QB := q
theorem i_not (q : tt σ H fun c H1 => QB (!c) H1) : tNot tt σ H QB := q
theorem i_andV (q : ta σ H fun x H1 => ∃ k, x = .bl k ∧ if k = true then tb σ H1 Q else Q (.bl false) H1) : tAndV ta tb σ H Q := q
theorem i_orV (q : ta σ H fun x H1 => ∃ k, x = .bl k ∧ if k = true then Q (.bl true) H1 else tb σ H1 Q) : tOrV ta tb σ H Q := q
theorem i_notV (q : ta σ H fun x H1 => ∃ k, x = .bl k ∧ Q (.bl (!k)) H1) : tNotV ta σ H Q := q
theorem i_if (q : tt σ H fun c H1 => if c = true then ta σ H1 Q else tb σ H1 Q) : tIf tt ta tb σ H Q := q
theorem i_nil (q : QA [] H) : tNil σ H QA := q
theorem i_cons (q : te σ H fun x H1 => tr σ H1 fun xs H2 => QA (x :: xs) H2) : tCons te tr σ H QA := q
theorem i_tup (q : tr σ H fun xs H1 => xs.length ≤ sizeLine ∧ ∀ p, H1 p = none → Q (.ref p) (upd H1 p (.tup xs))) : tTup tr σ H Q := q
theorem i_lst (q : tr σ H fun xs H1 => xs.length ≤ sizeLine ∧ ∀ p, H1 p = none → Q (.ref p) (upd H1 p (.lst xs))) : tLst tr σ H Q := q
theorem i_call {sp : Sp} {E : L2.St → XK} (q : tr σ H fun vs H1 => sp vs H1 Q (E σ)) : tCallS sp E tr σ H Q := q
theorem i_CB {rr : List V → Hp → VK → Prop} (q : tr σ H fun vs H1 => rr vs H1 Q) : tCB rr tr σ H Q := q
theorem i_lenL (h : SqL K H p xs) (q : Q (.int (xs.length : Nat)) H) : rLenK K [.ref p] H Q := ⟨_, _, rfl, .inl ⟨_, h, rfl⟩, q⟩
theorem i_lenT (h : SqT K H p xs) (q : Q (.int (xs.length : Nat)) H) : rLenK K [.ref p] H Q := ⟨_, _, rfl, .inr ⟨_, h, rfl⟩, q⟩
theorem i_max2 (q : Q (.int (max n k)) H) : rMax2 [.int n, .int k] H Q := ⟨n, k, rfl, by
  have e : (if k > n then k else n) = max n k := by omega
  rw [e]; exact q⟩
theorem i_min2 (q : Q (.int (min n k)) H) : rMin2 [.int n, .int k] H Q := ⟨n, k, rfl, by
  have e : (if k < n then k else n) = min n k := by omega
  rw [e]; exact q⟩
theorem i_abs (q : Q (.int (if n < 0 then -n else n)) H) : rAbs [.int n] H Q := ⟨n, rfl, q⟩
theorem i_int1 (q : Q (.int n) H) : rInt1 [.int n] H Q := .inl ⟨n, rfl, q⟩
theorem i_inst {T nn : String} (h1 : tyN H x = some nn) (h2 : kitB nn T = some b) (q : Q (.bl b) H) : rIsN1 [x, .ty T] H Q := ⟨x, T, nn, b, rfl, h1, h2, q⟩
theorem i_ixL (h : SqL K H p xs) (ha : atI xs n = some v) (q : Q v H) : rIxL K (.ref p) (.int n) H Q := ⟨p, xs, n, v, rfl, rfl, h, ha, q⟩
theorem i_ixT (h : SqT K H p xs) (ha : atI xs n = some v) (q : Q v H) : rIxT K (.ref p) (.int n) H Q := ⟨p, xs, n, v, rfl, rfl, h, ha, q⟩
theorem i_ixSL (h : SqL K H p xs) (ha : atI xs n = some v) (q : Q v H) : rIx K (.ref p) (.int n) H Q := .inl ⟨p, xs, n, v, rfl, rfl, h, ha, q⟩
theorem i_ixST (h : SqT K H p xs) (ha : atI xs n = some v) (q : Q v H) : rIx K (.ref p) (.int n) H Q := .inr (.inl ⟨p, xs, n, v, rfl, rfl, h, ha, q⟩)
theorem i_fld (q : ta σ H fun x H1 => ∃ a C dx fs v, x = .ref a ∧ H1 a = some (.ins C dx fs) ∧ Cls K C ∧ NoAttr K C f ∧ fs.lookup f = some v ∧ Q v H1) : tFld K ta f σ H Q := q
theorem i_fldR {Q : V → Prop} (h : H a = some (.ins C dx fs)) (c : Cls K C) (na : NoAttr K C f) (hl : fs.lookup f = some v) (q : Q v) :
    ∃ (a' : Addr) (C' : Addr) (dx' : Addr) (fs' : List (Str × V)) (v' : V), V.ref a = .ref a' ∧ H a' = some (.ins C' dx' fs') ∧ Cls K C' ∧ NoAttr K C' f ∧ fs'.lookup f = some v' ∧ Q v' := ⟨a, C, dx, fs, v, rfl, h, c, na, hl, q⟩
theorem i_meth {sp : Sp} {dvs : List V} {E : XK} (q : ta σ H fun x H1 => ∃ a dx fs, x = .ref a ∧ H1 a = some (.ins C dx fs) ∧ fs.lookup m = none ∧ tr σ H1 fun vs H2 => sp (x :: (vs ++ dvs)) H2 Q E) : tMeth C m sp dvs E ta tr σ H Q := q
theorem i_make {sp : Sp} {dvs : List V} {E : XK} (q : tr σ H fun vs H1 => ∀ x dx, H1 x = none → H1 dx = none → dx ≠ x → sp (.ref x :: (vs ++ dvs)) (upd (upd H1 dx (.own x)) x (.ins C dx [])) (fun v H2 => v = .non ∧ Q (.ref x) H2) E) : tMake C sp dvs E tr σ H Q := q
theorem i_bits (q : te σ H fun x H1 => ∃ i, x = .int i ∧ Q (.int (Builtin.Int.intBits i : Nat)) H1) : tBits te σ H Q := q
theorem i_int {R : Int → Prop} (h : R n) : ∃ i, V.int n = V.int i ∧ R i := ⟨n, rfl, h⟩
/-! statements -/
theorem i_seq (q : t { D with nx := u D } σ H) : tSeq t u D σ H := q
theorem i_nx {N : L2.St → Hp → Prop} {B C : L2.St → Hp → Prop} {R : VK} (q : N σ H) : Ends.nx (Ends.mk N R B C) σ H := q
theorem i_rt {N : L2.St → Hp → Prop} {B C : L2.St → Hp → Prop} {R : VK} (q : R v H) : Ends.rt (Ends.mk N R B C) v H := q
theorem i_bk {N : L2.St → Hp → Prop} {B C : L2.St → Hp → Prop} {R : VK} (q : B σ H) : Ends.bk (Ends.mk N R B C) σ H := q
theorem i_ct {N : L2.St → Hp → Prop} {B C : L2.St → Hp → Prop} {R : VK} (q : C σ H) : Ends.ct (Ends.mk N R B C) σ H := q
theorem i_next (q : D.nx σ H) : tNext D σ H := q
theorem i_brk (q : D.bk σ H) : tBreak D σ H := q
theorem i_cnt (q : D.ct σ H) : tCont D σ H := q
theorem i_drop (q : te σ H fun _ H1 => D.nx σ H1) : tDrop te D σ H := q
theorem i_ret (q : te σ H fun v H1 => D.rt v H1) : tRet te D σ H := q
theorem i_ifS (q : tt σ H fun b H1 => if b = true then t D σ H1 else u D σ H1) : tIfS tt t u D σ H := q
theorem i_asg (q : te σ H fun x H1 => g x σ H1 fun s h => D.nx s h) : tAsg te g D σ H := q
theorem i_gname {R : L2.St → Hp → Prop} (q : R (σ.set i (some v)) H) : gName i v σ H R := q
theorem i_par (q : tr σ H fun vs H1 => ∃ v w, vs = [v, w] ∧ D.nx ((σ.set i (some v)).set j (some w)) H1) : tPar i j tr D σ H := q
theorem i_two {R : V → V → Prop} (q : R x y) : ∃ v w, [x, y] = [v, w] ∧ R v w := ⟨x, y, rfl, q⟩
theorem i_par3 {l : Nat} (q : tr σ H fun vs H1 => ∃ u v w, vs = [u, v, w] ∧ D.nx (((σ.set i (some u)).set j (some v)).set l (some w)) H1) : tPar3 i j l tr D σ H := q
theorem i_three {z : V} {R : V → V → V → Prop} (q : R x y z) : ∃ u v w, [x, y, z] = [u, v, w] ∧ R u v w := ⟨x, y, z, rfl, q⟩
theorem i_sub {ti : TE} {ts : TSet} {R : L2.St → Hp → Prop} (q : ta σ H fun o H1 => ti σ H1 fun z H2 => ts o z v H2 fun H3 => R σ H3) : gSub ta ti ts v σ H R := q
theorem i_setL {R : Hp → Prop} (h : H p = some (.lst xs)) (hk : ixN xs.length k = some j) (q : R (upd H p (.lst (xs.set j v)))) : rSetL (.ref p) (.int k) v H R := ⟨p, xs, k, j, rfl, rfl, h, hk, q⟩
theorem i_sfld (q : tv σ H fun y H1 => ta σ H1 fun x H2 => ∃ a C dx fs, x = .ref a ∧ H2 a = some (.ins C dx fs) ∧ Cls K C ∧ NoAttr K C f ∧ fs.length < 1000 ∧ D.nx σ (upd H2 a (.ins C dx (putF f y fs)))) : sFld K ta tv f D σ H := q
theorem i_BM {T : String} {rr : V → List V → Hp → VK → Prop} (q : te σ H fun x H1 => tyV K T x H1 ∧ tr σ H1 fun xs H2 => rr x xs H2 Q) : tBM K T rr te tr σ H Q := q
/-! tests that are known, or not -/
theorem i_T {A B : Prop} (q : A) : if true = true then A else B := iteT q
theorem i_F {A B : Prop} (q : B) : if false = true then A else B := iteF q
theorem i_dec {P A B : Prop} [Decidable P] (h1 : P → A) (h2 : ¬P → B) : if decide P = true then A else B := by
  by_cases h : P
  · rw [if_pos (decide_eq_true h)]; exact h1 h
  · rw [if_neg (by rw [decide_eq_false h]; decide)]; exact h2 h
theorem i_ndec {P A B : Prop} [Decidable P] (h1 : ¬P → A) (h2 : P → B) : if (!decide P) = true then A else B := by
  by_cases h : P
  · rw [if_neg (by rw [decide_eq_true h]; decide)]; exact h2 h
  · rw [if_pos (by rw [decide_eq_false h]; decide)]; exact h1 h
theorem i_decT {P A B : Prop} [Decidable P] (h : P) (q : A) : if decide P = true then A else B := i_dec (fun _ => q) fun z => absurd h z
theorem i_decF {P A B : Prop} [Decidable P] (h : ¬P) (q : B) : if decide P = true then A else B := i_dec (fun z => absurd z h) fun _ => q
theorem i_bool {A B : Prop} (h1 : b = true → A) (h2 : b = false → B) : if b = true then A else B := by
  cases b with
  | true => exact iteT (h1 rfl)
  | false => exact iteF (h2 rfl)
end
theorem i_start {t : TS} {D : Ends} {N : List Str} {vs : List V} {H : Hp} (σ : L2.St) (e : L2.start N vs = σ) (q : t D σ H) : t D (L2.start N vs) H := by rw [e]; exact q
theorem i_while {c : TT} {tb : TS} {D : Ends} {σ : L2.St} {H : Hp} (W : Nat → L2.St → Hp → Prop) (m₀ : Nat) (w₀ : W m₀ σ H)
    (turn : ∀ m σ H, W m σ H → c σ H fun b H1 => if b = true then tb { D with nx := fun s h => ∃ m', m' < m ∧ W m' s h, ct := fun s h => ∃ m', m' < m ∧ W m' s h, bk := D.nx } σ H1 else D.nx σ H1)
    (mono : ∀ σ H Q Q', (∀ b H1, Q b H1 → Q' b H1) → c σ H Q → c σ H Q') : tWhile c tb D σ H := by
  refine ⟨W, ⟨m₀, w₀⟩, fun m σ H w => mono σ H _ _ (fun b H1 q => ?_) (turn m σ H w)⟩
  cases b with
  | true => exact ⟨_, fun _ _ z => z, q⟩
  | false => exact q
/-- the same with the test's own readings -/
theorem i_whileR {c : TT} {tb : TS} {D : Ends} {σ : L2.St} {H : Hp} (W : Nat → L2.St → Hp → Prop) (m₀ : Nat) (w₀ : W m₀ σ H)
    (turn : ∀ m σ H, W m σ H → c σ H fun b H1 => if b = true then ∃ N : L2.St → Hp → Prop, (∀ s h, N s h → ∃ m', m' < m ∧ W m' s h) ∧ tb { D with nx := N, ct := N, bk := D.nx } σ H1 else D.nx σ H1) :
    tWhile c tb D σ H := ⟨W, ⟨m₀, w₀⟩, turn⟩
theorem i_more {W : Nat → L2.St → Hp → Prop} {tb : TS} {D : Ends} {σ : L2.St} {H1 : Hp} {m : Nat}
    (q : tb { D with nx := fun s h => ∃ m', m' < m ∧ W m' s h, ct := fun s h => ∃ m', m' < m ∧ W m' s h, bk := D.nx } σ H1) :
    ∃ N : L2.St → Hp → Prop, (∀ s h, N s h → ∃ m', m' < m ∧ W m' s h) ∧ tb { D with nx := N, ct := N, bk := D.nx } σ H1 := ⟨_, fun _ _ z => z, q⟩
theorem i_isNx {v : V} {H : Hp} {Q : VK} (h : v ≠ .non) (q : Q (.bl false) H) : rIsN v .non H Q := ⟨rfl, by rw [decide_eq_false h]; exact q⟩
theorem i_notNx {v : V} {H : Hp} {Q : VK} (h : v ≠ .non) (q : Q (.bl true) H) : rNotN v .non H Q := ⟨rfl, by rw [decide_eq_false h]; exact q⟩
theorem tyN_tup {H : Hp} {a : Addr} {xs : List V} (h : H a = some (.tup xs)) : tyN H (.ref a) = some "tuple" := by simp only [tyN, h]
theorem tyN_lst {H : Hp} {a : Addr} {xs : List V} (h : H a = some (.lst xs)) : tyN H (.ref a) = some "list" := by simp only [tyN, h]
theorem i_gtup {K : PySem.W.Frag} {n : Nat} {t : TGs} {v : V} {σ : L2.St} {H : Hp} {R : L2.St → Hp → Prop} (q : ∃ a xs, v = .ref a ∧ SqT K H a xs ∧ xs.length = n ∧ t xs σ H R) : gTup K n t v σ H R := q
theorem i_gcons {t : TG} {u : TGs} {v : V} {vs : List V} {σ : L2.St} {H : Hp} {R : L2.St → Hp → Prop} (q : t v σ H fun s h => u vs s h R) : gCons t u (v :: vs) σ H R := ⟨v, vs, rfl, q⟩
theorem i_gnil {σ : L2.St} {H : Hp} {R : L2.St → Hp → Prop} (q : R σ H) : gNil [] σ H R := ⟨rfl, q⟩
theorem i_sl {r : V → Option Int → Option Int → Hp → VK → Prop} {te : TE} {tl th : TO} {σ : L2.St} {H : Hp} {Q : VK} (q : te σ H fun x H1 => tl σ H1 fun l H2 => th σ H2 fun u H3 => r x l u H3 Q) : tSl r te tl th σ H Q := q
theorem i_nopart {σ : L2.St} {H : Hp} {R : Option Int → Hp → Prop} (q : R none H) : tNoPart σ H R := q
theorem i_part {te : TE} {σ : L2.St} {H : Hp} {R : Option Int → Hp → Prop} (q : te σ H fun x H1 => ∃ i, x = .int i ∧ R (some i) H1) : tPart te σ H R := q
theorem i_for {wi : TI} {g : TG} {tb : TS} {D : Ends} {σ : L2.St} {H : Hp} (q : wi σ H fun J H1 => ∃ W : Nat → Nat → L2.St → Hp → Prop, (∃ m, W 0 m σ H1) ∧ ∀ i m σ H, W i m σ H →
    (J.stop i H ∧ D.nx σ H) ∨ (J.go i H ∧ ∃ N : L2.St → Hp → Prop, (∀ σ' H', N σ' H' → ∃ m', m' < m ∧ W (i + 1) m' σ' H') ∧ ∀ x H', J.yld i H x H' → g x σ H' fun σ2 H2 => tb { D with nx := N, ct := N, bk := D.nx } σ2 H2)) :
    tFor wi g tb D σ H := q
theorem i_iR1 {ta : TA} {σ : L2.St} {H : Hp} {R : _} (q : ta σ H fun vs H1 => ∃ j : Int, vs = [.int j] ∧ -(2 ^ 62) ≤ j ∧ j < 2 ^ 62 ∧ R (Itr 0 j.toNat) H1) : iRng1 ta σ H R := q
theorem i_iR2 {ta : TA} {σ : L2.St} {H : Hp} {R : _} (q : ta σ H fun vs H1 => ∃ i j : Int, vs = [.int i, .int j] ∧ (-(2 ^ 62) ≤ i ∧ i < 2 ^ 62 ∧ -(2 ^ 62) ≤ j ∧ j < 2 ^ 62) ∧ R (Itr i (j - i).toNat) H1) : iRng2 ta σ H R := q
theorem i_iL {K : PySem.W.Frag} {tl : TE} {σ : L2.St} {H : Hp} {R : _} (q : tl σ H fun x H1 => ∃ a, x = .ref a ∧ (∃ xs, SqL K H1 a xs) ∧ R (Itl K a) H1) : iList K tl σ H R := q
theorem i_iT {K : PySem.W.Frag} {tl : TE} {σ : L2.St} {H : Hp} {R : _} (q : tl σ H fun x H1 => ∃ a, x = .ref a ∧ (∃ xs, SqT K H1 a xs) ∧ R (Itt K a) H1) : iTup K tl σ H R := q
/-! new objects, told by what they leave -/
theorem laid {H H1 : Hp} {p : Addr} {o : HO} (e : L2.upd H p o = H1) (h : H p = none) : Same H H1 ∧ H1 p = some o := by
  subst e
  exact ⟨Same.new h, upd_same⟩
theorem i_app {l : Addr} {xs : List V} {y : V} {H : Hp} {Q : VK} (h : H l = some (.lst xs)) (hz : xs.length < sizeLine) (q : Q .non (L2.upd H l (.lst (xs ++ [y])))) : rAppend (.ref l) [y] H Q := ⟨l, xs, y, rfl, rfl, h, hz, q⟩
theorem i_tyL {K : PySem.W.Frag} {p : Addr} {xs : List V} {H : Hp} {R : Prop} (h : SqL K H p xs) (q : R) : tyV K "list" (.ref p) H ∧ R := ⟨.inl ⟨rfl, _, h⟩, q⟩
/-! dicts -/
theorem i_dnotin {ty td : TE} {σ : L2.St} {H : Hp} {Q : VK} (q : ty σ H fun y H1 => td σ H1 fun x H2 => ∃ a o, x = .ref a ∧ DGet H2 a y o ∧ Q (.bl (!o.isSome)) H2) : tDNotIn ty td σ H Q := q
theorem i_din {ty td : TE} {σ : L2.St} {H : Hp} {Q : VK} (q : ty σ H fun y H1 => td σ H1 fun x H2 => ∃ a o, x = .ref a ∧ DGet H2 a y o ∧ Q (.bl o.isSome) H2) : tDIn ty td σ H Q := q
theorem i_dget {ty td : TE} {σ : L2.St} {H : Hp} {Q : VK} (q : td σ H fun x H1 => ty σ H1 fun y H2 => ∃ a v, x = .ref a ∧ DGet H2 a y (some v) ∧ Q v H2) : tDGet td ty σ H Q := q
theorem i_dput {ty td tv : TE} {D : Ends} {σ : L2.St} {H : Hp} (q : tv σ H fun v H1 => td σ H1 fun x H2 => ty σ H2 fun y H3 => ∃ a H4, x = .ref a ∧ DPut H3 a y v H4 ∧ D.nx σ H4) : sDPut td ty tv D σ H := q
theorem i_disp {trs : List (TE × TE)} {σ : L2.St} {H : Hp} {Q : VK} (q : ∀ p, H p = none → tPairs trs σ (L2.upd H p (.dK [])) fun ps H2 => H2 p = some (.dK []) ∧ ∃ kvs : List (Key × V), ps = kvs.map (fun kv => (kV kv.1, kv.2)) ∧ kvs.length ≤ 15 ∧ Q (.ref p) (L2.upd H2 p (.dK (mergeK [] kvs)))) : tDisp trs σ H Q := q
theorem i_pcons {tk tv : TE} {r : List (TE × TE)} {σ : L2.St} {H : Hp} {Q : List (V × V) → Hp → Prop} (q : tk σ H fun x H1 => tv σ H1 fun y H2 => tPairs r σ H2 fun ps H3 => Q ((x, y) :: ps) H3) : tPairs ((tk, tv) :: r) σ H Q := q
theorem i_pnil {σ : L2.St} {H : Hp} {Q : List (V × V) → Hp → Prop} (q : Q [] H) : tPairs [] σ H Q := q
theorem i_cut {t u : TS} {D : Ends} {σ : L2.St} {H : Hp} (M : L2.St → Hp → Prop) (q : t { D with nx := M } σ H) (k : ∀ s h, M s h → u D s h) : Evl.tCut t u D σ H := ⟨M, q, k⟩
end KB

set_option maxHeartbeats 4000000
namespace KB
open PySem PySem.Spec PyProof.Rows L2
/-! further rules -/
/-- xs[lo:hi] = a list -/
def gSlc (to tl th : TE) : TG := fun v σ H R => to σ H fun o H1 => tl σ H1 fun x H2 => th σ H2 fun y H3 =>
  ∃ (l b : Addr) (xs ys : List V) (a c : Nat), o = .ref l ∧ v = .ref b ∧ x = .int a ∧ y = .int c ∧ H3 l = some (.lst xs) ∧ H3 b = some (.lst ys) ∧ l ≠ b ∧ a ≤ c ∧ c ≤ xs.length ∧
    xs.length + ys.length ≤ sizeLine ∧ R σ (L2.upd H3 l (.lst (xs.take a ++ ys ++ xs.drop c)))
theorem pg_slc {X : Cx} {o lo hi : Expr} {to tl th : TE} {p2 pos : Pos} (ho : PE X o to) (hl : PE X lo tl) (hh : PE X hi th) : PG X (.Subscript o (.Slice (some lo) (some hi) none p2) pos) (gSlc to tl th) := by
  refine ⟨fun pins s σ H v u Q I r h => ?_⟩
  rw [PySem.arm_assign_Subscript]
  refine wpAny_bind (wpAny_holding (thn (ho.run pins s σ H _ I h) fun ov s1 ⟨x, H1, I1, r1, q1⟩ => ?_))
  refine wpAny_bind (wpAny_holding (wpAny_Slice ?_))
  refine thn (hl.run pins s1 σ H1 _ I1 q1) fun vl s2 ⟨y, H2, I2, r2, q2⟩ => ?_
  refine thn (hh.run pins s2 σ H2 _ I2 q2) fun vu s3 ⟨z, H3, I3, r3, q3⟩ => ?_
  rw [evalPart_none]
  refine wpAny_pure ?_
  obtain ⟨l, b, xs, ys, a, c, e1, e2, e3, e4, hL, hB, hne, hac, hc, hz, q⟩ := q3
  subst e1; subst e2; subst e3; subst e4
  cases r1
  cases r
  have I4 : Inv X pins σ H3 { s3 with heap := s3.heap.push { cls := .type "slice", data := .fields #[vl, vu, .none] } } := I3.kept (t' := s3.toks) fun b ob q => Heap.get?_push_of_some _ q
  show wpAny (model X.prog X.w) X.A _ _ X.xe { s3 with heap := s3.heap.push { cls := .type "slice", data := .fields #[vl, vu, .none] } }
  refine wpAny_bind (wpAny_standAt (wpAny_bind (wpAny_holding ?_)))
  refine set_slice I4 hL hB hne (Heap.IsSliceOf.new ..) r2 r3 (by omega) (by omega) (by omega) hz fun s5 I5 => ?_
  exact wpAny_release ⟨σ, _, I5, by simpa using q⟩
theorem i_slc {to tl th : TE} {v : V} {σ : L2.St} {H : Hp} {R : L2.St → Hp → Prop} (q : to σ H fun o H1 => tl σ H1 fun x H2 => th σ H2 fun y H3 =>
  ∃ (l b : Addr) (xs ys : List V) (a c : Nat), o = .ref l ∧ v = .ref b ∧ x = .int a ∧ y = .int c ∧ H3 l = some (.lst xs) ∧ H3 b = some (.lst ys) ∧ l ≠ b ∧ a ≤ c ∧ c ≤ xs.length ∧
    xs.length + ys.length ≤ sizeLine ∧ R σ (L2.upd H3 l (.lst (xs.take a ++ ys ++ xs.drop c)))) : gSlc to tl th v σ H R := q
end KB
namespace KB
open PySem PySem.Spec PyProof.Rows L2
theorem i_eqS {a b : Str} {H : Hp} {Q : VK} (q : Q (.bl (decide (a = b))) H) : rEq (.str a) (.str b) H Q := ⟨rfl, by
  have e : decide (V.str a = V.str b) = decide (a = b) := by
    by_cases h : a = b
    · subst h; simp
    · rw [decide_eq_false h, decide_eq_false (fun z => h (V.str.inj z))]
  rw [e]; exact q⟩
theorem i_neS {a b : Str} {H : Hp} {Q : VK} (q : Q (.bl (!decide (a = b))) H) : rNe (.str a) (.str b) H Q := ⟨rfl, by
  have e : decide (V.str a = V.str b) = decide (a = b) := by
    by_cases h : a = b
    · subst h; simp
    · rw [decide_eq_false h, decide_eq_false (fun z => h (V.str.inj z))]
  rw [e]; exact q⟩
end KB
namespace KB
open PySem PySem.Spec PyProof.Rows L2
/-- an expression at which the reading halts, to be met by a told promise -/
def tHold (te : TE) : TE := te
theorem pe_hold {X : Cx} {e : Expr} {te : TE} (h : PE X e te) : PE X e (tHold te) := h
theorem i_hold {te : TE} {σ : L2.St} {H : Hp} {Q : VK} (M : V → Hp → Prop) (q : ∀ Q' : VK, (∀ x H', M x H' → Q' x H') → te σ H Q') (k : ∀ x H', M x H' → Q x H') : tHold te σ H Q := q Q k
end KB

/-! shapes: plain mathematics -/
namespace KM
inductive Sh where
  | one
  | two (l r : Sh)
  deriving DecidableEq
def wid : Sh → Nat
  | .one => 1
  | .two l r => wid l + wid r
def hei : Sh → Nat
  | .one => 0
  | .two l r => 1 + max (hei l) (hei r)
def bal : Sh → Prop
  | .one => True
  | .two l r => bal l ∧ bal r ∧ hei l ≤ hei r + 1 ∧ hei r ≤ hei l + 1
theorem wid_pos : ∀ s : Sh, 1 ≤ wid s
  | .one => Nat.le_refl 1
  | .two l r => by have := wid_pos l; simp only [wid]; omega
/-- the least width of a height -/
def L : Nat → Nat
  | 0 => 1
  | 1 => 2
  | n + 2 => L (n + 1) + L n
theorem L_pos : ∀ n, 1 ≤ L n
  | 0 => by decide
  | 1 => by decide
  | n + 2 => by have := L_pos (n + 1); simp only [L]; omega
theorem L_lt : ∀ n, L n < L (n + 1)
  | 0 => by decide
  | n + 1 => by have := L_pos n; simp only [L]; omega
theorem L_mono {m n : Nat} (h : m ≤ n) : L m ≤ L n := by
  induction h with
  | refl => exact Nat.le_refl _
  | step _ ih => exact Nat.le_trans ih (Nat.le_of_lt (L_lt _))
theorem L_le_pow : ∀ n, L n ≤ 2 ^ n
  | 0 => by decide
  | 1 => by decide
  | n + 2 => by
    have h1 := L_le_pow (n + 1)
    have h2 := L_le_pow n
    have e : 2 ^ (n + 2) = 2 * (2 * 2 ^ n) := by rw [Nat.pow_succ, Nat.pow_succ]; omega
    have e1 : 2 ^ (n + 1) = 2 * 2 ^ n := by rw [Nat.pow_succ]; omega
    simp only [L]; omega
/-- the tallest height of a width -/
def Tl (w h : Nat) : Prop := (h = 0 ∨ L h ≤ w) ∧ w < L (h + 1)
theorem Tl.inj {w a b : Nat} (x : Tl w a) (y : Tl w b) : a = b := by
  obtain ⟨xa, xb⟩ := x
  obtain ⟨ya, yb⟩ := y
  rcases Nat.lt_trichotomy a b with h | h | h
  · have := L_mono (show a + 1 ≤ b by omega)
    rcases ya with e | e <;> omega
  · exact h
  · have := L_mono (show b + 1 ≤ a by omega)
    rcases xa with e | e <;> omega
theorem L_21 : L 21 = 28657 := by decide +kernel
theorem Tl.le {w h : Nat} (x : Tl w h) (hw : w ≤ 20000) : h ≤ 20 := by
  obtain ⟨xa, _⟩ := x
  rcases Nat.lt_or_ge h 21 with q | q
  · omega
  · have := L_mono q
    rw [L_21] at this
    rcases xa with e | e <;> omega
theorem Tl.ex (w : Nat) : ∃ h, Tl w h := by
  have big : ∀ n, n < L n := by
    intro n
    induction n with
    | zero => decide
    | succ n ih => have := L_lt n; omega
  have go : ∀ n h, w < L (h + n) → (h = 0 ∨ L h ≤ w) → ∃ h, Tl w h := by
    intro n
    induction n with
    | zero =>
      intro h a b
      rcases b with e | e
      · subst e
        exact ⟨0, .inl rfl, by have := L_lt 0; simp only [Nat.add_zero] at a; omega⟩
      · simp only [Nat.add_zero] at a; omega
    | succ n ih =>
      intro h a b
      by_cases c : w < L (h + 1)
      · exact ⟨h, b, c⟩
      · exact ih (h + 1) (by rw [show h + 1 + n = h + (n + 1) by omega]; exact a) (.inr (by omega))
  exact go (w + 1) 0 (by have := big (w + 1); simp only [Nat.zero_add]; omega) (.inl rfl)
/-- a width fits a height -/
def Fit (w h : Nat) : Prop := L h ≤ w ∧ w ≤ 2 ^ h
theorem L_pow1 : ∀ n, L (n + 1) ≤ 2 ^ n + 1
  | 0 => by decide
  | 1 => by decide
  | n + 2 => by
    have h1 := L_pow1 (n + 1)
    have h2 := L_pow1 n
    have e : 2 ^ (n + 2) = 2 * (2 * 2 ^ n) := by rw [Nat.pow_succ, Nat.pow_succ]; omega
    have e1 : 2 ^ (n + 1) = 2 * 2 ^ n := by rw [Nat.pow_succ]; omega
    have e3 : 1 ≤ 2 ^ n := Nat.one_le_two_pow
    have e4 : L (n + 2 + 1) = L (n + 1 + 1) + L (n + 1) := rfl
    omega
theorem Tl.fit {w h : Nat} (x : Tl w h) (hw : 1 ≤ w) : Fit w h := by
  obtain ⟨xa, xb⟩ := x
  have := L_pow1 h
  refine ⟨?_, by omega⟩
  rcases xa with e | e
  · subst e; exact hw
  · exact e
/-- twice the least width, less one, is let by the two next lower heights -/
theorem L_half : ∀ n, 2 * L (n + 1) ≤ 2 ^ (n + 1) + 2 ^ n + 1
  | 0 => by decide
  | 1 => by decide
  | n + 2 => by
    have h1 := L_half (n + 1)
    have h2 := L_half n
    have e : 2 ^ (n + 2 + 1) = 2 * (2 * (2 * 2 ^ n)) := by rw [Nat.pow_succ, Nat.pow_succ, Nat.pow_succ]; omega
    have e0 : 2 ^ (n + 2) = 2 * (2 * 2 ^ n) := by rw [Nat.pow_succ, Nat.pow_succ]; omega
    have e1 : 2 ^ (n + 1) = 2 * 2 ^ n := by rw [Nat.pow_succ]; omega
    have e3 : 1 ≤ 2 ^ n := Nat.one_le_two_pow
    have e4 : L (n + 2 + 1) = L (n + 1 + 1) + L (n + 1) := rfl
    omega
/-- one of the first two ways is there -/
theorem way_there {w h : Nat} (f : Fit w (h + 1)) :
    (L h ≤ 2 ^ h ∧ L h + L h ≤ w ∧ w ≤ 2 ^ h + 2 ^ h) ∨ (∃ g, h = g + 1 ∧ L h + L g ≤ w ∧ w ≤ 2 ^ h + 2 ^ g) := by
  obtain ⟨a, b⟩ := f
  have e1 : 2 ^ (h + 1) = 2 ^ h + 2 ^ h := by rw [Nat.pow_succ]; omega
  by_cases c : L h + L h ≤ w
  · exact .inl ⟨L_le_pow h, c, by omega⟩
  · right
    cases h with
    | zero => simp only [L] at a c; omega
    | succ g =>
      refine ⟨g, rfl, a, ?_⟩
      have := L_half g
      omega
/-! even shapes -/
def evS (n : Nat) : Sh := if h : n ≤ 1 then .one else .two (evS ((n + 1) / 2)) (evS (n / 2))
theorem evS_1 {n : Nat} (h : n ≤ 1) : evS n = .one := by rw [evS, dif_pos h]
theorem evS_2 {n : Nat} (h : ¬ n ≤ 1) : evS n = .two (evS ((n + 1) / 2)) (evS (n / 2)) := by rw [evS, dif_neg h]
theorem evS_wid : ∀ n, 1 ≤ n → wid (evS n) = n := by
  intro n
  induction n using Nat.strongRecOn with
  | _ n ih =>
    intro h
    by_cases c : n ≤ 1
    · rw [evS_1 c]; simp only [wid]; omega
    · rw [evS_2 c]; simp only [wid]
      rw [ih _ (by omega) (by omega), ih _ (by omega) (by omega)]; omega
/-- how many bits -/
def bits (n : Nat) : Nat := if h : n = 0 then 0 else 1 + bits (n / 2)
theorem bits_0 : bits 0 = 0 := by rw [bits, dif_pos rfl]
theorem bits_s {n : Nat} (h : n ≠ 0) : bits n = 1 + bits (n / 2) := by rw [bits, dif_neg h]
theorem bits_mono : ∀ n m, m ≤ n → bits m ≤ bits n := by
  intro n
  induction n using Nat.strongRecOn with
  | _ n ih =>
    intro m h
    by_cases c : m = 0
    · subst c; rw [bits_0]; omega
    · rw [bits_s c, bits_s (show n ≠ 0 by omega)]
      have := ih (n / 2) (by omega) (m / 2) (by omega)
      omega
theorem bits_succ : ∀ n, bits (n + 1) ≤ bits n + 1 := by
  intro n
  induction n using Nat.strongRecOn with
  | _ n ih =>
    by_cases c : n = 0
    · subst c; decide +kernel
    · rw [bits_s c, bits_s (show n + 1 ≠ 0 by omega)]
      by_cases d : (n + 1) / 2 = n / 2
      · rw [d]; omega
      · rw [show (n + 1) / 2 = n / 2 + 1 by omega]
        have := ih (n / 2) (by omega)
        omega
theorem bits_log (n : Nat) (h : n ≠ 0) : bits n = n.log2 + 1 := by
  induction n using Nat.strongRecOn with
  | _ n ih =>
    rw [bits_s h]
    by_cases c : n / 2 = 0
    · have e : n = 1 := by omega
      subst e; decide +kernel
    · rw [ih _ (by omega) c, Nat.log2_def n, if_pos (show 2 ≤ n by omega)]; omega
theorem evS_hei : ∀ n, 1 ≤ n → hei (evS n) = bits (n - 1) ∧ bal (evS n) := by
  intro n
  induction n using Nat.strongRecOn with
  | _ n ih =>
    intro h
    by_cases c : n ≤ 1
    · rw [evS_1 c, show n - 1 = 0 by omega, bits_0]; exact ⟨rfl, trivial⟩
    · rw [evS_2 c]
      obtain ⟨a1, a2⟩ := ih ((n + 1) / 2) (by omega) (by omega)
      obtain ⟨b1, b2⟩ := ih (n / 2) (by omega) (by omega)
      have m := bits_mono ((n + 1) / 2 - 1) (n / 2 - 1) (by omega)
      have s : bits ((n + 1) / 2 - 1) ≤ bits (n / 2 - 1) + 1 := by
        by_cases d : (n + 1) / 2 - 1 = n / 2 - 1
        · rw [d]; omega
        · rw [show (n + 1) / 2 - 1 = n / 2 - 1 + 1 by omega]; exact bits_succ _
      simp only [hei, bal]
      rw [a1, b1, bits_s (show n - 1 ≠ 0 by omega), show (n - 1) / 2 = (n + 1) / 2 - 1 by omega]
      exact ⟨by omega, a2, b2, by omega, by omega⟩
theorem evS_low {n : Nat} (h : 1 ≤ n) (h2 : n ≤ 20000) : hei (evS n) ≤ 15 := by
  rw [(evS_hei n h).1]
  have := bits_mono 19999 (n - 1) (by omega)
  rw [show bits 19999 = 15 by decide +kernel] at this
  exact this
/-! the height of a balanced shape, by the program's way -/
def bh : Sh → Int
  | .one => 0
  | .two l r => if min (bh l) (bh r) < 0 ∨ 1 < (if bh l - bh r < 0 then -(bh l - bh r) else bh l - bh r) then -1 else 1 + max (bh l) (bh r)
theorem bh_is : ∀ s : Sh, (bal s → bh s = (hei s : Int)) ∧ (¬ bal s → bh s = -1)
  | .one => ⟨fun _ => rfl, fun h => absurd trivial h⟩
  | .two l r => by
    obtain ⟨l1, l2⟩ := bh_is l
    obtain ⟨r1, r2⟩ := bh_is r
    constructor
    · rintro ⟨a, b, c, d⟩
      simp only [bh, hei]
      rw [l1 a, r1 b, if_neg (by split <;> omega)]
      omega
    · intro h
      simp only [bh]
      by_cases a : bal l
      · by_cases b : bal r
        · rw [l1 a, r1 b]
          refine if_pos ?_
          by_cases c : hei l ≤ hei r + 1
          · by_cases d : hei r ≤ hei l + 1
            · exact absurd ⟨a, b, c, d⟩ h
            · right; split <;> omega
          · right; split <;> omega
        · rw [r2 b]; exact if_pos (.inl (by omega))
      · rw [l2 a]; exact if_pos (.inl (by omega))
theorem bh_nonneg {s : Sh} : 0 ≤ bh s ↔ bal s := by
  obtain ⟨a, b⟩ := bh_is s
  constructor
  · intro h
    by_cases c : bal s
    · exact c
    · rw [b c] at h; omega
  · intro h; rw [a h]; omega
end KM
namespace KM
/-! anything, looked at as a shape -/
inductive GS where
  | one
  | two (l r : GS)
  | bad
def wIn : Nat → GS → Nat
  | _, .one => 1
  | _, .bad => 0
  | 0, .two _ _ => 0
  | m + 1, .two l r => if wIn m l = 0 ∨ wIn m r = 0 ∨ 20000 < wIn m l + wIn m r then 0 else wIn m l + wIn m r
def Sh.g : Sh → GS
  | .one => .one
  | .two l r => .two l.g r.g
theorem wIn_sh : ∀ (s : Sh) (m : Nat), hei s ≤ m → wid s ≤ 20000 → wIn m s.g = wid s
  | .one, m, _, _ => by cases m <;> rfl
  | .two l r, 0, h, _ => by simp only [hei] at h; omega
  | .two l r, m + 1, h, h2 => by
    simp only [hei] at h
    simp only [wid] at h2
    simp only [Sh.g, wIn, wid]
    have := wid_pos l
    have := wid_pos r
    rw [wIn_sh l m (by omega) (by omega), wIn_sh r m (by omega) (by omega), if_neg (by omega)]
end KM
namespace KM
def owid : Option Sh → Nat
  | none => 0
  | some t => wid t
def ohei : Option Sh → Nat
  | none => 0
  | some t => hei t
end KM

/-! joined, cut, with a child more, with one less: plain mathematics -/
namespace KM
def epR (l i o : Sh) : Sh := if hei i ≤ hei o then .two (.two l i) o else match i with
  | .two a b => .two (.two l a) (.two b o)
  | .one => .two (.two l i) o
def epL (o i r : Sh) : Sh := if hei i ≤ hei o then .two o (.two i r) else match i with
  | .two a b => .two (.two o a) (.two b r)
  | .one => .two o (.two i r)
def ep (l r : Sh) : Sh :=
  if hei l + 1 < hei r then (match r with
    | .two i o => epR l i o
    | .one => .two l r)
  else if hei r + 1 < hei l then (match l with
    | .two o i => epL o i r
    | .one => .two l r)
  else .two l r
/-- what a putting together of two keeps: balance, the width, the height up to one more -/
structure Good (t : Sh) (w lo hi : Nat) : Prop where
  b : bal t
  w : wid t = w
  lo : lo ≤ hei t
  hi : hei t ≤ hi
theorem ep_r {l i o : Sh} (h : hei l + 1 < hei (.two i o)) : ep l (.two i o) = epR l i o := by unfold ep; rw [if_pos h]
theorem ep_l {o i r : Sh} (h1 : ¬ hei (.two o i) + 1 < hei r) (h2 : hei r + 1 < hei (.two o i)) : ep (.two o i) r = epL o i r := by unfold ep; rw [if_neg h1, if_pos h2]
theorem ep_e {l r : Sh} (h1 : ¬ hei l + 1 < hei r) (h2 : ¬ hei r + 1 < hei l) : ep l r = .two l r := by unfold ep; rw [if_neg h1, if_neg h2]
theorem ep_good {l r : Sh} (hl : bal l) (hr : bal r) (d1 : hei l ≤ hei r + 2) (d2 : hei r ≤ hei l + 2) :
    Good (ep l r) (wid l + wid r) (max (hei l) (hei r)) (max (hei l) (hei r) + 1) ∧ (hei l ≤ hei r + 1 → hei r ≤ hei l + 1 → hei (ep l r) = 1 + max (hei l) (hei r)) := by
  unfold ep
  by_cases c1 : hei l + 1 < hei r
  · rw [if_pos c1]
    cases r with
    | one => simp only [hei] at c1; omega
    | two i o =>
      obtain ⟨b1, b2, b3, b4⟩ := hr
      simp only [hei] at c1 d1 d2
      show Good (epR l i o) _ _ _ ∧ _
      unfold epR
      by_cases c2 : hei i ≤ hei o
      · rw [if_pos c2]
        refine ⟨⟨?_, ?_, ?_, ?_⟩, fun _ z => ?_⟩
        · simp only [bal, hei]; exact ⟨⟨hl, b1, by omega, by omega⟩, b2, by omega, by omega⟩
        · simp only [wid]; omega
        · simp only [hei]; omega
        · simp only [hei]; omega
        · simp only [hei] at z; omega
      · rw [if_neg c2]
        cases i with
        | one => simp only [hei] at c2; omega
        | two a b =>
          obtain ⟨a1, a2, a3, a4⟩ := b1
          simp only [hei] at c1 c2 d1 d2 b3 b4
          refine ⟨⟨?_, ?_, ?_, ?_⟩, fun _ z => ?_⟩
          · simp only [bal, hei]; exact ⟨⟨hl, a1, by omega, by omega⟩, ⟨a2, b2, by omega, by omega⟩, by omega, by omega⟩
          · simp only [wid]; omega
          · simp only [hei]; omega
          · simp only [hei]; omega
          · simp only [hei] at z; omega
  · rw [if_neg c1]
    by_cases c3 : hei r + 1 < hei l
    · rw [if_pos c3]
      cases l with
      | one => simp only [hei] at c3; omega
      | two o i =>
        obtain ⟨b1, b2, b3, b4⟩ := hl
        simp only [hei] at c1 c3 d1 d2
        show Good (epL o i r) _ _ _ ∧ _
        unfold epL
        by_cases c2 : hei i ≤ hei o
        · rw [if_pos c2]
          refine ⟨⟨?_, ?_, ?_, ?_⟩, fun z _ => ?_⟩
          · simp only [bal, hei]; exact ⟨b1, ⟨b2, hr, by omega, by omega⟩, by omega, by omega⟩
          · simp only [wid]; omega
          · simp only [hei]; omega
          · simp only [hei]; omega
          · simp only [hei] at z; omega
        · rw [if_neg c2]
          cases i with
          | one => simp only [hei] at c2; omega
          | two a b =>
            obtain ⟨a1, a2, a3, a4⟩ := b2
            simp only [hei] at c1 c2 c3 d1 d2 b3 b4
            refine ⟨⟨?_, ?_, ?_, ?_⟩, fun z _ => ?_⟩
            · simp only [bal, hei]; exact ⟨⟨b1, a1, by omega, by omega⟩, ⟨a2, hr, by omega, by omega⟩, by omega, by omega⟩
            · simp only [wid]; omega
            · simp only [hei]; omega
            · simp only [hei]; omega
            · simp only [hei] at z; omega
    · rw [if_neg c3]
      refine ⟨⟨?_, ?_, ?_, ?_⟩, fun _ _ => ?_⟩
      · simp only [bal]; exact ⟨hl, hr, by omega, by omega⟩
      · simp only [wid]
      · simp only [hei]; omega
      · simp only [hei]; omega
      · simp only [hei]
/-- joined -/
def jn (l r : Sh) : Sh :=
  if h1 : hei r + 1 < hei l then (match l, h1 with
    | .two f la, _ => ep f (jn la r)
    | .one, _ => .two l r)
  else if h2 : hei l + 1 < hei r then (match r, h2 with
    | .two f la, _ => ep (jn l f) la
    | .one, _ => .two l r)
  else .two l r
termination_by hei l + hei r
decreasing_by
  · simp only [hei]; omega
  · simp only [hei]; omega
theorem jn_l {f la r : Sh} (h : hei r + 1 < hei (.two f la)) : jn (.two f la) r = ep f (jn la r) := by rw [jn, dif_pos h]
theorem jn_r {l f la : Sh} (h1 : ¬ hei (.two f la) + 1 < hei l) (h : hei l + 1 < hei (.two f la)) : jn l (.two f la) = ep (jn l f) la := by rw [jn, dif_neg h1, dif_pos h]
theorem jn_e {l r : Sh} (h1 : ¬ hei r + 1 < hei l) (h2 : ¬ hei l + 1 < hei r) : jn l r = .two l r := by rw [jn, dif_neg h1, dif_neg h2]
theorem jn_good : ∀ (n : Nat) (l r : Sh), hei l + hei r ≤ n → bal l → bal r → Good (jn l r) (wid l + wid r) (max (hei l) (hei r)) (max (hei l) (hei r) + 1) := by
  intro n
  induction n with
  | zero =>
    intro l r h bl br
    rw [jn_e (by omega) (by omega)]
    exact ⟨⟨bl, br, by omega, by omega⟩, rfl, by simp only [hei]; omega, by simp only [hei]; omega⟩
  | succ n ih =>
    intro l r h bl br
    by_cases c1 : hei r + 1 < hei l
    · cases l with
      | one => simp only [hei] at c1; omega
      | two f la =>
        obtain ⟨b1, b2, b3, b4⟩ := bl
        rw [jn_l c1]
        simp only [hei] at c1 h
        obtain ⟨x1, x2, x3, x4⟩ := ih la r (by omega) b2 br
        obtain ⟨⟨y1, y2, y3, y4⟩, y5⟩ := ep_good b1 x1 (by omega) (by omega)
        refine ⟨y1, by rw [y2, x2]; simp only [wid]; omega, ?_, by simp only [hei]; omega⟩
        simp only [hei]
        by_cases c : hei (jn la r) ≤ hei f + 1
        · rw [y5 (by omega) c]; omega
        · omega
    · by_cases c2 : hei l + 1 < hei r
      · cases r with
        | one => simp only [hei] at c2; omega
        | two f la =>
          obtain ⟨b1, b2, b3, b4⟩ := br
          rw [jn_r c1 c2]
          simp only [hei] at c1 c2 h
          obtain ⟨x1, x2, x3, x4⟩ := ih l f (by omega) bl b1
          obtain ⟨⟨y1, y2, y3, y4⟩, y5⟩ := ep_good x1 b2 (by omega) (by omega)
          refine ⟨y1, by rw [y2, x2]; simp only [wid]; omega, ?_, by simp only [hei]; omega⟩
          simp only [hei]
          by_cases c : hei (jn l f) ≤ hei la + 1
          · rw [y5 c (by omega)]; omega
          · omega
      · rw [jn_e c1 c2]
        exact ⟨⟨bl, br, by omega, by omega⟩, rfl, by simp only [hei]; omega, by simp only [hei]; omega⟩
theorem jn_ok {l r : Sh} (bl : bal l) (br : bal r) : Good (jn l r) (wid l + wid r) (max (hei l) (hei r)) (max (hei l) (hei r) + 1) := jn_good _ l r (Nat.le_refl _) bl br
/-- .. where there may be none -/
def jo : Option Sh → Option Sh → Option Sh
  | none, r => r
  | some l, none => some l
  | some l, some r => some (jn l r)
def obal : Option Sh → Prop
  | none => True
  | some t => bal t
theorem jo_ok {l r : Option Sh} (bl : obal l) (br : obal r) : obal (jo l r) ∧ owid (jo l r) = owid l + owid r ∧ ohei (jo l r) ≤ max (ohei l) (ohei r) + 1 := by
  cases l with
  | none => exact ⟨br, by simp only [jo, owid]; omega, by simp only [jo, ohei]; omega⟩
  | some a =>
    cases r with
    | none => exact ⟨bl, by simp only [jo, owid]; omega, by simp only [jo, ohei]; omega⟩
    | some b =>
      obtain ⟨x1, x2, x3, x4⟩ := jn_ok (l := a) (r := b) bl br
      exact ⟨x1, x2, by simp only [jo, ohei]; omega⟩
/-- cut behind so many children -/
def ct : Sh → Nat → Option Sh × Option Sh
  | t, 0 => (none, some t)
  | .one, _ + 1 => (some .one, none)
  | .two l r, k + 1 => if k + 1 = wid (.two l r) then (some (.two l r), none)
    else if k + 1 ≤ wid l then ((ct l (k + 1)).1, jo (ct l (k + 1)).2 (some r))
    else (jo (some l) (ct r (k + 1 - wid l)).1, (ct r (k + 1 - wid l)).2)
theorem ct_ok : ∀ (t : Sh) (k : Nat), bal t → k ≤ wid t → obal (ct t k).1 ∧ obal (ct t k).2 ∧ owid (ct t k).1 = k ∧ owid (ct t k).2 = wid t - k ∧ ohei (ct t k).1 ≤ hei t ∧ ohei (ct t k).2 ≤ hei t := by
  intro t
  induction t with
  | one =>
    intro k b h
    simp only [wid] at h
    cases k with
    | zero => exact ⟨trivial, trivial, rfl, rfl, Nat.le_refl _, Nat.le_refl _⟩
    | succ k => exact ⟨trivial, trivial, by simp only [ct, owid, wid]; omega, by simp only [ct, owid, wid]; omega, Nat.le_refl _, Nat.le_refl _⟩
  | two l r il ir =>
    intro k b h
    obtain ⟨b1, b2, b3, b4⟩ := b
    cases k with
    | zero => exact ⟨trivial, ⟨b1, b2, b3, b4⟩, rfl, rfl, Nat.zero_le _, Nat.le_refl _⟩
    | succ k =>
      simp only [ct]
      by_cases c : k + 1 = wid (.two l r)
      · rw [if_pos c]
        exact ⟨⟨b1, b2, b3, b4⟩, trivial, c.symm, by simp only [owid]; omega, Nat.le_refl _, Nat.zero_le _⟩
      · rw [if_neg c]
        simp only [wid] at h c ⊢
        by_cases c2 : k + 1 ≤ wid l
        · rw [if_pos c2]
          obtain ⟨x1, x2, x3, x4, x5, x6⟩ := il (k + 1) b1 c2
          obtain ⟨y1, y2, y3⟩ := jo_ok (r := some r) x2 b2
          refine ⟨x1, y1, x3, ?_, by simp only [hei]; omega, ?_⟩
          · rw [y2, x4]; simp only [owid]; omega
          · simp only [hei, ohei] at *; omega
        · rw [if_neg c2]
          obtain ⟨x1, x2, x3, x4, x5, x6⟩ := ir (k + 1 - wid l) b2 (by omega)
          obtain ⟨y1, y2, y3⟩ := jo_ok (l := some l) b1 x1
          refine ⟨y1, x2, ?_, ?_, ?_, by simp only [hei]; omega⟩
          · rw [y2, x3]; simp only [owid]; omega
          · rw [x4]; omega
          · simp only [hei, ohei] at *; omega
/-- with one child more -/
def wt : Sh → Nat → Sh
  | .one, _ => .two .one .one
  | .two l r, p => if p ≤ wid l then ep (wt l p) r else ep l (wt r (p - wid l))
theorem wt_ok : ∀ (t : Sh) (p : Nat), bal t → Good (wt t p) (wid t + 1) (hei t) (hei t + 1) := by
  intro t
  induction t with
  | one => intro p b; exact ⟨by simp only [wt, bal, hei]; exact ⟨trivial, trivial, by omega, by omega⟩, rfl, by simp only [wt, hei]; omega, by simp only [wt, hei]; omega⟩
  | two l r il ir =>
    intro p b
    obtain ⟨b1, b2, b3, b4⟩ := b
    simp only [wt]
    by_cases c : p ≤ wid l
    · rw [if_pos c]
      obtain ⟨x1, x2, x3, x4⟩ := il p b1
      obtain ⟨⟨y1, y2, y3, y4⟩, y5⟩ := ep_good x1 b2 (by omega) (by omega)
      refine ⟨y1, by rw [y2, x2]; simp only [wid]; omega, ?_, by simp only [hei]; omega⟩
      simp only [hei]
      by_cases d : hei (wt l p) ≤ hei r + 1
      · rw [y5 d (by omega)]; omega
      · omega
    · rw [if_neg c]
      obtain ⟨x1, x2, x3, x4⟩ := ir (p - wid l) b2
      obtain ⟨⟨y1, y2, y3, y4⟩, y5⟩ := ep_good b1 x1 (by omega) (by omega)
      refine ⟨y1, by rw [y2, x2]; simp only [wid]; omega, ?_, by simp only [hei]; omega⟩
      simp only [hei]
      by_cases d : hei (wt r (p - wid l)) ≤ hei l + 1
      · rw [y5 (by omega) d]; omega
      · omega
/-- with one less -/
def wo : Sh → Nat → Option Sh
  | .one, _ => none
  | .two l r, p => if p < wid l then (match wo l p with
      | none => some r
      | some x => some (ep x r))
    else (match wo r (p - wid l) with
      | none => some l
      | some x => some (ep l x))
theorem wo_ok : ∀ (t : Sh) (p : Nat), bal t → (t = .one ∧ wo t p = none) ∨ ∃ x, wo t p = some x ∧ Good x (wid t - 1) (hei t - 1) (hei t) := by
  intro t
  induction t with
  | one => intro p _; exact .inl ⟨rfl, rfl⟩
  | two l r il ir =>
    intro p b
    obtain ⟨b1, b2, b3, b4⟩ := b
    right
    have wl := wid_pos l
    have wr := wid_pos r
    simp only [wo]
    by_cases c : p < wid l
    · rw [if_pos c]
      rcases il p b1 with ⟨rfl, e⟩ | ⟨x, e, x1, x2, x3, x4⟩
      · rw [e]
        simp only [hei] at b3 b4
        exact ⟨r, rfl, b2, by simp only [wid]; omega, by simp only [hei]; omega, by simp only [hei]; omega⟩
      · rw [e]
        obtain ⟨⟨y1, y2, y3, y4⟩, y5⟩ := ep_good x1 b2 (by omega) (by omega)
        refine ⟨ep x r, rfl, y1, by rw [y2, x2]; simp only [wid]; omega, by simp only [hei]; omega, ?_⟩
        simp only [hei]
        by_cases d : hei r ≤ hei x + 1
        · rw [y5 (by omega) d]; omega
        · omega
    · rw [if_neg c]
      rcases ir (p - wid l) b2 with ⟨rfl, e⟩ | ⟨x, e, x1, x2, x3, x4⟩
      · rw [e]
        simp only [hei] at b3 b4
        exact ⟨l, rfl, b1, by simp only [wid]; omega, by simp only [hei]; omega, by simp only [hei]; omega⟩
      · rw [e]
        obtain ⟨⟨y1, y2, y3, y4⟩, y5⟩ := ep_good b1 x1 (by omega) (by omega)
        refine ⟨ep l x, rfl, y1, by rw [y2, x2]; simp only [wid]; omega, by simp only [hei]; omega, ?_⟩
        simp only [hei]
        by_cases d : hei l ≤ hei x + 1
        · rw [y5 d (by omega)]; omega
        · omega
end KM

set_option maxHeartbeats 4000000
namespace KM
/-! anything, looked at as a shape: more of it -/
def gh : GS → Nat
  | .one => 0
  | .bad => 0
  | .two l r => 1 + max (gh l) (gh r)
def gl : GS → Nat
  | .one => 1
  | .bad => 1
  | .two l r => gl l + gl r
def isSh : GS → Bool
  | .one => true
  | .bad => false
  | .two l r => isSh l && isSh r
def gsz : GS → Option (Nat × Nat)
  | .one => some (1, 0)
  | .bad => none
  | .two l r => match gsz l, gsz r with
    | some (a, b), some (c, d) => if b ≤ d + 1 ∧ d ≤ b + 1 then some (a + c, 1 + max b d) else none
    | _, _ => none
theorem gl_pos : ∀ g : GS, 1 ≤ gl g
  | .one => Nat.le_refl _
  | .bad => Nat.le_refl _
  | .two l r => by have := gl_pos l; simp only [gl]; omega
theorem gh_lt : ∀ g : GS, gh g < gl g
  | .one => by decide
  | .bad => by decide
  | .two l r => by have := gh_lt l; have := gh_lt r; simp only [gl, gh]; omega
theorem isSh_g : ∀ s : Sh, isSh s.g = true
  | .one => rfl
  | .two l r => by simp only [Sh.g, isSh, isSh_g l, isSh_g r, Bool.and_self]
theorem sh_of : ∀ g : GS, isSh g = true → ∃ s : Sh, g = s.g
  | .one, _ => ⟨.one, rfl⟩
  | .bad, h => by cases h
  | .two l r, h => by
    simp only [isSh, Bool.and_eq_true] at h
    obtain ⟨a, rfl⟩ := sh_of l h.1
    obtain ⟨b, rfl⟩ := sh_of r h.2
    exact ⟨.two a b, rfl⟩
theorem hei_g : ∀ s : Sh, gh s.g = hei s
  | .one => rfl
  | .two l r => by simp only [Sh.g, gh, hei, hei_g l, hei_g r]
theorem wid_g : ∀ s : Sh, gl s.g = wid s
  | .one => rfl
  | .two l r => by simp only [Sh.g, gl, wid, wid_g l, wid_g r]
theorem g_inj : ∀ {s t : Sh}, s.g = t.g → s = t
  | .one, .one, _ => rfl
  | .one, .two _ _, h => by cases h
  | .two _ _, .one, h => by cases h
  | .two a b, .two c d, h => by
    simp only [Sh.g, GS.two.injEq] at h
    rw [g_inj h.1, g_inj h.2]
theorem gsz_is : ∀ s : Sh, (bal s → gsz s.g = some (wid s, hei s)) ∧ (¬ bal s → gsz s.g = none)
  | .one => ⟨fun _ => rfl, fun h => absurd trivial h⟩
  | .two l r => by
    obtain ⟨l1, l2⟩ := gsz_is l
    obtain ⟨r1, r2⟩ := gsz_is r
    constructor
    · rintro ⟨a, b, c, d⟩
      simp only [Sh.g, gsz, l1 a, r1 b, wid, hei]
      rw [if_pos ⟨c, d⟩]
    · intro h
      by_cases a : bal l
      · by_cases b : bal r
        · simp only [Sh.g, gsz, l1 a, r1 b]
          exact if_neg fun z => h ⟨a, b, z.1, z.2⟩
        · simp only [Sh.g, gsz, l1 a, r2 b]
      · simp only [Sh.g, gsz, l2 a]
theorem gsz_bad : ∀ g : GS, isSh g = false → gsz g = none
  | .one, h => by cases h
  | .bad, _ => rfl
  | .two l r, h => by
    simp only [isSh, Bool.and_eq_false_iff] at h
    rcases h with h | h
    · simp only [gsz, gsz_bad l h]
    · simp only [gsz, gsz_bad r h]
      split
      · rename_i z; cases z
      · rfl
theorem gsz_some {g : GS} {a b : Nat} (h : gsz g = some (a, b)) : ∃ s, g = s.g ∧ bal s ∧ a = wid s ∧ b = hei s := by
  cases e : isSh g with
  | false => rw [gsz_bad g e] at h; cases h
  | true =>
    obtain ⟨s, rfl⟩ := sh_of g e
    by_cases c : bal s
    · rw [(gsz_is s).1 c] at h
      cases h
      exact ⟨s, rfl, c, rfl, rfl⟩
    · rw [(gsz_is s).2 c] at h; cases h
theorem wIn_bad : ∀ (g : GS) (m : Nat), isSh g = false → wIn m g = 0
  | .one, _, h => by cases h
  | .bad, m, _ => by cases m <;> rfl
  | .two l r, 0, _ => rfl
  | .two l r, m + 1, h => by
    simp only [isSh, Bool.and_eq_false_iff] at h
    simp only [wIn]
    rcases h with h | h
    · exact if_pos (.inl (wIn_bad l m h))
    · exact if_pos (.inr (.inl (wIn_bad r m h)))
end KM
namespace KM
theorem bal_L : ∀ s : Sh, bal s → L (hei s) ≤ wid s
  | .one, _ => Nat.le_refl _
  | .two l r, ⟨a, b, c, d⟩ => by
    have hl := bal_L l a
    have hr := bal_L r b
    simp only [hei, wid]
    by_cases k : hei r ≤ hei l
    · rw [Nat.max_eq_left k]
      cases e : hei l with
      | zero =>
        have := wid_pos l
        have := wid_pos r
        simp only [L]
        omega
      | succ n =>
        rw [e] at hl
        have := L_mono (show n ≤ hei r by omega)
        rw [show 1 + (n + 1) = n + 2 by omega]
        simp only [L]
        omega
    · rw [Nat.max_eq_right (by omega)]
      cases e : hei r with
      | zero => omega
      | succ n =>
        rw [e] at hr
        have := L_mono (show n ≤ hei l by omega)
        rw [show 1 + (n + 1) = n + 2 by omega]
        simp only [L]
        omega
theorem hei_20 {s : Sh} (b : bal s) (h : wid s ≤ 20000) : hei s ≤ 20 := by
  have k := bal_L s b
  by_cases c : hei s ≤ 20
  · exact c
  · have := L_mono (show 21 ≤ hei s by omega)
    rw [L_21] at this
    omega
theorem hei_tl {s : Sh} {h : Nat} (b : bal s) (t : Tl (wid s) h) : hei s ≤ h := by
  have k := bal_L s b
  by_cases c : hei s ≤ h
  · exact c
  · have := L_mono (show h + 1 ≤ hei s by omega)
    have := t.2
    omega
end KM

set_option maxHeartbeats 4000000
/-! documents: plain mathematics -/
namespace KM
/-- depths as those of a document -/
def Fo : Nat → List Nat → Prop
  | _, [] => True
  | m, d :: r => d ≤ m ∧ Fo (d + 1) r
theorem Fo.step : ∀ {m : Nat} {ds : List Nat}, Fo m ds → ∀ i, i < ds.length → ds.getD i 0 ≤ (if i = 0 then m else ds.getD (i - 1) 0 + 1)
  | _, [], _, i, h => by simp at h
  | m, d :: r, ⟨a, b⟩, 0, _ => by simpa using a
  | m, d :: r, ⟨a, b⟩, i + 1, h => by
    have k := Fo.step b i (by simpa using h)
    rw [if_neg (by omega)]
    by_cases c : i = 0
    · subst c
      simpa using k
    · rw [if_neg c] at k
      obtain ⟨j, rfl⟩ : ∃ j, i = j + 1 := ⟨i - 1, by omega⟩
      simpa using k
/-- the open nodes ahead of the i-th, from the top on -/
def pa (ds : List Nat) : Nat → List Nat
  | 0 => []
  | i + 1 => (pa ds i).take (ds.getD i 0) ++ [i]
def par (ds : List Nat) (i : Nat) : Option Nat := if ds.getD i 0 = 0 then none else (pa ds i)[ds.getD i 0 - 1]?
theorem pa_len {ds : List Nat} (h : Fo 0 ds) : ∀ i, i ≤ ds.length → (pa ds i).length = (if i = 0 then 0 else ds.getD (i - 1) 0 + 1)
  | 0, _ => rfl
  | i + 1, hi => by
    have k := pa_len h i (by omega)
    have s := h.step i (by omega)
    have r : ds.getD i 0 ≤ (pa ds i).length := by
      rw [k]
      by_cases c : i = 0
      · rw [if_pos c] at s ⊢; exact s
      · rw [if_neg c] at s ⊢; exact s
    rw [if_neg (Nat.succ_ne_zero i), Nat.add_sub_cancel]
    simp only [pa]
    rw [List.length_append, List.length_take, List.length_singleton]
    omega
theorem pa_room {ds : List Nat} (h : Fo 0 ds) {i : Nat} (hi : i < ds.length) : ds.getD i 0 ≤ (pa ds i).length := by
  have k := pa_len h i (by omega)
  have s := h.step i hi
  rw [k]
  by_cases c : i = 0
  · rw [if_pos c] at s ⊢; exact s
  · rw [if_neg c] at s ⊢; exact s
theorem pa_at {ds : List Nat} (h : Fo 0 ds) : ∀ i, i ≤ ds.length → ∀ j x, (pa ds i)[j]? = some x → x < i ∧ ds.getD x 0 = j ∧ par ds x = (if j = 0 then none else (pa ds i)[j - 1]?)
  | 0, _, j, x, e => by simp [pa] at e
  | i + 1, hi, j, x, e => by
    have room := pa_room h (i := i) (by omega)
    have lt : ((pa ds i).take (ds.getD i 0)).length = ds.getD i 0 := by rw [List.length_take]; omega
    simp only [pa] at e ⊢
    rcases Nat.lt_trichotomy j (ds.getD i 0) with c | c | c
    · rw [List.getElem?_append_left (by omega), List.getElem?_take, if_pos c] at e
      obtain ⟨a, b, d⟩ := pa_at h i (by omega) j x e
      refine ⟨by omega, b, ?_⟩
      rw [d]
      by_cases z : j = 0
      · rw [if_pos z, if_pos z]
      · rw [if_neg z, if_neg z, List.getElem?_append_left (by omega), List.getElem?_take, if_pos (by omega)]
    · subst c
      rw [List.getElem?_append_right (by omega), lt, Nat.sub_self] at e
      obtain rfl : i = x := by simpa using e
      refine ⟨by omega, rfl, ?_⟩
      unfold par
      by_cases z : ds.getD i 0 = 0
      · rw [if_pos z, if_pos z]
      · rw [if_neg z, if_neg z, List.getElem?_append_left (by omega), List.getElem?_take, if_pos (by omega)]
    · rw [List.getElem?_append_right (by omega), lt] at e
      obtain ⟨q, hq⟩ : ∃ q, j - ds.getD i 0 = q + 1 := ⟨j - ds.getD i 0 - 1, by omega⟩
      rw [hq] at e
      simp at e
theorem par_lt {ds : List Nat} (h : Fo 0 ds) {i k : Nat} (hi : i < ds.length) (e : par ds i = some k) : k < i := by
  unfold par at e
  by_cases c : ds.getD i 0 = 0
  · rw [if_pos c] at e; cases e
  · rw [if_neg c] at e
    exact (pa_at h i (by omega) _ _ e).1
/-- how many of the first n nodes have a parent -/
def cnt (ds : List Nat) : Nat → Option Nat → Nat
  | 0, _ => 0
  | n + 1, p => cnt ds n p + (if par ds n = p then 1 else 0)
theorem cnt_le (ds : List Nat) : ∀ n p, cnt ds n p ≤ n
  | 0, _ => Nat.le_refl _
  | n + 1, p => by
    have := cnt_le ds n p
    simp only [cnt]
    split <;> omega
/-- the sums on the way down -/
def suL (ds : List Nat) (T : Nat → Nat) (top : Nat) : Nat → List Nat
  | 0 => []
  | i + 1 => suL ds T top i ++ [(match par ds i with
    | none => top
    | some k => (suL ds T top i).getD k 0) + 1 + T i]
theorem suL_len (ds : List Nat) (T : Nat → Nat) (top : Nat) : ∀ i, (suL ds T top i).length = i
  | 0 => rfl
  | i + 1 => by simp only [suL, List.length_append, List.length_singleton, suL_len ds T top i]
theorem suL_top {ds : List Nat} (h : Fo 0 ds) (T : Nat → Nat) (top : Nat) : ∀ i, i ≤ ds.length → ∀ x ∈ suL ds T top i, top ≤ x
  | 0, _, x, z => by cases z
  | i + 1, hi, x, z => by
    simp only [suL, List.mem_append, List.mem_singleton] at z
    rcases z with z | z
    · exact suL_top h T top i (by omega) x z
    · cases e : par ds i with
      | none =>
        rw [e] at z
        simp only at z
        omega
      | some k =>
        rw [e] at z
        simp only at z
        have kl := par_lt h (by omega) e
        have hk : k < (suL ds T top i).length := by rw [suL_len]; exact kl
        have := suL_top h T top i (by omega) _ (List.getElem_mem hk)
        rw [List.getD_eq_getElem?_getD, List.getElem?_eq_getElem hk] at z
        simp only [Option.getD_some] at z
        omega
end KM

set_option maxHeartbeats 4000000
/-! rules that the kit lacks: enumerate of a tuple -/
namespace PySem
open Sem (wp)
theorem meets_enum1 {v : Value} {o : Obj} {G : Heap → Prop} (B : Begins v o G) : Meets (Builtin.«enumerate.__new__» ⟨[.type "enumerate", v], []⟩) fun _ R s =>
    G s.heap ∧ R (.ok (.ret (.ref (s.heap.push o).objs.size))) { s with heap := (s.heap.push o).push { cls := .type "enumerate", data := .fields #[.none, .bool false, .ref s.heap.objs.size, rawInt 0, .none, .none] } } := .of_wp fun prog w A R s h => by
  obtain ⟨hp, g, d, tk, os⟩ := s
  obtain ⟨h1, h⟩ := h
  have hsub := sub_enumerate
  have it1 : ∀ {A' : Around} {E Q : Value → Shared → Prop}, Q (.ref hp.objs.size) ⟨hp.push o, g, d, tk, os⟩ → wpAny (model prog w) A' (pyIter v) Q E ⟨hp, g, d, tk, os⟩ := fun q => B.iter prog w _ _ ⟨hp, g, d, tk, os⟩ _ h1 q
  wp_walk using it1
  refine wpAny_stack_any fun st => wpAny_pure ?_
  split
  · rename_i c _ _ _ _ _
    cases (c == Value.type "enumerate") <;> (wp_walk using it1; exact ⟨_, rfl, h⟩)
  · wp_walk using it1
    exact ⟨_, rfl, h⟩
theorem enum1_begins {prog : Program} {w : World} {A : Around} {E : Value → Shared → Prop} {s : Shared} {v : Value} {o : Obj} {G : Heap → Prop} {Q : Value → Shared → Prop} (B : Begins v o G) (h1 : G s.heap)
    (h : ∀ h', IsEnum h' (s.heap.objs.size + 1) s.heap.objs.size 0 .none → h'.get? s.heap.objs.size = some o → (∀ b o', s.heap.get? b = some o' → h'.get? b = some o') → Q (.ref (s.heap.objs.size + 1)) { s with heap := h' }) :
    wpAny (model prog w) A (call (.type "enumerate") [v]) Q E s := by
  refine callType_new F.called_enumerate (by decide) (F.typeCall_enumerate_1 _) (F.newCall_enumerate_1 _) (fun obj => F.args_object_init_2 obj _) F.entry_enumerate_new (meets_enum1 B) ⟨h1, ?_⟩
  have hz : (s.heap.push o).objs.size = s.heap.objs.size + 1 := Heap.size_push ..
  show _ ∧ _
  rw [hz]
  have he : IsEnum ((s.heap.push o).push { cls := .type "enumerate", data := .fields #[.none, .bool false, .ref s.heap.objs.size, rawInt 0, .none, .none] }) (s.heap.objs.size + 1) s.heap.objs.size 0 .none := by
    have z := Heap.get?_push_size (s.heap.push o) (o := { cls := .type "enumerate", data := .fields #[.none, .bool false, .ref s.heap.objs.size, rawInt 0, .none, .none] }) rfl
    rwa [hz] at z
  exact ⟨⟨_, he, rfl⟩, h _ he (Heap.get?_push_of_some _ (Heap.get?_push_size _ B.free)) fun b o' x => Heap.get?_push_of_some _ (Heap.get?_push_of_some _ x)⟩
end PySem
namespace KB
open PySem PySem.Spec PyProof.Rows L2
/-- the tuple at a, of n items, each item in a new pair -/
def IteT (K : PySem.W.Frag) (a : Addr) (n : Nat) : It :=
  ⟨fun i H => ∃ (xs : List V) (x : V), SqT K H a xs ∧ xs.length = n ∧ xs[i]? = some x,
   fun i H v H' => ∃ T x, v = .ref T ∧ H T = none ∧ H' = L2.upd H T (.tup [.int (i : Nat), x]) ∧ ∀ xs, SqT K H a xs → xs[i]? = some x,
   fun i H => ∃ xs : List V, SqT K H a xs ∧ xs.length = n ∧ n ≤ i⟩
theorem tup_apart {h : Heap} {e it a : Addr} {items : Array Value} {i j : Nat} {old : Value} (he : IsEnum h e it (j : Int) old) (hi : h.IsTupleIter it a i) (ht : h.IsTuple a items) : a ≠ it ∧ e ≠ a := by
  obtain ⟨o1, q1, c1, _⟩ := hi
  obtain ⟨o2, q2, c2, _⟩ := ht
  refine ⟨fun z => ?_, fun z => ?_⟩
  · rw [z, q1] at q2
    cases q2
    rw [c1] at c2
    injection c2 with z
    exact absurd z (by decide)
  · rw [← z] at q2
    have q3 : h.get? e = _ := he
    rw [q2] at q3
    cases q3
    injection c2 with z
    exact absurd z (by decide)
theorem turn_enumT {P : Program} {w : World} {K : PySem.W.Frag} {elts : List Expr} {kk n : Nat} {tpos : Pos} (a e it : Addr) :
    Turn P w K (.Tuple elts kk tpos) (IteT K a n) [e, it] e (fun i h => i ≤ n ∧ (∃ old, IsEnum h e it ((i : Nat) : Int) old) ∧ h.IsTupleIter it a i ∧ e ≠ it) where
  mem := by simp
  obj := fun i h st b hb => by
    obtain ⟨_, ⟨old, he⟩, ⟨o, ho, hc, hd⟩, _⟩ := st
    rcases List.mem_cons.mp hb with z | z
    · rw [z]
      exact ⟨_, he, fun v q => nomatch q⟩
    · rw [List.mem_singleton.mp z]
      exact ⟨o, ho, fun v q => by rw [hd] at q; cases q⟩
  keep := fun i h h' st k => by
    obtain ⟨hn, ⟨old, he⟩, hi, hne⟩ := st
    exact ⟨hn, ⟨old, k e (by simp) _ he⟩, hi.at fun o q => k it (by simp) o q, hne⟩
  item := by
    intro X hP hw hK hc i pins s σ H E I hf st hg
    subst hP hw hK
    obtain ⟨hin, ⟨old, he⟩, hit, hne⟩ := st
    obtain ⟨xs, x, hq, hlen, hx⟩ := hg
    obtain ⟨its, rv, p, hz⟩ := I.tuple hq
    obtain ⟨u, hu, ru⟩ := rv.get hx
    have p' : s.heap.IsTuple a its.toArray := p
    obtain ⟨n1, n2⟩ := tup_apart he hit p'
    have hh : X.A.in1.handled = none := I.ok.hd hc
    have hel : e < s.heap.objs.size := Heap.lt_size he
    have hil : it < s.heap.objs.size := by
      obtain ⟨_, q, _⟩ := hit
      exact Heap.lt_size q
    have hlt : i < its.toArray.size := by
      have := (List.getElem?_eq_some_iff.mp hu).1
      simpa using this
    refine wpAny_pyNext_enum_itemD (Draws.tuple hh it a n1 its.toArray) he ⟨hit, p'⟩ hlt hne (by simp [hne, n2]) fun y h' tk hy ho hst hT hsz hk => ?_
    have ey : y = u := by
      have hy' : its.toArray[i]? = some y := hy
      rw [List.getElem?_toArray, hu] at hy'
      exact (Option.some.inj hy').symm
    subst ey
    refine ⟨_, rfl, wpAny_letOwnedTupleGo_enum (s := { s with heap := h', toks := tk + 1 }) ho fun h'' he' sb => ?_⟩
    have hT2 : h''.get? s.heap.objs.size = some { cls := .type "tuple", data := .seq #[.int i tk, y] } := (sb.2 _ (Nat.ne_of_gt hel)).trans hT
    have new : ObjOk X.prog X.w (L2.upd H s.heap.objs.size (.tup [.int (i : Nat), x])) h'' s.heap.objs.size (.tup [.int (i : Nat), x]) :=
      ⟨by show 2 ≤ sizeLine; decide, [.int i tk, y], .cons ⟨_, rfl⟩ (.cons ru .nil), ⟨_, hT2, rfl, _, rfl⟩⟩
    have I1 : Inv X pins σ (L2.upd H s.heap.objs.size (.tup [.int (i : Nat), x])) { s with heap := h'', toks := tk + 1 } :=
      I.turnedNew (ch := [e, it]) (fun b ob hb q => (sb.2 b (fun z => hb (by simp [z]))).trans (hk b ob (fun z => hb (by simp [z])) (fun z => hb (by simp [z])) q)) hf (Nat.le_refl _) new
    have hlx := rv.length
    refine ⟨.ref s.heap.objs.size, _, I1, rfl, ⟨_, x, rfl, I.hok.fresh (Nat.le_refl _), rfl, fun ys hy => by rw [I.tuple_inj hy hq]; exact hx⟩, ⟨?_, ⟨y, ?_⟩, ?_, hne⟩, fun b hb => ?_⟩
    · rw [List.size_toArray] at hlt
      omega
    · have e1 : ((i + 1 : Nat) : Int) = (i : Int) + 1 := by omega
      rw [e1]
      exact he'
    · exact hst.1.at fun o q => (sb.2 it (Ne.symm hne)).trans q
    · have hb' : b < s.heap.objs.size := by
        rcases List.mem_cons.mp hb with z | z
        · rw [z]; exact hel
        · rw [List.mem_singleton.mp z]; exact hil
      rw [upd_ne (Nat.ne_of_lt hb')]
      exact (hf b hb).1
  done := by
    intro X hP hw hK hc i pins s σ H E I hf st hg
    subst hP hw hK
    obtain ⟨hin, ⟨old, he⟩, hit, hne⟩ := st
    obtain ⟨xs, hq, hlen, hx⟩ := hg
    obtain ⟨its, rv, p, hz⟩ := I.tuple hq
    have p' : s.heap.IsTuple a its.toArray := p
    obtain ⟨n1, n2⟩ := tup_apart he hit p'
    have hh : X.A.in1.handled = none := I.ok.hd hc
    obtain ⟨f0, f1, f2, f3, f4, f5⟩ := hf it (by simp)
    have hl := rv.length
    have ei : i = its.toArray.size := by rw [List.size_toArray]; omega
    have st2 : s.heap.IsTupleIter it a its.toArray.size ∧ s.heap.IsTuple a its.toArray := ⟨by rw [← ei]; exact hit, p'⟩
    exact wpAny_pyNext_enum_endD (Draws.tuple hh it a n1 its.toArray) he st2 fun h' eb => ⟨rfl, I.turned (t' := s.toks) (fun b o hb q => eb b o hb q) f0 f1 f3 f4 f5⟩
  self := fun A i s Q E st h => let ⟨_, ⟨_, he⟩, _⟩ := st; wpAny_pyIter_enum he h
def iEnumT (K : PySem.W.Frag) (ta : TA) : TI := fun σ H R => ta σ H fun vs H1 => ∃ a xs, vs = [.ref a] ∧ SqT K H1 a xs ∧ R (IteT K a xs.length) H1
theorem pi_enumT {X : Cx} {e : Expr} {ta : TA} {p pos tpos : Pos} {elts : List Expr} {kk : Nat} (hg : Gl X "enumerate") (hm : X.mg "enumerate" = none) (ha : PA X [e] ta)
    (hs : starEach [e] X.env = [(false, eval e X.env)] := by rfl) : PI X (.Tuple elts kk tpos) (.Call (.Name "enumerate" p) [e] [] pos) (iEnumT X.K ta) := by
  refine ⟨fun pins s σ H R I h => ?_⟩
  refine Call_ (ld_blt I hg hm boot_enumerate (PyProof.Rows.callWith_type1 (thn (ha.run pos pins s σ H _ I h) fun us s1 ⟨vs, H1, I1, r1, q1⟩ => ?_) hs rfl))
  obtain ⟨a, xs, ex, hq, q⟩ := q1
  subst ex
  cases r1 with
  | cons r rr =>
    cases rr
    cases r
    obtain ⟨its, rv, p', hz⟩ := I1.tuple hq
    refine enum1_begins (begins_tuple a its.toArray) p' fun h' he hit hk => wpAny_pyIter_enum he ?_
    have I2 : Inv X pins σ H1 { s1 with heap := h' } := I1.kept (t' := s1.toks) hk
    refine ⟨s1.heap.objs.size + 1, [s1.heap.objs.size + 1, s1.heap.objs.size], _, _, H1, rfl, I2, turn_enumT a (s1.heap.objs.size + 1) s1.heap.objs.size, ⟨Nat.zero_le _, ⟨.none, he⟩, ⟨_, hit, rfl, rfl⟩, Nat.succ_ne_self _⟩, fun b hb => ?_, q⟩
    have hle : s1.heap.objs.size ≤ b := by
      rcases List.mem_cons.mp hb with z | z
      · rw [z]; exact Nat.le_add_right _ _
      · rw [List.mem_singleton.mp z]; exact Nat.le_refl _
    exact I1.fpOk hle (I1.hok.fresh hle)
theorem i_enumT {K : PySem.W.Frag} {ta : TA} {σ : L2.St} {H : Hp} {R : It → Hp → Prop} (q : ta σ H fun vs H1 => ∃ a xs, vs = [.ref a] ∧ SqT K H1 a xs ∧ R (IteT K a xs.length) H1) : iEnumT K ta σ H R := q
/-- the turns of for i, x in enumerate(a tuple) -/
theorem for_enumT {K : PySem.W.Frag} {a : Addr} {xs : List V} {g : TG} {tb : TS} {D : Ends} {σ : L2.St} {H : Hp} (Pv : Nat → L2.St → Hp → Prop) (h0 : Pv 0 σ H) (hl : ∀ i s h, i ≤ xs.length → Pv i s h → SqT K h a xs)
    (hs : ∀ i x s h T, xs[i]? = some x → Pv i s h → h T = none → g (.ref T) s (L2.upd h T (.tup [.int (i : Nat), x])) fun s2 h2 => tb { D with nx := Pv (i + 1), ct := Pv (i + 1), bk := D.nx } s2 h2) (hd : ∀ s h, Pv xs.length s h → D.nx s h) :
    ∃ W : Nat → Nat → L2.St → Hp → Prop, (∃ m, W 0 m σ H) ∧ ∀ i m s h, W i m s h → ((IteT K a xs.length).stop i h ∧ D.nx s h) ∨ ((IteT K a xs.length).go i h ∧ ∃ N : L2.St → Hp → Prop, (∀ s' h', N s' h' → ∃ m', m' < m ∧ W (i + 1) m' s' h') ∧
      ∀ x h', (IteT K a xs.length).yld i h x h' → g x s h' fun s2 h2 => tb { D with nx := N, ct := N, bk := D.nx } s2 h2) := by
  refine ⟨fun i m s h => m = xs.length - i ∧ i ≤ xs.length ∧ Pv i s h, ⟨xs.length, by simp, Nat.zero_le _, h0⟩, ?_⟩
  rintro i m s h ⟨rfl, hi, p⟩
  have q := hl i s h hi p
  by_cases hlt : i < xs.length
  · refine .inr ⟨⟨xs, xs[i], q, rfl, by simp [hlt]⟩, Pv (i + 1), fun s' h' p' => ⟨xs.length - (i + 1), by omega, rfl, hlt, p'⟩, fun x h' y => ?_⟩
    obtain ⟨T, x', rfl, hT, rfl, y⟩ := y
    exact hs i x' s h T (y xs q) p hT
  · have e : i = xs.length := by omega
    subst e
    exact .inl ⟨⟨xs, q, rfl, Nat.le_refl _⟩, hd s h p⟩
end KB
namespace KB
open PySem PySem.Spec PyProof.Rows L2
/-! max(a list of ints, default=d) -/
def rMaxDef (K : PySem.W.Frag) : List V → List V → Hp → VK → Prop := fun vs ws H Q => ∃ (a : Addr) (ns : List Int) (d : Int), vs = [.ref a] ∧ ws = [.int d] ∧ SqL K H a (ns.map V.int) ∧ (ns = [] → Q (.int d) H) ∧ (ns ≠ [] → ∀ m, m ∈ ns → (∀ y ∈ ns, y ≤ m) → Q (.int m) H)
theorem vals_at {ns : List Int} {us : List Value} (h : Vals (ns.map V.int) us) (i : Nat) (v : Value) (e : us[i]? = some v) : i < ns.length ∧ ∃ t, v = .int (ns.getD i 0) t := by
  induction ns generalizing us i with
  | nil =>
    rw [List.map_nil] at h
    cases h
    cases e
  | cons n ns ih =>
    rw [List.map_cons] at h
    cases h with
    | cons r t =>
      cases i with
      | zero =>
        obtain ⟨k, rfl⟩ := r
        cases e
        exact ⟨by simp, k, rfl⟩
      | succ i =>
        obtain ⟨h1, h2⟩ := ih t i e
        exact ⟨by simp only [List.length_cons]; omega, h2⟩
theorem cr_maxDef {X : Cx} (hc : X.calm = true) : CallRK X (.builtin "max") [Str.ofString "default"] (rMaxDef X.K) := by
  intro pins s σ H vs zs us ws Q I r rz h
  obtain ⟨a, ns, d, rfl, rfl, hs, q0, q1⟩ := h
  obtain rfl := Vals.ref1 r
  obtain ⟨w1, rfl, e1⟩ := vals1 rz
  obtain ⟨t1, rfl⟩ := e1
  obtain ⟨its, rv, hl, hz⟩ := I.list hs
  have hlen : ns.length = its.length := by have := rv.length; rwa [List.length_map] at this
  have hh : X.A.in1.handled = none := I.ok.hd hc
  show wpAny _ _ (call (.builtin "max") [.ref a] [(Str.ofString "default", .int d t1)]) _ _ _
  have pv : ∀ (i : Nat) (v : Value), its.toArray[i]? = some v → ∃ t, v = Value.int (ns.getD i 0) t := fun i v e => (vals_at rv i v (by rwa [List.getElem?_toArray] at e)).2
  refine call_max_walkD (PySem.W.iter_listW (A := X.A.in1) hh hl.isList fun s2 e W st hfp hw hk => ?_)
  refine ⟨_, _, _, _, _, _, _, s.heap, fun i j => decide (ns.getD i 0 > ns.getD j 0), rfl, W, st, hfp, hw, hk, fun hz s' m => ?_, fun hp => ⟨fun i j vi vj s Q E _ hi hj h => CmpOf.ints_gt (fun i => ns.getD i 0) pv i j vi vj s Q E hi hj h, fun v s' hP m => ?_⟩⟩
  · obtain ⟨h', tk, rfl, hk'⟩ := PySem.W.moved_old e rfl m
    have en : ns = [] := List.eq_nil_of_length_eq_zero (by rw [hlen]; simpa using hz)
    exact ⟨.int d, H, I.kept (t' := tk) hk', ⟨t1, rfl⟩, q0 en⟩
  · obtain ⟨h', tk, rfl, hk'⟩ := PySem.W.moved_old e rfl m
    have hP' : its.toArray[argBest (fun i j => decide (ns.getD i 0 > ns.getD j 0)) (its.toArray.size - 1)]? = some v := hP
    rw [List.getElem?_toArray] at hP'
    obtain ⟨hb, t, rfl⟩ := vals_at rv _ _ hP'
    obtain ⟨b1, b2⟩ := argBest_gt (fun i => ns.getD i 0) (its.toArray.size - 1)
    refine ⟨.int _, H, I.kept (t' := tk) hk', ⟨t, rfl⟩, q1 ?_ _ ?_ fun y hy => ?_⟩
    · intro z
      rw [z] at hb
      cases hb
    · rw [List.getD_eq_getElem?_getD, List.getElem?_eq_getElem hb]
      exact List.getElem_mem hb
    · obtain ⟨j, hj, rfl⟩ := List.mem_iff_getElem.mp hy
      have := b2 j (by rw [List.size_toArray]; omega)
      rw [List.getD_eq_getElem?_getD, List.getElem?_eq_getElem hj] at this
      exact this
theorem i_kw {r : List V → List V → Hp → VK → Prop} {t tk : TA} {σ : L2.St} {H : Hp} {Q : VK} (q : t σ H fun vs H1 => tk σ H1 fun zs H2 => r vs zs H2 Q) : tCKw r t tk σ H Q := q
end KB

set_option maxHeartbeats 4000000
namespace KB
open PySem PySem.Spec PyProof.Rows L2
/-! dicts that have None among their keys -/
def kN : Option Key → V
  | none => .non
  | some k => kV k
theorem kN_is {P : Program} {w : World} {k : Option Key} {u : Value} (r : RelV (kN k) u) : (noneKind P w).is k u = true := by
  cases k with
  | none =>
    obtain rfl : u = Value.none := r
    rfl
  | some k => exact kV_is (P := P) (w := w) r
/-- a dict with such keys -/
def DNo (P : Program) (w : World) (a : Addr) (kvs : List (Option Key × V)) : HO :=
  .ext fun h => kvs.length ≤ sizeLine ∧ (a == sysModules) = false ∧ ∃ vs, KV kvs vs ∧ h.DictOf (noneKind P w) a vs
theorem dno_new {P : Program} {w : World} {H : Hp} {h : Heap} {a : Addr} {kvs : List (Option Key × V)} {vs : List (Option Key × Value)} (z : kvs.length ≤ sizeLine) (hd : (a == sysModules) = false) (rel : KV kvs vs)
    (dd : h.DictOf (noneKind P w) a vs) : ObjOk P w H h a (DNo P w a kvs) := by
  refine ⟨⟨z, hd, vs, rel, dd⟩, ?_, fun h1 h2 x k => ?_⟩
  · obtain ⟨o, _, _, e, _⟩ := dd
    exact ⟨o, e⟩
  · obtain ⟨z, hd, vs, rel, o, es, ep, e, r⟩ := x
    exact ⟨z, hd, vs, rel, o, es, ep, k _ e, r⟩
def HasN (P : Program) (w : World) (H : Hp) (a : Addr) (kvs : List (Option Key × V)) : Prop := H a = some (DNo P w a kvs) ∨ (kvs = [] ∧ H a = some (.dK []))
section
variable {X : Cx} {pins : List (Addr × Obj)} {s : Shared} {σ : L2.St} {H : Hp} {a : Addr} {kvs : List (Option Key × V)} {A : Around} {E : Value → Shared → Prop}
theorem HasN.rd (g : HasN X.prog X.w H a kvs) (I : Inv X pins σ H s) : kvs.length ≤ sizeLine ∧ (a == sysModules) = false ∧ ∃ vs, KV kvs vs ∧ s.heap.DictOf (noneKind X.prog X.w) a vs := by
  rcases g with g | ⟨rfl, g⟩
  · obtain ⟨x, _⟩ := I.hok a _ g
    exact x
  · obtain ⟨z, hd, vs, rel, dd⟩ := I.hok a _ g
    cases rel
    refine ⟨z, hd, [], .nil, ?_⟩
    obtain ⟨o, es, ep, ho, hx, hdt, hk, hp, hn⟩ := dd
    have he : es = #[] := by
      cases hq : es.toList with
      | nil => exact Array.toList_eq_nil_iff.mp hq
      | cons e r =>
        rw [hq] at hp
        cases hp
    subst he
    exact ⟨o, #[], ep, ho, hx, hdt, fun e he => by simp at he, .nil, List.nodup_nil⟩
theorem HasN.mut (g : HasN X.prog X.w H a kvs) : Mut (H a) := by
  rcases g with g | ⟨_, g⟩ <;> (rw [g]; exact True.intro)
theorem n_put {k : Option Key} {u r : Value} {v : V} {Q : Unit → Shared → Prop} (I : Inv X pins σ H s) (g : HasN X.prog X.w H a kvs) (hl : kvs.length < sizeLine) (ry : RelV (kN k) u) (rv : RelV v r)
    (h : ∀ s', Inv X pins σ (L2.upd H a (DNo X.prog X.w a (putK kvs k v))) s' → Q () s') : wpAny (model X.prog X.w) A (setItem (.ref a) u r) Q E s := by
  obtain ⟨z, hd, vs, rel, dd⟩ := g.rd I
  refine wpAny_setItem_pairs (hsz := by rw [← rel.length]; exact z) (kN_is ry) dd fun h' dd' hs => h _ ?_
  have hp : (putK kvs k v).length ≤ sizeLine := by
    have := length_putK kvs k v
    omega
  obtain ⟨q, hq⟩ : ∃ q, h'.get? a = some q := by
    obtain ⟨q, _, _, hq, _⟩ := dd'
    exact ⟨q, hq⟩
  exact d_write I g.mut hs ⟨q, hq⟩ (dno_new hp hd (rel.put k rv) dd')
theorem n_get {k : Option Key} {u : Value} {v : V} {Q : Value → Shared → Prop} (I : Inv X pins σ H s) (g : HasN X.prog X.w H a kvs) (l : valV kvs k = some v) (ry : RelV (kN k) u) (h : ∀ w' s', Inv X pins σ H s' → RelV v w' → Q w' s') :
    wpAny (model X.prog X.w) A (getItem (.ref a) u) Q E s := by
  obtain ⟨z, hd, vs, rel, dd⟩ := g.rd I
  obtain ⟨w', hw, rw'⟩ := RelO.some_of (v := v) (o := valueAt vs k) (by rw [← l]; exact rel.val k)
  exact wpAny_getItem_of (kN_is ry) dd.mapOf hw (h w' _ (I.tok _) rw')
theorem n_in {k : Option Key} {u : Value} {Q : Value → Shared → Prop} (I : Inv X pins σ H s) (g : HasN X.prog X.w H a kvs) (ry : RelV (kN k) u) (h : ∀ s', Inv X pins σ H s' → Q (.bool (valV kvs k).isSome) s') :
    wpAny (model X.prog X.w) A (compareOp .In u (.ref a)) Q E s := by
  obtain ⟨z, hd, vs, rel, dd⟩ := g.rd I
  refine wpAny_in_of (kN_is ry) hd dd.mapOf ?_
  have q := h _ (I.tok (s.toks + 1))
  rwa [(rel.val k).isSome_eq] at q
theorem n_get2 {k : Option Key} {u r : Value} {d : V} {Q : Value → Shared → Prop} (I : Inv X pins σ H s) (g : HasN X.prog X.w H a kvs) (ry : RelV (kN k) u) (rd : RelV d r)
    (h : ∀ w' s', Inv X pins σ H s' → RelV ((valV kvs k).getD d) w' → Q w' s') : wpAny (model X.prog X.w) A (call (.builtin "dict.get") [.ref a, u, r]) Q E s := by
  obtain ⟨z, hd, vs, rel, dd⟩ := g.rd I
  refine call_meetsIn PySem.F.slot_dict_get dd.typeIs PySem.F.entry_dict_get (PySem.F.args_dict_get_3 _ _ _)
    (meets_dict_get_default (noneKind X.prog X.w) a (kN_is ry) hd r) ⟨_, dd.mapOf, ?_⟩
  exact h _ _ (I.tok _) ((rel.val k).getD rd)
end
def tNGet (P : Program) (w : World) (td ty : TE) : TE := fun σ H Q => td σ H fun x H1 => ty σ H1 fun y H2 => ∃ a kvs k v, x = .ref a ∧ HasN P w H2 a kvs ∧ y = kN k ∧ valV kvs k = some v ∧ Q v H2
def tNGet2 (P : Program) (w : World) (td ty tx : TE) : TE := fun σ H Q => td σ H fun x H1 => ∃ a, x = .ref a ∧ (∃ kvs, HasN P w H1 a kvs) ∧ ty σ H1 fun y H2 => tx σ H2 fun z H3 => ∃ kvs k, HasN P w H3 a kvs ∧ y = kN k ∧ Q ((valV kvs k).getD z) H3
def tNIn (P : Program) (w : World) (ty td : TE) : TE := fun σ H Q => ty σ H fun y H1 => td σ H1 fun x H2 => ∃ a kvs k, x = .ref a ∧ HasN P w H2 a kvs ∧ y = kN k ∧ Q (.bl (valV kvs k).isSome) H2
def sNPut (P : Program) (w : World) (td ty tv : TE) : TS := fun D σ H => tv σ H fun v H1 => td σ H1 fun x H2 => ty σ H2 fun y H3 => ∃ a kvs k, x = .ref a ∧ HasN P w H3 a kvs ∧ y = kN k ∧ kvs.length < sizeLine ∧ D.nx σ (L2.upd H3 a (DNo P w a (putK kvs k v)))
section
variable {X : Cx} {o i e f value : Expr} {td ty tv tx : TE} {pos pos' apos cpos : Pos}
theorem pe_nget (ho : PE X o td) (hi : PE X i ty) (hs : NoSl i) : PE X (.Subscript o i pos) (tNGet X.prog X.w td ty) := by
  refine ⟨fun pins s σ H Q I h => subD_of PySem.F.slot_dict_getitem.lookup hs (thn (ho.run pins s σ H _ I h) fun u s1 ⟨x, H1, I1, rx, q1⟩ => thn (hi.run pins s1 σ H1 _ I1 q1) fun iv s2 ⟨y, H2, I2, ry, a, kvs, k, v, ex, g, ey, l, q2⟩ => ?_)⟩
  subst ex
  subst ey
  obtain rfl : u = Value.ref a := rx
  obtain ⟨z, hd, vs, rel, dd⟩ := g.rd I2
  exact ⟨dd.typeIs, n_get I2 g l ry fun w' s3 I3 rw' => ⟨v, H2, I3, rw', q2⟩⟩
theorem ps_nput (ho : PE X o td) (hi : PE X i ty) (hv : PE X value tv) (hs : swapsWith value (some (.Subscript o i pos')) pos.line X.env = pure false) :
    PS X (.Assign [.Subscript o i pos'] value pos) (sNPut X.prog X.w td ty tv) := by
  refine ⟨fun pins s σ H D I h => wpAny_Assign_Subscript (thn (hv.run pins s σ H _ I h) fun r s1 ⟨v, H1, I1, rv, q1⟩ => thn (ho.run pins s1 σ H1 _ I1 q1) fun u s2 ⟨x, H2, I2, rx, q2⟩ =>
    thn (hi.run pins s2 σ H2 _ I2 q2) fun iv s3 ⟨y, H3, I3, ry, a, kvs, k, ex, g, ey, l, q3⟩ => ?_) hs⟩
  subst ex
  subst ey
  obtain rfl : u = Value.ref a := rx
  exact n_put I3 g l ry rv fun s4 I4 => ⟨σ, _, I4, q3⟩
theorem pc_nin (hi : PE X i ty) (ho : PE X o td) : PC X .In i o (tNIn X.prog X.w ty td) := by
  refine ⟨fun pins s σ H Q I h => ?_⟩
  refine thn (hi.run pins s σ H _ I h) fun iv s1 ⟨y, H1, I1, ry, q1⟩ => thn (ho.run pins s1 σ H1 _ I1 q1) fun u s2 ⟨x, H2, I2, rx, a, kvs, k, ex, g, ey, q2⟩ => ?_
  subst ex
  subst ey
  obtain rfl : u = Value.ref a := rx
  exact n_in I2 g ry fun s3 I3 => ⟨.bl _, H2, I3, rfl, q2⟩
theorem pe_nget2 (ho : PE X o td) (he : PE X e ty) (hf : PE X f tx) (m : M2 X o "get" apos e f cpos) : PE X (.Call (.Attribute o "get" apos) [e, f] [] cpos) (tNGet2 X.prog X.w td ty tx) := by
  refine ⟨fun pins s σ H Q I h => wpAny_Call_method m.base m.few m.line PySem.F.plainAttrs_dict PySem.F.slot_dict_get PySem.F.type_dict_get (thn (ho.run pins s σ H _ I h) fun u s1 ⟨x, H1, I1, rx, a, ex, ⟨kv0, g0⟩, q1⟩ => ?_)⟩
  subst ex
  obtain rfl : u = Value.ref a := rx
  obtain ⟨_, _, _, _, dd⟩ := g0.rd I1
  refine ⟨dd.typeIs, dd.mapOf.noDict, ?_⟩
  rw [m.trees]
  refine Calls.callWith_builtin rfl (Calls.evalArgs_plain (Calls.spliced_cons (thn (he.run pins s1 σ H1 _ I1 q1) fun iv s2 ⟨y, H2, I2, ry, q2⟩ => Calls.spliced_cons
    (thn (hf.run pins s2 σ H2 _ I2 q2) fun fv s3 ⟨z, H3, I3, rz, kvs, k, g, ey, q3⟩ => Calls.spliced_nil ?_))))
  subst ey
  exact n_get2 I3 g ry rz fun w' s4 I4 rw' => ⟨_, H3, I4, rw', q3⟩
end
end KB

set_option maxHeartbeats 4000000
/-! the data layer: slots as data, no heap in sight. Own work over the hand layer. -/
namespace KD
open PySem PySem.Spec PyProof.Rows L2 KB

/-- data; dicts by ints and texts, by tuples of them, by these and None -/
inductive D where
  | non | bl (b : Bool) | int (i : Int) | str (s : Str)
  | tup (l : List D) | lst (l : List D) | ro (l : List D) | dk (m : List (Key × D)) | dt (m : List (List Key × D)) | dn (m : List (Option Key × D)) | tyN (n : String) | ob (C : Addr) (fs : List (Str × D))
/-- what a text's run stands on -/
structure Gb where
  P : Program
  w : World
  K : PySem.W.Frag
def kD : Key → D
  | .inl i => .int i
  | .inr x => .str x
def kO : Option Key → D
  | none => .non
  | some k => kD k
mutual
/-- v is the data d, all of it in F -/
inductive Dp (g : Gb) (F : Hp) : V → D → Prop where
  | non : Dp g F .non .non
  | bl (b : Bool) : Dp g F (.bl b) (.bl b)
  | int (i : Int) : Dp g F (.int i) (.int i)
  | str (s : Str) : Dp g F (.str s) (.str s)
  | tyN (n : String) : Dp g F (.ty n) (.tyN n)
  | tup {a : Addr} {vs : List V} {ds : List D} : F a = some (.tup vs) → DpL g F vs ds → Dp g F (.ref a) (.tup ds)
  | lst {a : Addr} {vs : List V} {ds : List D} : F a = some (.lst vs) → DpL g F vs ds → Dp g F (.ref a) (.lst ds)
  | ro {a : Addr} {vs : List V} {ds : List D} : SqL g.K F a vs → DpL g F vs ds → Dp g F (.ref a) (.ro ds)
  | dk {a : Addr} {kvs : List (Key × V)} {m : List (Key × D)} : F a = some (.dK kvs) → kvs.map (·.1) = m.map (·.1) → DpL g F (kvs.map (·.2)) (m.map (·.2)) → Dp g F (.ref a) (.dk m)
  | dt {a : Addr} {kvs : List (List Key × V)} {m : List (List Key × D)} : F a = some (.dT kvs) → kvs.map (·.1) = m.map (·.1) → DpL g F (kvs.map (·.2)) (m.map (·.2)) → Dp g F (.ref a) (.dt m)
  | dn {a : Addr} {kvs : List (Option Key × V)} {m : List (Option Key × D)} : HasN g.P g.w F a kvs → kvs.map (·.1) = m.map (·.1) → DpL g F (kvs.map (·.2)) (m.map (·.2)) → Dp g F (.ref a) (.dn m)
  | ob {a C dx : Addr} {fv : List (Str × V)} {fs : List (Str × D)} : F a = some (.ins C dx fv) → fv.map (·.1) = fs.map (·.1) → DpL g F (fv.map (·.2)) (fs.map (·.2)) → Dp g F (.ref a) (.ob C fs)
inductive DpL (g : Gb) (F : Hp) : List V → List D → Prop where
  | nil : DpL g F [] []
  | cons {v : V} {d : D} {vs : List V} {ds : List D} : Dp g F v d → DpL g F vs ds → DpL g F (v :: vs) (d :: ds)
end
theorem sqT_mono {K : PySem.W.Frag} {H H' : Hp} {a : Addr} {xs : List V} (e : Same H H') (h : SqT K H a xs) : SqT K H' a xs := by
  rcases h with (h | ⟨o, h⟩) | h
  · exact .inl (.inl (e _ _ h))
  · exact .inl (.inr ⟨o, e _ _ h⟩)
  · exact .inr h
section
variable {g : Gb} {F F' H H' : Hp}
mutual
theorem Dp.mono {v : V} {d : D} (s : Same F F') : Dp g F v d → Dp g F' v d
  | .non => .non
  | .bl b => .bl b
  | .int i => .int i
  | .str x => .str x
  | .tyN n => .tyN n
  | .tup h l => .tup (s _ _ h) (DpL.mono s l)
  | .lst h l => .lst (s _ _ h) (DpL.mono s l)
  | .ro h l => .ro (s.seq h) (DpL.mono s l)
  | .dk h e l => .dk (s _ _ h) e (DpL.mono s l)
  | .dt h e l => .dt (s _ _ h) e (DpL.mono s l)
  | .dn h e l => .dn (h.imp (fun q => s _ _ q) fun q => ⟨q.1, s _ _ q.2⟩) e (DpL.mono s l)
  | .ob h e l => .ob (s _ _ h) e (DpL.mono s l)
theorem DpL.mono {vs : List V} {ds : List D} (s : Same F F') : DpL g F vs ds → DpL g F' vs ds
  | .nil => .nil
  | .cons h t => .cons (Dp.mono s h) (DpL.mono s t)
end
theorem DpL.length : ∀ {vs : List V} {ds : List D}, DpL g F vs ds → vs.length = ds.length
  | _, _, .nil => rfl
  | _, _, .cons _ t => by simp only [List.length_cons, DpL.length t]
theorem DpL.append : ∀ {vs ws : List V} {ds es : List D}, DpL g F vs ds → DpL g F ws es → DpL g F (vs ++ ws) (ds ++ es)
  | _, _, _, _, .nil, h => h
  | _, _, _, _, .cons a t, h => .cons a (DpL.append t h)
theorem DpL.get : ∀ {vs : List V} {ds : List D} {i : Nat} {d : D}, DpL g F vs ds → ds[i]? = some d → ∃ v, vs[i]? = some v ∧ Dp g F v d
  | _, _, _, _, .nil, e => by simp at e
  | _, _, 0, _, .cons a _, e => by
    simp only [List.length_cons, Nat.zero_lt_succ, List.getElem?_eq_getElem, List.getElem_cons_zero, Option.some.injEq] at e
    subst e
    exact ⟨_, rfl, a⟩
  | _, _, i + 1, d, .cons _ t, e => by
    obtain ⟨v, h1, h2⟩ := DpL.get (i := i) (d := d) t (by simpa using e)
    exact ⟨v, by simpa using h1, h2⟩
theorem DpL.getv : ∀ {vs : List V} {ds : List D} {i : Nat} {v : V}, DpL g F vs ds → vs[i]? = some v → ∃ d, ds[i]? = some d ∧ Dp g F v d
  | _, _, _, _, .nil, e => by simp at e
  | _, _, 0, _, .cons a _, e => by
    simp only [List.length_cons, Nat.zero_lt_succ, List.getElem?_eq_getElem, List.getElem_cons_zero, Option.some.injEq] at e
    subst e
    exact ⟨_, rfl, a⟩
  | _, _, i + 1, v, .cons _ t, e => by
    obtain ⟨d, h1, h2⟩ := DpL.getv (i := i) (v := v) t (by simpa using e)
    exact ⟨d, by simpa using h1, h2⟩
theorem DpL.set : ∀ {vs : List V} {ds : List D} {v : V} {d : D} (i : Nat), DpL g F vs ds → Dp g F v d → DpL g F (vs.set i v) (ds.set i d)
  | _, _, _, _, _, .nil, _ => .nil
  | _, _, _, _, 0, .cons _ t, h => .cons h t
  | _, _, _, _, i + 1, .cons a t, h => .cons a (DpL.set i t h)
theorem DpL.take : ∀ {vs : List V} {ds : List D} (n : Nat), DpL g F vs ds → DpL g F (vs.take n) (ds.take n)
  | _, _, 0, _ => .nil
  | _, _, _ + 1, .nil => .nil
  | _, _, n + 1, .cons a t => .cons a (DpL.take n t)
theorem DpL.drop : ∀ {vs : List V} {ds : List D} (n : Nat), DpL g F vs ds → DpL g F (vs.drop n) (ds.drop n)
  | _, _, 0, h => h
  | _, _, _ + 1, .nil => .nil
  | _, _, n + 1, .cons _ t => DpL.drop n t
theorem DpL.reverse : ∀ {vs : List V} {ds : List D}, DpL g F vs ds → DpL g F vs.reverse ds.reverse
  | _, _, .nil => .nil
  | _, _, .cons a t => by
    rw [List.reverse_cons, List.reverse_cons]
    exact (DpL.reverse t).append (.cons a .nil)
end
theorem hasN_mono {P : Program} {w : World} {H H' : Hp} {a : Addr} {kvs : List (Option Key × V)} (h : HasN P w H a kvs) (k : H' a = H a) : HasN P w H' a kvs := h.imp (fun q => k.trans q) fun q => ⟨q.1, k.trans q.2⟩
theorem hasN_has {P : Program} {w : World} {H : Hp} {a : Addr} {kvs : List (Option Key × V)} (h : HasN P w H a kvs) : H a ≠ none := by
  rcases h with e | ⟨_, e⟩
  · rw [e]; exact fun z => nomatch z
  · rw [e]; exact fun z => nomatch z
/-! ### what a slot holds alone -/
inductive OD where
  | fr (d : D)
  | fl (a : Addr) (ds : List D)
  | dk (a : Addr) (m : List (Key × D))
  | dt (a : Addr) (m : List (List Key × D))
  | dn (a : Addr) (m : List (Option Key × D))
  | nl (a : Addr) (os : List OD)
  | ob (a C : Addr) (fs : List (Str × OD))
  | dl (a : Addr) (ks : List Key) (os : List OD)
mutual
def OD.adrs : OD → List Addr
  | .fr _ => []
  | .fl a _ => [a]
  | .dk a _ => [a]
  | .dt a _ => [a]
  | .dn a _ => [a]
  | .nl a os => a :: adrsL os
  | .ob a _ fs => a :: adrsF fs
  | .dl a _ os => a :: adrsL os
def adrsL : List OD → List Addr
  | [] => []
  | o :: os => o.adrs ++ adrsL os
def adrsF : List (Str × OD) → List Addr
  | [] => []
  | (_, o) :: os => o.adrs ++ adrsF os
end
mutual
def OD.data : OD → D
  | .fr d => d
  | .fl _ ds => .lst ds
  | .dk _ m => .dk m
  | .dt _ m => .dt m
  | .dn _ m => .dn m
  | .nl _ os => .lst (dataL os)
  | .ob _ C fs => .ob C (dataF fs)
  | .dl _ ks os => .dk (ks.zip (dataL os))
def dataL : List OD → List D
  | [] => []
  | o :: os => o.data :: dataL os
def dataF : List (Str × OD) → List (Str × D)
  | [] => []
  | (x, o) :: os => (x, o.data) :: dataF os
end
def OD.root : OD → Option Addr
  | .fr _ => none
  | .fl a _ => some a
  | .dk a _ => some a
  | .dt a _ => some a
  | .dn a _ => some a
  | .nl a _ => some a
  | .ob a _ _ => some a
  | .dl a _ _ => some a
mutual
inductive Ow (g : Gb) (H F : Hp) : V → OD → Prop where
  | fr {v : V} {d : D} : Dp g F v d → Ow g H F v (.fr d)
  | fl {a : Addr} {vs : List V} {ds : List D} : H a = some (.lst vs) → DpL g F vs ds → Ow g H F (.ref a) (.fl a ds)
  | dk {a : Addr} {kvs : List (Key × V)} {m : List (Key × D)} : H a = some (.dK kvs) → kvs.map (·.1) = m.map (·.1) → DpL g F (kvs.map (·.2)) (m.map (·.2)) → Ow g H F (.ref a) (.dk a m)
  | dt {a : Addr} {kvs : List (List Key × V)} {m : List (List Key × D)} : H a = some (.dT kvs) → kvs.map (·.1) = m.map (·.1) → DpL g F (kvs.map (·.2)) (m.map (·.2)) → Ow g H F (.ref a) (.dt a m)
  | dn {a : Addr} {kvs : List (Option Key × V)} {m : List (Option Key × D)} : HasN g.P g.w H a kvs → kvs.map (·.1) = m.map (·.1) → DpL g F (kvs.map (·.2)) (m.map (·.2)) → Ow g H F (.ref a) (.dn a m)
  | nl {a : Addr} {vs : List V} {os : List OD} : H a = some (.lst vs) → OwL g H F vs os → Ow g H F (.ref a) (.nl a os)
  | ob {a C dx : Addr} {fv : List (Str × V)} {fs : List (Str × OD)} : H a = some (.ins C dx fv) → OwF g H F fv fs → Ow g H F (.ref a) (.ob a C fs)
  | dl {a : Addr} {kvs : List (Key × V)} {ks : List Key} {os : List OD} : H a = some (.dK kvs) → kvs.map (·.1) = ks → OwL g H F (kvs.map (·.2)) os → Ow g H F (.ref a) (.dl a ks os)
inductive OwL (g : Gb) (H F : Hp) : List V → List OD → Prop where
  | nil : OwL g H F [] []
  | cons {v : V} {o : OD} {vs : List V} {os : List OD} : Ow g H F v o → OwL g H F vs os → OwL g H F (v :: vs) (o :: os)
inductive OwF (g : Gb) (H F : Hp) : List (Str × V) → List (Str × OD) → Prop where
  | nil : OwF g H F [] []
  | cons {x : Str} {v : V} {o : OD} {vs : List (Str × V)} {os : List (Str × OD)} : Ow g H F v o → OwF g H F vs os → OwF g H F ((x, v) :: vs) ((x, o) :: os)
end
section
variable {g : Gb} {F F' H H' : Hp}
mutual
theorem Ow.move {v : V} {o : OD} (s : Same F F') (h : Ow g H F v o) (k : ∀ a ∈ o.adrs, H' a = H a) : Ow g H' F' v o := by
  cases h with
  | fr h => exact .fr (h.mono s)
  | fl h l => exact .fl ((k _ (by simp [OD.adrs])).trans h) (l.mono s)
  | dk h e l => exact .dk ((k _ (by simp [OD.adrs])).trans h) e (l.mono s)
  | dt h e l => exact .dt ((k _ (by simp [OD.adrs])).trans h) e (l.mono s)
  | dn h e l => exact .dn (hasN_mono h (k _ (by simp [OD.adrs]))) e (l.mono s)
  | nl h l => exact .nl ((k _ (by simp [OD.adrs])).trans h) (OwL.move s l fun a m => k a (by simp [OD.adrs, m]))
  | ob h l => exact .ob ((k _ (by simp [OD.adrs])).trans h) (OwF.move s l fun a m => k a (by simp [OD.adrs, m]))
  | dl h e l => exact .dl ((k _ (by simp [OD.adrs])).trans h) e (OwL.move s l fun a m => k a (by simp [OD.adrs, m]))
theorem OwL.move {vs : List V} {os : List OD} (s : Same F F') (h : OwL g H F vs os) (k : ∀ a ∈ adrsL os, H' a = H a) : OwL g H' F' vs os := by
  cases h with
  | nil => exact .nil
  | cons h t => exact .cons (h.move s fun a m => k a (by simp [adrsL, m])) (OwL.move s t fun a m => k a (by simp [adrsL, m]))
theorem OwF.move {vs : List (Str × V)} {os : List (Str × OD)} (s : Same F F') (h : OwF g H F vs os) (k : ∀ a ∈ adrsF os, H' a = H a) : OwF g H' F' vs os := by
  cases h with
  | nil => exact .nil
  | cons h t => exact .cons (h.move s fun a m => k a (by simp [adrsF, m])) (OwF.move s t fun a m => k a (by simp [adrsF, m]))
end
mutual
theorem Ow.has {v : V} {o : OD} (h : Ow g H F v o) : ∀ a ∈ o.adrs, H a ≠ none := by
  cases h with
  | fr h => intro a m; simp [OD.adrs] at m
  | fl h l => intro a m; simp only [OD.adrs, List.mem_singleton] at m; subst m; rw [h]; exact fun z => nomatch z
  | dk h e l => intro a m; simp only [OD.adrs, List.mem_singleton] at m; subst m; rw [h]; exact fun z => nomatch z
  | dt h e l => intro a m; simp only [OD.adrs, List.mem_singleton] at m; subst m; rw [h]; exact fun z => nomatch z
  | dn h e l => intro a m; simp only [OD.adrs, List.mem_singleton] at m; subst m; exact hasN_has h
  | nl h l =>
    intro a m
    simp only [OD.adrs, List.mem_cons] at m
    rcases m with m | m
    · subst m; rw [h]; exact fun z => nomatch z
    · exact OwL.has l a m
  | ob h l =>
    intro a m
    simp only [OD.adrs, List.mem_cons] at m
    rcases m with m | m
    · subst m; rw [h]; exact fun z => nomatch z
    · exact OwF.has l a m
  | dl h e l =>
    intro a m
    simp only [OD.adrs, List.mem_cons] at m
    rcases m with m | m
    · subst m; rw [h]; exact fun z => nomatch z
    · exact OwL.has l a m
theorem OwL.has {vs : List V} {os : List OD} (h : OwL g H F vs os) : ∀ a ∈ adrsL os, H a ≠ none := by
  cases h with
  | nil => intro a m; simp [adrsL] at m
  | cons h t =>
    intro a m
    simp only [adrsL, List.mem_append] at m
    rcases m with m | m
    · exact Ow.has h a m
    · exact OwL.has t a m
theorem OwF.has {vs : List (Str × V)} {os : List (Str × OD)} (h : OwF g H F vs os) : ∀ a ∈ adrsF os, H a ≠ none := by
  cases h with
  | nil => intro a m; simp [adrsF] at m
  | cons h t =>
    intro a m
    simp only [adrsF, List.mem_append] at m
    rcases m with m | m
    · exact Ow.has h a m
    · exact OwF.has t a m
end
theorem hasN_nt {P : Program} {w : World} {H : Hp} {a : Addr} {kvs : List (Option Key × V)} (h : HasN P w H a kvs) : ∀ t, H a ≠ some (.tup t) := fun t z => by
  rcases h with h | ⟨_, h⟩ <;> (rw [h] at z; cases z)
mutual
theorem Ow.nt {v : V} {o : OD} (h : Ow g H F v o) : ∀ a ∈ o.adrs, ∀ t, H a ≠ some (.tup t) := by
  cases h with
  | fr h => intro a m; simp [OD.adrs] at m
  | fl h l => intro a m; simp only [OD.adrs, List.mem_singleton] at m; subst m; rw [h]; exact fun t z => nomatch z
  | dk h e l => intro a m; simp only [OD.adrs, List.mem_singleton] at m; subst m; rw [h]; exact fun t z => nomatch z
  | dt h e l => intro a m; simp only [OD.adrs, List.mem_singleton] at m; subst m; rw [h]; exact fun t z => nomatch z
  | dn h e l => intro a m; simp only [OD.adrs, List.mem_singleton] at m; subst m; exact hasN_nt h
  | nl h l =>
    intro a m
    simp only [OD.adrs, List.mem_cons] at m
    rcases m with m | m
    · subst m; rw [h]; exact fun t z => nomatch z
    · exact OwL.nt l a m
  | ob h l =>
    intro a m
    simp only [OD.adrs, List.mem_cons] at m
    rcases m with m | m
    · subst m; rw [h]; exact fun t z => nomatch z
    · exact OwF.nt l a m
  | dl h e l =>
    intro a m
    simp only [OD.adrs, List.mem_cons] at m
    rcases m with m | m
    · subst m; rw [h]; exact fun t z => nomatch z
    · exact OwL.nt l a m
theorem OwL.nt {vs : List V} {os : List OD} (h : OwL g H F vs os) : ∀ a ∈ adrsL os, ∀ t, H a ≠ some (.tup t) := by
  cases h with
  | nil => intro a m; simp [adrsL] at m
  | cons h t =>
    intro a m
    simp only [adrsL, List.mem_append] at m
    rcases m with m | m
    · exact Ow.nt h a m
    · exact OwL.nt t a m
theorem OwF.nt {vs : List (Str × V)} {os : List (Str × OD)} (h : OwF g H F vs os) : ∀ a ∈ adrsF os, ∀ t, H a ≠ some (.tup t) := by
  cases h with
  | nil => intro a m; simp [adrsF] at m
  | cons h t =>
    intro a m
    simp only [adrsF, List.mem_append] at m
    rcases m with m | m
    · exact Ow.nt h a m
    · exact OwF.nt t a m
end
/-- the same, or a tuple more -/
def Fx (x y : Option HO) : Prop := x = y ∨ (y = none ∧ ∃ t, x = some (.tup t))
theorem Fx.trans {x y z : Option HO} (h : Fx x y) (k : Fx y z) : Fx x z := by
  rcases h with rfl | ⟨rfl, t, rfl⟩
  · exact k
  · rcases k with h | ⟨_, t2, h⟩
    · exact .inr ⟨h.symm, t, rfl⟩
    · cases h
theorem Fx.keep {x y : Option HO} {u : HO} (h : Fx x y) (e : y = some u) : x = some u := by
  rcases h with rfl | ⟨h, _⟩
  · exact e
  · rw [h] at e; cases e
theorem fx_none {F F' H' : Hp} {a : Addr} (h : Fx (F' a) (F a)) (e : F a = none) (sub : Same F' H') (n : ∀ t, H' a ≠ some (.tup t)) : F' a = none := by
  rcases h with h | ⟨_, t, h⟩
  · rw [h]; exact e
  · exact absurd (sub _ _ h) (n t)
/-- all of it is given to F -/
def ext (F H : Hp) (l : List Addr) : Hp := fun a => if a ∈ l then H a else F a
theorem ext_in {F H : Hp} {l : List Addr} {a : Addr} (h : a ∈ l) : ext F H l a = H a := by unfold ext; rw [if_pos h]
theorem ext_out {F H : Hp} {l : List Addr} {a : Addr} (h : a ∉ l) : ext F H l a = F a := by unfold ext; rw [if_neg h]
mutual
theorem Ow.frz {v : V} {o : OD} (s : Same F F') (h : Ow g H F v o) (k : ∀ a ∈ o.adrs, F' a = H a) : Dp g F' v o.data := by
  cases h with
  | fr h => exact h.mono s
  | fl h l => exact .lst ((k _ (by simp [OD.adrs])).trans h) (l.mono s)
  | dk h e l => exact .dk ((k _ (by simp [OD.adrs])).trans h) e (l.mono s)
  | dt h e l => exact .dt ((k _ (by simp [OD.adrs])).trans h) e (l.mono s)
  | dn h e l => exact .dn (hasN_mono h (k _ (by simp [OD.adrs]))) e (l.mono s)
  | nl h l => exact .lst ((k _ (by simp [OD.adrs])).trans h) (OwL.frz s l fun a m => k a (by simp [OD.adrs, m]))
  | ob h l =>
    obtain ⟨e, q⟩ := OwF.frz s l fun a m => k a (by simp [OD.adrs, m])
    exact .ob ((k _ (by simp [OD.adrs])).trans h) e q
  | dl h e l =>
    have q := OwL.frz s l fun a m => k a (by simp [OD.adrs, m])
    have ln : ∀ {vs : List V} {os : List OD}, OwL g H F vs os → vs.length = (dataL os).length := by
      intro vs os hh
      induction os generalizing vs with
      | nil => cases hh; rfl
      | cons o r ih => cases hh with | cons a t => simp only [List.length_cons, dataL, ih t]
    have l2 := ln l
    rw [List.length_map] at l2
    subst e
    refine .dk ((k _ (by simp [OD.adrs])).trans h) ?_ ?_
    · rw [List.map_fst_zip (by rw [List.length_map]; omega)]
    · rw [List.map_snd_zip (by rw [List.length_map]; omega)]
      exact q
theorem OwL.frz {vs : List V} {os : List OD} (s : Same F F') (h : OwL g H F vs os) (k : ∀ a ∈ adrsL os, F' a = H a) : DpL g F' vs (dataL os) := by
  cases h with
  | nil => exact .nil
  | cons h t => exact .cons (h.frz s fun a m => k a (by simp [adrsL, m])) (OwL.frz s t fun a m => k a (by simp [adrsL, m]))
theorem OwF.frz {vs : List (Str × V)} {os : List (Str × OD)} (s : Same F F') (h : OwF g H F vs os) (k : ∀ a ∈ adrsF os, F' a = H a) : vs.map (·.1) = (dataF os).map (·.1) ∧ DpL g F' (vs.map (·.2)) ((dataF os).map (·.2)) := by
  cases h with
  | nil => exact ⟨rfl, .nil⟩
  | cons h t =>
    obtain ⟨e, q⟩ := OwF.frz s t fun a m => k a (by simp [adrsF, m])
    refine ⟨?_, .cons (h.frz s fun a m => k a (by simp [adrsF, m])) q⟩
    simp only [List.map_cons, dataF]
    rw [e]
end
theorem Ow.root {v : V} {o : OD} {a : Addr} (h : Ow g H F v o) (e : o.root = some a) : v = .ref a := by
  cases h with
  | fr h => cases e
  | fl h l => cases e; rfl
  | dk h _ l => cases e; rfl
  | dt h _ l => cases e; rfl
  | dn h _ l => cases e; rfl
  | nl h l => cases e; rfl
  | ob h l => cases e; rfl
  | dl h _ l => cases e; rfl
end
end KD

set_option maxHeartbeats 4000000
namespace KD
open PySem PySem.Spec PyProof.Rows L2 KB
/-- a slot: not assigned, frozen data, or held alone -/
inductive Sl where
  | no
  | fz (d : D)
  | ow (o : OD)
  | rf (a : Addr)
/-- what an expression gives: frozen data, what a slot holds, a new thing -/
inductive R where
  | fz (d : D)
  | bw (i : Nat)
  | nw (o : OD)
  | rf (a : Addr)
def Sl.adrs : Sl → List Addr
  | .ow o => o.adrs
  | _ => []
def adS : List Sl → List Addr
  | [] => []
  | s :: r => s.adrs ++ adS r
/-- where a def stands: the heap and the frozen part at its entry, what it may change -/
structure Cn (g : Gb) where
  H0 : Hp
  F0 : Hp
  Fb : Hp
  M : List Addr
structure Rel {g : Gb} (c : Cn g) (σ : L2.St) (H F : Hp) (δ : List Sl) : Prop where
  sub : Same F H
  fr : ∀ a o, c.H0 a = some o → a ∉ c.M → H a = some o
  fr2 : ∀ a, c.H0 a ≠ none → H a ≠ none
  ff : ∀ a, c.H0 a ≠ none → Fx (F a) (c.F0 a)
  len : σ.length = δ.length
  fz : ∀ (i : Nat) (d : D), δ[i]? = some (Sl.fz d) → ∃ v, σ[i]? = some (some v) ∧ Dp g F v d
  ow : ∀ (i : Nat) (o : OD), δ[i]? = some (Sl.ow o) → ∃ v, σ[i]? = some (some v) ∧ Ow g H F v o
  nd : (adS δ).Nodup
  fa : ∀ a ∈ adS δ, F a = none ∧ (c.H0 a = none ∨ a ∈ c.M)
  lb : Same c.Fb F
  rf : ∀ (i : Nat) (a : Addr), δ[i]? = some (Sl.rf a) → σ[i]? = some (some (.ref a))
def RRep {g : Gb} (c : Cn g) (σ : L2.St) (H F : Hp) (δ : List Sl) (v : V) : R → Prop
  | .fz d => Dp g F v d
  | .bw i => σ[i]? = some (some v)
  | .nw o => Ow g H F v o ∧ (o.adrs ++ adS δ).Nodup ∧ ∀ a ∈ o.adrs, F a = none ∧ c.H0 a = none
  | .rf a => v = .ref a
/-- fit to leave a def -/
def R.out : R → Bool
  | .fz _ => true
  | .nw _ => true
  | _ => false
@[reducible] def R.frz : R → R
  | .nw o => .fz o.data
  | r => r
def R.dat (δ : List Sl) : R → Option D
  | .fz d => some d
  | .bw i => match δ[i]? with
    | some (.ow o) => some o.data
    | _ => none
  | .nw o => some o.data
  | .rf _ => none
section
variable {g : Gb} {c : Cn g} {σ σ' : L2.St} {H H' F F' : Hp} {δ δ' : List Sl} {v : V} {r : R} {o : OD} {d : D} {i : Nat}
theorem mem_adS : ∀ {δ : List Sl} {i : Nat} {o : OD} {a : Addr}, δ[i]? = some (Sl.ow o) → a ∈ o.adrs → a ∈ adS δ
  | [], _, _, _, e, _ => by simp at e
  | s :: r, 0, o, a, e, m => by
    simp only [List.length_cons, Nat.zero_lt_succ, List.getElem?_eq_getElem, List.getElem_cons_zero, Option.some.injEq] at e
    subst e
    simp [adS, Sl.adrs, m]
  | s :: r, i + 1, o, a, e, m => by
    have := mem_adS (i := i) (o := o) (a := a) (δ := r) (by simpa using e) m
    simp [adS, this]
theorem of_adS : ∀ {δ : List Sl} {a : Addr}, a ∈ adS δ → ∃ (i : Nat) (o : OD), δ[i]? = some (Sl.ow o) ∧ a ∈ o.adrs
  | [], _, m => by simp [adS] at m
  | s :: r, a, m => by
    simp only [adS, List.mem_append] at m
    rcases m with m | m
    · cases s with
      | ow o => exact ⟨0, o, rfl, m⟩
      | no => simp [Sl.adrs] at m
      | fz d => simp [Sl.adrs] at m
      | rf d => simp [Sl.adrs] at m
    · obtain ⟨i, o, e, h⟩ := of_adS m
      exact ⟨i + 1, o, by simpa using e, h⟩
theorem Rel.has (h : Rel c σ H F δ) : ∀ a ∈ adS δ, H a ≠ none := fun a m => by
  obtain ⟨i, o, e, q⟩ := of_adS m
  obtain ⟨v, _, w⟩ := h.ow i o e
  exact w.has a q
theorem Rel.nt (h : Rel c σ H F δ) : ∀ a ∈ adS δ, ∀ t, H a ≠ some (.tup t) := fun a m => by
  obtain ⟨i, o, e, q⟩ := of_adS m
  obtain ⟨v, _, w⟩ := h.ow i o e
  exact w.nt a q
/-- the frozen part grows by new things -/
theorem Rel.grow (h : Rel c σ H F δ) (s : Same F F') (sub : Same F' H) (n : ∀ a, c.H0 a ≠ none → Fx (F' a) (F a)) (n2 : ∀ a ∈ adS δ, F' a = none) : Rel c σ H F' δ :=
  ⟨sub, h.fr, h.fr2, fun a z => (n a z).trans (h.ff a z), h.len, fun i d e => by
    obtain ⟨v, h1, h2⟩ := h.fz i d e
    exact ⟨v, h1, h2.mono s⟩, fun i o e => by
    obtain ⟨v, h1, h2⟩ := h.ow i o e
    exact ⟨v, h1, h2.move s fun _ _ => rfl⟩, h.nd, fun a m => ⟨n2 a m, (h.fa a m).2⟩, h.lb.trans s, h.rf⟩
/-- a new thing is frozen -/
theorem frz_ok (h : Rel c σ H F δ) (k : RRep c σ H F δ v r) : ∃ F', Same F F' ∧ Rel c σ H F' δ ∧ RRep c σ H F' δ v r.frz := by
  cases r with
  | fz d => exact ⟨F, Same.refl F, h, k⟩
  | bw i => exact ⟨F, Same.refl F, h, k⟩
  | rf a => exact ⟨F, Same.refl F, h, k⟩
  | nw o =>
    obtain ⟨w, nd, fr⟩ := k
    have s : Same F (ext F H o.adrs) := fun a u e => by
      by_cases m : a ∈ o.adrs
      · rw [(fr a m).1] at e; cases e
      · rw [ext_out m]; exact e
    refine ⟨ext F H o.adrs, s, h.grow s (fun a u e => ?_) (fun a z => ?_) (fun a m => ?_), w.frz s fun a m => ext_in m⟩
    · by_cases m : a ∈ o.adrs
      · rw [ext_in m] at e; exact e
      · rw [ext_out m] at e; exact h.sub a u e
    · by_cases m : a ∈ o.adrs
      · exact absurd (fr a m).2 z
      · exact .inl (ext_out m)
    · have : a ∉ o.adrs := fun z => (List.nodup_append.mp nd).2.2 a z a m rfl
      rw [ext_out this]
      exact (h.fa a m).1
theorem rep_dat (h : Rel c σ H F δ) (k : RRep c σ H F δ v r) (e : r.dat δ = some d) : Dp g H v d := by
  cases r with
  | fz d' => cases e; exact Dp.mono h.sub k
  | bw i =>
    have k : σ[i]? = some (some v) := k
    simp only [R.dat] at e
    split at e
    · rename_i o ho
      cases e
      obtain ⟨v', h1, h2⟩ := h.ow i o ho
      rw [k] at h1
      cases h1
      exact h2.frz h.sub fun _ _ => rfl
    · cases e
  | nw o =>
    cases e
    exact k.1.frz h.sub fun _ _ => rfl
  | rf a => cases e
theorem rep_keep (k : RRep c σ H F δ v r) (n : r.frz = r) (s : Same F F') : RRep c σ H' F' δ' v r := by
  cases r with
  | fz d => exact Dp.mono s k
  | bw i => exact k
  | rf a => exact k
  | nw o => cases n
theorem frz_frz (r : R) : r.frz.frz = r.frz := by cases r <;> rfl
end
/-! ### the judgements -/
section
variable {g : Gb} (c : Cn g)
abbrev PstE (σ : L2.St) (F : Hp) (Q : R → List Sl → Prop) (QV : VK) : Prop := ∀ v H' F' r δ', Q r δ' → Rel c σ H' F' δ' → Same F F' → RRep c σ H' F' δ' v r → QV v H'
def DE (te : TE) (δ : List Sl) (Q : R → List Sl → Prop) : Prop := ∀ σ H F QV, Rel c σ H F δ → PstE c σ F Q QV → te σ H QV
def DT (tt : TT) (δ : List Sl) (Q : Bool → List Sl → Prop) : Prop := ∀ σ H F (QB : Bool → Hp → Prop), Rel c σ H F δ → (∀ b H' F' δ', Q b δ' → Rel c σ H' F' δ' → Same F F' → QB b H') → tt σ H QB
inductive RepL (σ : L2.St) (H F : Hp) (δ : List Sl) : List V → List R → Prop where
  | nil : RepL σ H F δ [] []
  | cons {v : V} {r : R} {vs : List V} {rs : List R} : r.frz = r → RRep c σ H F δ v r → RepL σ H F δ vs rs → RepL σ H F δ (v :: vs) (r :: rs)
def DA (ta : TA) (δ : List Sl) (Q : List R → List Sl → Prop) : Prop := ∀ σ H F (QA : List V → Hp → Prop), Rel c σ H F δ → (∀ vs H' F' rs δ', Q rs δ' → Rel c σ H' F' δ' → Same F F' → RepL c σ H' F' δ' vs rs → QA vs H') → ta σ H QA
/-- by values -/
def DO (f : R2) (x y : R) (δ : List Sl) (Q : R → List Sl → Prop) : Prop := ∀ σ H F v w QV, Rel c σ H F δ → RRep c σ H F δ v x → RRep c σ H F δ w y → PstE c σ F Q QV → f v w H QV
def DU (f : V → Hp → VK → Prop) (x : R) (δ : List Sl) (Q : R → List Sl → Prop) : Prop := ∀ σ H F v QV, Rel c σ H F δ → RRep c σ H F δ v x → PstE c σ F Q QV → f v H QV
def DC (f : List V → Hp → VK → Prop) (xs : List R) (δ : List Sl) (Q : R → List Sl → Prop) : Prop := ∀ σ H F vs QV, Rel c σ H F δ → RepL c σ H F δ vs xs → PstE c σ F Q QV → f vs H QV
def DM (f : V → List V → Hp → VK → Prop) (x : R) (xs : List R) (δ : List Sl) (Q : R → List Sl → Prop) : Prop := ∀ σ H F v vs QV, Rel c σ H F δ → RRep c σ H F δ v x → RepL c σ H F δ vs xs → PstE c σ F Q QV → f v vs H QV
/-- a target takes a thing -/
def DG (tg : TG) (r : R) (δ : List Sl) (Qn : List Sl → Prop) : Prop := ∀ σ H F v (S : L2.St → Hp → Prop), Rel c σ H F δ → RRep c σ H F δ v r → (∀ σ' H' F' δ', Qn δ' → Rel c σ' H' F' δ' → Same F F' → S σ' H') → tg v σ H S
end
/-- ends, by data -/
structure PD where
  nx : List Sl → Prop := fun _ => False
  rt : R → List Sl → Prop := fun _ _ => False
  bk : List Sl → Prop := fun _ => False
  ct : List Sl → Prop := fun _ => False
structure EndsOk {g : Gb} (c : Cn g) (F : Hp) (P : PD) (E : Ends) : Prop where
  nx : ∀ σ' H' F' δ', P.nx δ' → Rel c σ' H' F' δ' → Same F F' → E.nx σ' H'
  rt : ∀ σ' v H' F' r δ', P.rt r δ' → Rel c σ' H' F' δ' → Same F F' → RRep c σ' H' F' δ' v r → E.rt v H'
  bk : ∀ σ' H' F' δ', P.bk δ' → Rel c σ' H' F' δ' → Same F F' → E.bk σ' H'
  ct : ∀ σ' H' F' δ', P.ct δ' → Rel c σ' H' F' δ' → Same F F' → E.ct σ' H'
def DS {g : Gb} (c : Cn g) (ts : TS) (δ : List Sl) (P : PD) : Prop := ∀ σ H F (E : Ends), Rel c σ H F δ → EndsOk c F P E → ts E σ H
theorem EndsOk.later {g : Gb} {c : Cn g} {F F' : Hp} {P : PD} {E : Ends} (h : EndsOk c F P E) (s : Same F F') : EndsOk c F' P E :=
  ⟨fun σ H G δ q r t => h.nx σ H G δ q r (s.trans t), fun σ v H G r δ q rl t => h.rt σ v H G r δ q rl (s.trans t), fun σ H G δ q r t => h.bk σ H G δ q r (s.trans t), fun σ H G δ q r t => h.ct σ H G δ q r (s.trans t)⟩
/-! ### expressions -/
section
variable {g : Gb} {c : Cn g} {δ : List Sl} {Q : R → List Sl → Prop} {QA : List R → List Sl → Prop} {QB : Bool → List Sl → Prop} {P : PD} {te ta tb : TE} {tr : TA} {tt tu : TT} {t u : TS} {tg : TG} {i j : Nat} {d e : D} {o : OD} {r r' x y : R} {f : R2}
theorem DE.imp {Q' : R → List Sl → Prop} (h : DE c te δ Q) (k : ∀ r δ', Q r δ' → Q' r δ') : DE c te δ Q' := fun σ H F QV R q => h σ H F QV R fun v H' F' r δ' z => q v H' F' r δ' (k _ _ z)
theorem DT.imp {Q' : Bool → List Sl → Prop} (h : DT c tt δ QB) (k : ∀ r δ', QB r δ' → Q' r δ') : DT c tt δ Q' := fun σ H F QV R q => h σ H F QV R fun v H' F' δ' z => q v H' F' δ' (k _ _ z)
theorem DS.imp {P' : PD} (h : DS c t δ P) (k1 : ∀ δ, P.nx δ → P'.nx δ) (k2 : ∀ r δ, P.rt r δ → P'.rt r δ) (k3 : ∀ δ, P.bk δ → P'.bk δ) (k4 : ∀ δ, P.ct δ → P'.ct δ) : DS c t δ P' := fun σ H F E R k =>
  h σ H F E R ⟨fun σ' H' F' δ' q => k.nx σ' H' F' δ' (k1 _ q), fun σ' v H' F' r δ' q => k.rt σ' v H' F' r δ' (k2 _ _ q), fun σ' H' F' δ' q => k.bk σ' H' F' δ' (k3 _ q), fun σ' H' F' δ' q => k.ct σ' H' F' δ' (k4 _ q)⟩
/-- the result of an expression, frozen if it is new -/
theorem de_frz {σ : L2.St} {H F : Hp} {QV : VK} (h : DE c te δ Q) (R : Rel c σ H F δ) (k : ∀ v H' F' r δ', Q r δ' → Rel c σ H' F' δ' → Same F F' → RRep c σ H' F' δ' v r.frz → QV v H') : te σ H QV :=
  h σ H F QV R fun v H' F' r δ' q R' s rep => by
    obtain ⟨F2, s2, R2, rep2⟩ := frz_ok R' rep
    exact k v H' F2 r δ' q R2 (s.trans s2) rep2
theorem d_var (h : δ[i]? = some (.fz d)) (q : Q (.fz d) δ) : DE c (tVar i) δ Q := fun σ H F QV R k => by
  obtain ⟨v, h1, h2⟩ := R.fz i d h
  exact ⟨v, h1, k v H F _ _ q R (Same.refl F) h2⟩
theorem d_varO (h : δ[i]? = some (.ow o)) (q : Q (.bw i) δ) : DE c (tVar i) δ Q := fun σ H F QV R k => by
  obtain ⟨v, h1, h2⟩ := R.ow i o h
  exact ⟨v, h1, k v H F _ _ q R (Same.refl F) h1⟩
theorem d_varR {a : Addr} (h : δ[i]? = some (.rf a)) (q : Q (.rf a) δ) : DE c (tVar i) δ Q := fun σ H F QV R k => ⟨_, R.rf i a h, k _ H F _ _ q R (Same.refl F) rfl⟩
def flatD : V → Option D
  | .non => some .non
  | .bl b => some (.bl b)
  | .int i => some (.int i)
  | .str s => some (.str s)
  | .ty n => some (.tyN n)
  | _ => none
theorem flatD_ok {F : Hp} {v : V} (h : flatD v = some d) : Dp g F v d := by
  cases v <;> cases h
  · exact .non
  · exact .bl _
  · exact .int _
  · exact .str _
  · exact .tyN _
theorem d_c {v : V} (h : flatD v = some d) (q : Q (.fz d) δ) : DE c (tC v) δ Q := fun σ H F QV R k => k v H F _ _ q R (Same.refl F) (flatD_ok h)
theorem d_op (q : DE c ta δ fun x δ1 => DE c tb δ1 fun y δ2 => DO c f x.frz y.frz δ2 Q) : DE c (tOp f ta tb) δ Q := fun σ H F QV R k =>
  de_frz (QV := fun x H1 => tb σ H1 fun y H2 => f x y H2 QV) q R fun v H1 F1 x δ1 q1 R1 s1 rep1 => de_frz (QV := fun y H2 => f v y H2 QV) q1 R1 fun w H2 F2 y δ2 q2 R2 s2 rep2 =>
    q2 σ H2 F2 v w QV R2 (rep_keep rep1 (frz_frz _) s2) rep2 fun v' H' F' r δ' q' R' s' => k v' H' F' r δ' q' R' ((s1.trans s2).trans s')
theorem d_un {fu : V → Hp → VK → Prop} (q : DE c ta δ fun x δ1 => DU c fu x.frz δ1 Q) : DE c (tUn fu ta) δ Q := fun σ H F QV R k =>
  de_frz (QV := fun x H1 => fu x H1 QV) q R fun v H1 F1 x δ1 q1 R1 s1 rep1 => q1 σ H1 F1 v QV R1 rep1 fun v' H' F' r δ' q' R' s' => k v' H' F' r δ' q' R' (s1.trans s')
theorem d_nil (q : QA [] δ) : DA c tNil δ QA := fun σ H F QV R k => k [] H F _ _ q R (Same.refl F) .nil
theorem d_cons (q : DE c te δ fun x δ1 => DA c tr δ1 fun xs δ2 => QA (x.frz :: xs) δ2) : DA c (tCons te tr) δ QA := fun σ H F QV R k =>
  de_frz q R fun v H1 F1 x δ1 q1 R1 s1 rep1 => q1 σ H1 F1 _ R1 fun vs H2 F2 xs δ2 q2 R2 s2 rep2 => k (v :: vs) H2 F2 _ _ q2 R2 (s1.trans s2) (.cons (frz_frz _) (rep_keep rep1 (frz_frz _) s2) rep2)
theorem d_CB {fc : List V → Hp → VK → Prop} (q : DA c tr δ fun xs δ1 => DC c fc xs δ1 Q) : DE c (tCB fc tr) δ Q := fun σ H F QV R k =>
  q σ H F _ R fun vs H1 F1 xs δ1 q1 R1 s1 rep1 => q1 σ H1 F1 vs QV R1 rep1 fun v' H' F' r δ' q' R' s' => k v' H' F' r δ' q' R' (s1.trans s')
/-! tests -/
theorem d_test (q : DE c te δ fun x δ1 => ∃ b, x = .fz (.bl b) ∧ QB b δ1) : DT c (tTest te) δ QB := fun σ H F QV R k =>
  q σ H F _ R fun v H1 F1 x δ1 ⟨b, e, q1⟩ R1 s1 rep1 => by
    subst e
    cases rep1
    exact ⟨b, rfl, k b H1 F1 δ1 q1 R1 s1⟩
theorem d_B (q : DE c te δ fun x δ1 => ∃ b, x = .fz (.bl b) ∧ QB b δ1) : DT c (tB te) δ QB := d_test q
theorem d_and (q : DT c tt δ fun b δ1 => if b = true then DT c tu δ1 QB else QB false δ1) : DT c (tAnd tt tu) δ QB := fun σ H F QV R k =>
  q σ H F _ R fun b H1 F1 δ1 q1 R1 s1 => by
    cases b with
    | true => exact q1 σ H1 F1 _ R1 fun b H2 F2 δ2 q2 R2 s2 => k b H2 F2 δ2 q2 R2 (s1.trans s2)
    | false => exact k false H1 F1 δ1 q1 R1 s1
theorem d_or (q : DT c tt δ fun b δ1 => if b = true then QB true δ1 else DT c tu δ1 QB) : DT c (tOr tt tu) δ QB := fun σ H F QV R k =>
  q σ H F _ R fun b H1 F1 δ1 q1 R1 s1 => by
    cases b with
    | false => exact q1 σ H1 F1 _ R1 fun b H2 F2 δ2 q2 R2 s2 => k b H2 F2 δ2 q2 R2 (s1.trans s2)
    | true => exact k true H1 F1 δ1 q1 R1 s1
theorem d_not (q : DT c tt δ fun b δ1 => QB (!b) δ1) : DT c (tNot tt) δ QB := fun σ H F QV R k => q σ H F _ R fun b H1 F1 δ1 q1 R1 s1 => k _ H1 F1 δ1 q1 R1 s1
theorem d_yes (q : QB true δ) : DT c tYes δ QB := fun σ H F QV R k => k true H F δ q R (Same.refl F)
theorem d_andV (q : DE c ta δ fun x δ1 => ∃ b, x = .fz (.bl b) ∧ if b = true then DE c tb δ1 Q else Q (.fz (.bl false)) δ1) : DE c (tAndV ta tb) δ Q := fun σ H F QV R k =>
  q σ H F _ R fun v H1 F1 x δ1 ⟨b, e, q1⟩ R1 s1 rep1 => by
    subst e
    cases rep1
    refine ⟨b, rfl, ?_⟩
    cases b with
    | true => exact q1 σ H1 F1 _ R1 fun v H2 F2 r δ2 q2 R2 s2 => k v H2 F2 r δ2 q2 R2 (s1.trans s2)
    | false => exact k _ H1 F1 _ δ1 q1 R1 s1 (Dp.bl _)
theorem d_orV (q : DE c ta δ fun x δ1 => ∃ b, x = .fz (.bl b) ∧ if b = true then Q (.fz (.bl true)) δ1 else DE c tb δ1 Q) : DE c (tOrV ta tb) δ Q := fun σ H F QV R k =>
  q σ H F _ R fun v H1 F1 x δ1 ⟨b, e, q1⟩ R1 s1 rep1 => by
    subst e
    cases rep1
    refine ⟨b, rfl, ?_⟩
    cases b with
    | false => exact q1 σ H1 F1 _ R1 fun v H2 F2 r δ2 q2 R2 s2 => k v H2 F2 r δ2 q2 R2 (s1.trans s2)
    | true => exact k _ H1 F1 _ δ1 q1 R1 s1 (Dp.bl _)
theorem d_notV (q : DE c ta δ fun x δ1 => ∃ b, x = .fz (.bl b) ∧ Q (.fz (.bl (!b))) δ1) : DE c (tNotV ta) δ Q := fun σ H F QV R k =>
  q σ H F _ R fun v H1 F1 x δ1 ⟨b, e, q1⟩ R1 s1 rep1 => by
    subst e
    cases rep1
    exact ⟨b, rfl, k _ H1 F1 _ δ1 q1 R1 s1 (Dp.bl _)⟩
theorem d_if (q : DT c tt δ fun b δ1 => if b = true then DE c ta δ1 Q else DE c tb δ1 Q) : DE c (tIf tt ta tb) δ Q := fun σ H F QV R k =>
  q σ H F _ R fun b H1 F1 δ1 q1 R1 s1 => by
    cases b with
    | true => exact q1 σ H1 F1 _ R1 fun v H2 F2 r δ2 q2 R2 s2 => k v H2 F2 r δ2 q2 R2 (s1.trans s2)
    | false => exact q1 σ H1 F1 _ R1 fun v H2 F2 r δ2 q2 R2 s2 => k v H2 F2 r δ2 q2 R2 (s1.trans s2)
/-! statements -/
theorem d_seq (q : DS c t δ { P with nx := fun δ1 => DS c u δ1 P }) : DS c (tSeq t u) δ P := fun σ H F E R k =>
  q σ H F _ R ⟨fun σ1 H1 F1 δ1 q1 R1 s1 => q1 σ1 H1 F1 E R1 (k.later s1), k.rt, k.bk, k.ct⟩
theorem d_next (q : P.nx δ) : DS c tNext δ P := fun σ H F E R k => k.nx σ H F δ q R (Same.refl F)
theorem d_brk (q : P.bk δ) : DS c tBreak δ P := fun σ H F E R k => k.bk σ H F δ q R (Same.refl F)
theorem d_cnt (q : P.ct δ) : DS c tCont δ P := fun σ H F E R k => k.ct σ H F δ q R (Same.refl F)
theorem d_drop (q : DE c te δ fun _ δ1 => P.nx δ1) : DS c (tDrop te) δ P := fun σ H F E R k => q σ H F _ R fun v H1 F1 r δ1 q1 R1 s1 _ => k.nx σ H1 F1 δ1 q1 R1 s1
theorem d_ret (q : DE c te δ P.rt) : DS c (tRet te) δ P := fun σ H F E R k => q σ H F _ R fun v H1 F1 r δ1 q1 R1 s1 rep => k.rt σ v H1 F1 r δ1 q1 R1 s1 rep
theorem d_retN (q : P.rt (.fz .non) δ) : DS c tRetN δ P := fun σ H F E R k => k.rt σ .non H F _ δ q R (Same.refl F) Dp.non
theorem d_ifS (q : DT c tt δ fun b δ1 => if b = true then DS c t δ1 P else DS c u δ1 P) : DS c (tIfS tt t u) δ P := fun σ H F E R k =>
  q σ H F _ R fun b H1 F1 δ1 q1 R1 s1 => by
    cases b with
    | true => exact q1 σ H1 F1 E R1 (k.later s1)
    | false => exact q1 σ H1 F1 E R1 (k.later s1)
theorem d_asg (q : DE c te δ fun x δ1 => DG c tg x δ1 P.nx) : DS c (tAsg te tg) δ P := fun σ H F E R k =>
  q σ H F _ R fun v H1 F1 r δ1 q1 R1 s1 rep => q1 σ H1 F1 v _ R1 rep fun σ2 H2 F2 δ2 q2 R2 s2 => k.nx σ2 H2 F2 δ2 q2 R2 (s1.trans s2)
theorem Rel.setFz {σ : L2.St} {H F : Hp} {v : V} (R : Rel c σ H F δ) (h : Dp g F v d) : Rel c (σ.set i (some v)) H F (δ.set i (.fz d)) := by
  have sub : ∀ (δ : List Sl) (i : Nat), (adS (δ.set i (.fz d))).Sublist (adS δ) := by
    intro δ
    induction δ with
    | nil => intro i; exact .slnil
    | cons s r ih =>
      intro i
      cases i with
      | zero => simp only [List.set_cons_zero, adS, Sl.adrs, List.nil_append]; exact List.sublist_append_right _ _
      | succ i => simp only [List.set_cons_succ, adS]; exact (List.Sublist.refl _).append (ih i)
  refine ⟨R.sub, R.fr, R.fr2, R.ff, by rw [List.length_set, List.length_set]; exact R.len, fun k d' e => ?_, fun k o e => ?_, R.nd.sublist (sub δ i), fun a m => R.fa a ((sub δ i).subset m), R.lb, fun k a e => ?_⟩
  · by_cases z : i = k
    · subst z
      rw [List.getElem?_set] at e
      simp only [if_true] at e
      split at e
      · rename_i l
        cases e
        refine ⟨v, ?_, h⟩
        rw [List.getElem?_set, if_pos rfl, if_pos (by rw [R.len]; exact l)]
      · cases e
    · rw [List.getElem?_set_ne z] at e
      obtain ⟨v', h1, h2⟩ := R.fz k d' e
      exact ⟨v', by rw [List.getElem?_set_ne z]; exact h1, h2⟩
  · by_cases z : i = k
    · subst z
      rw [List.getElem?_set] at e
      simp only [if_true] at e
      split at e <;> cases e
    · rw [List.getElem?_set_ne z] at e
      obtain ⟨v', h1, h2⟩ := R.ow k o e
      exact ⟨v', by rw [List.getElem?_set_ne z]; exact h1, h2⟩
  · by_cases z : i = k
    · subst z
      rw [List.getElem?_set] at e
      simp only [if_true] at e
      split at e <;> cases e
    · rw [List.getElem?_set_ne z] at e ⊢
      exact R.rf k a e
theorem perm_adS : ∀ {δ : List Sl} {i : Nat} {s : Sl}, i < δ.length → (adS (δ.set i s)).Perm (s.adrs ++ adS (δ.set i .no))
  | [], _, _, h => by simp at h
  | t :: r, 0, s, h => by simp only [List.set_cons_zero, adS, Sl.adrs, List.nil_append]; exact .refl _
  | t :: r, i + 1, s, h => by
    simp only [List.set_cons_succ, adS]
    have := perm_adS (δ := r) (i := i) (s := s) (by simpa using h)
    refine (List.Perm.append_left _ this).trans ?_
    rw [← List.append_assoc, ← List.append_assoc]
    exact List.Perm.append_right _ List.perm_append_comm
theorem sub_no : ∀ (δ : List Sl) (i : Nat), (adS (δ.set i .no)).Sublist (adS δ)
  | [], i => .slnil
  | s :: r, 0 => by simp only [List.set_cons_zero, adS, Sl.adrs, List.nil_append]; exact List.sublist_append_right _ _
  | s :: r, i + 1 => by simp only [List.set_cons_succ, adS]; exact (List.Sublist.refl _).append (sub_no r i)
/-- slot i is given a thing held alone -/
theorem Rel.setOw {σ : L2.St} {H F : Hp} {v : V} (R : Rel c σ H F δ) (h : Ow g H F v o) (nd : (o.adrs ++ adS (δ.set i .no)).Nodup) (fa : ∀ a ∈ o.adrs, F a = none ∧ (c.H0 a = none ∨ a ∈ c.M)) : Rel c (σ.set i (some v)) H F (δ.set i (.ow o)) := by
  by_cases hi : i < δ.length
  · have pm := perm_adS (s := .ow o) hi
    refine ⟨R.sub, R.fr, R.fr2, R.ff, by rw [List.length_set, List.length_set]; exact R.len, fun k d' e => ?_, fun k o' e => ?_, pm.nodup_iff.mpr nd, fun a m => ?_, R.lb, fun k a e => ?_⟩
    · by_cases z : i = k
      · subst z
        rw [List.getElem?_set, if_pos rfl, if_pos hi] at e
        cases e
      · rw [List.getElem?_set_ne z] at e
        obtain ⟨v', h1, h2⟩ := R.fz k d' e
        exact ⟨v', by rw [List.getElem?_set_ne z]; exact h1, h2⟩
    · by_cases z : i = k
      · subst z
        rw [List.getElem?_set, if_pos rfl, if_pos hi] at e
        cases e
        exact ⟨v, by rw [List.getElem?_set, if_pos rfl, if_pos (by rw [R.len]; exact hi)], h⟩
      · rw [List.getElem?_set_ne z] at e
        obtain ⟨v', h1, h2⟩ := R.ow k o' e
        exact ⟨v', by rw [List.getElem?_set_ne z]; exact h1, h2⟩
    · have m' := pm.subset m
      rcases List.mem_append.mp m' with m' | m'
      · exact fa a m'
      · exact R.fa a ((sub_no δ i).subset m')
    · by_cases z : i = k
      · subst z
        rw [List.getElem?_set, if_pos rfl, if_pos hi] at e
        cases e
      · rw [List.getElem?_set_ne z] at e ⊢
        exact R.rf k a e
  · have hl := R.len
    rw [List.set_eq_of_length_le (show δ.length ≤ i by omega), List.set_eq_of_length_le (show σ.length ≤ i by omega)]
    exact R
theorem d_gname {Qn : List Sl → Prop} (q : match r.frz with
    | .fz d => Qn (δ.set i (.fz d))
    | _ => False) : DG c (gName i) r δ Qn := fun σ H F v S R rep k => by
  obtain ⟨F2, s2, R2, rep2⟩ := frz_ok R rep
  cases e : r.frz with
  | fz d =>
    rw [e] at q rep2
    exact k _ H F2 _ q (R2.setFz rep2) s2
  | bw j => rw [e] at q; exact q.elim
  | nw o => rw [e] at q; exact q.elim
  | rf a => rw [e] at q; exact q.elim
theorem Rel.setRf {σ : L2.St} {H F : Hp} {a : Addr} (R : Rel c σ H F δ) : Rel c (σ.set i (some (.ref a))) H F (δ.set i (.rf a)) := by
  have sub : (adS (δ.set i (.rf a))).Sublist (adS δ) := by
    have h1 : ∀ (δ : List Sl) (i : Nat), (adS (δ.set i (.rf a))).Sublist (adS δ) := by
      intro δ
      induction δ with
      | nil => intro i; exact .slnil
      | cons s r ih =>
        intro i
        cases i with
        | zero => simp only [List.set_cons_zero, adS, Sl.adrs, List.nil_append]; exact List.sublist_append_right _ _
        | succ i => simp only [List.set_cons_succ, adS]; exact (List.Sublist.refl _).append (ih i)
    exact h1 δ i
  refine ⟨R.sub, R.fr, R.fr2, R.ff, by rw [List.length_set, List.length_set]; exact R.len, fun k d e => ?_, fun k o e => ?_, R.nd.sublist sub, fun a m => R.fa a (sub.subset m), R.lb, fun k b e => ?_⟩
  · by_cases z : i = k
    · subst z; rw [List.getElem?_set] at e; simp only [if_true] at e; split at e <;> cases e
    · rw [List.getElem?_set_ne z] at e ⊢; exact R.fz k d e
  · by_cases z : i = k
    · subst z; rw [List.getElem?_set] at e; simp only [if_true] at e; split at e <;> cases e
    · rw [List.getElem?_set_ne z] at e ⊢; exact R.ow k o e
  · by_cases z : i = k
    · subst z
      rw [List.getElem?_set] at e ⊢
      simp only [if_true] at e ⊢
      split at e
      · rename_i l; cases e; rw [if_pos (by rw [R.len]; exact l)]
      · cases e
    · rw [List.getElem?_set_ne z] at e ⊢; exact R.rf k b e
theorem d_gnameR {a : Addr} {Qn : List Sl → Prop} (q : Qn (δ.set i (.rf a))) : DG c (gName i) (.rf a) δ Qn := fun σ H F v S R rep k => by
  have rep : v = .ref a := rep
  subst rep
  exact k _ H F _ q R.setRf (Same.refl F)
/-- the name is to hold it alone -/
def gOwn (i : Nat) : TG := gName i
theorem d_gown {Qn : List Sl → Prop} (q : Qn (δ.set i (.ow o))) : DG c (gOwn i) (.nw o) δ Qn := fun σ H F v S R rep k => by
  obtain ⟨w, nd, fr⟩ := rep
  refine k _ H F _ q (R.setOw w ?_ fun a m => ⟨(fr a m).1, .inl (fr a m).2⟩) (Same.refl F)
  exact nd.sublist ((List.Sublist.refl _).append (sub_no δ i))
/-- what slot j holds alone is frozen -/
theorem Rel.frzAt {σ : L2.St} {H F : Hp} (R : Rel c σ H F δ) (h : δ[j]? = some (.ow o)) (n : ∀ a ∈ o.adrs, a ∉ c.M) : ∃ F', Same F F' ∧ Rel c σ H F' (δ.set j (.fz o.data)) := by
  obtain ⟨v, hv, w⟩ := R.ow j o h
  have hj : j < δ.length := by
    rcases Nat.lt_or_ge j δ.length with z | z
    · exact z
    · rw [List.getElem?_eq_none_iff.mpr z] at h; cases h
  have eδ : δ.set j (.ow o) = δ := by
    rw [List.getElem?_eq_getElem hj] at h
    rw [← Option.some.inj h, List.set_getElem_self]
  have nd : (o.adrs ++ adS (δ.set j .no)).Nodup := by
    have := (perm_adS (s := .ow o) hj).nodup_iff.mp (by rw [eδ]; exact R.nd)
    exact this
  have R1 : Rel c σ H F (δ.set j .no) := by
    refine ⟨R.sub, R.fr, R.fr2, R.ff, by rw [List.length_set]; exact R.len, fun k d e => ?_, fun k o' e => ?_, R.nd.sublist (sub_no δ j), fun a m => R.fa a ((sub_no δ j).subset m), R.lb, fun k a e => ?_⟩
    · by_cases z : j = k
      · subst z; rw [List.getElem?_set, if_pos rfl, if_pos hj] at e; cases e
      · rw [List.getElem?_set_ne z] at e; exact R.fz k d e
    · by_cases z : j = k
      · subst z; rw [List.getElem?_set, if_pos rfl, if_pos hj] at e; cases e
      · rw [List.getElem?_set_ne z] at e; exact R.ow k o' e
    · by_cases z : j = k
      · subst z; rw [List.getElem?_set, if_pos rfl, if_pos hj] at e; cases e
      · rw [List.getElem?_set_ne z] at e; exact R.rf k a e
  have rep : RRep c σ H F (δ.set j .no) v (.nw o) := ⟨w, nd, fun a m => by
    obtain ⟨h1, h2⟩ := R.fa a (mem_adS h m)
    exact ⟨h1, h2.resolve_right (n a m)⟩⟩
  obtain ⟨F2, s2, R2, rep2⟩ := frz_ok R1 rep
  refine ⟨F2, s2, ?_⟩
  have := R2.setFz (i := j) rep2
  rw [List.set_set] at this
  have es : σ.set j (some v) = σ := by
    have hj' : j < σ.length := by rw [R.len]; exact hj
    rw [List.getElem?_eq_getElem hj'] at hv
    rw [← Option.some.inj hv, List.set_getElem_self]
  rw [es] at this
  exact this
end
end KD

set_option maxHeartbeats 4000000
namespace KD
open PySem PySem.Spec PyProof.Rows L2 KB
/-! ### rules by values -/
def R.els (δ : List Sl) : R → Option (List D)
  | .fz (.tup l) => some l
  | .fz (.lst l) => some l
  | .fz (.ro l) => some l
  | .bw i => match δ[i]? with
    | some (.ow (.fl _ l)) => some l
    | _ => none
  | .nw (.fl _ l) => some l
  | _ => none
/-- lists alone -/
def R.lsL (δ : List Sl) : R → Option (List D)
  | .fz (.lst l) => some l
  | .bw i => match δ[i]? with
    | some (.ow (.fl _ l)) => some l
    | _ => none
  | .nw (.fl _ l) => some l
  | _ => none
section
variable {g : Gb} {c : Cn g} {σ : L2.St} {H F F' : Hp} {δ : List Sl} {v : V} {r x y : R} {ds es : List D} {d e : D} {i j : Int} {Q : R → List Sl → Prop} {P : PD}
theorem lsL_ok (h : Rel c σ H F δ) (k : RRep c σ H F δ v r) (e : r.lsL δ = some ds) : ∃ a vs, v = .ref a ∧ H a = some (.lst vs) ∧ DpL g F vs ds := by
  cases r with
  | fz d =>
    cases d <;> simp only [R.lsL, reduceCtorEq, Option.some.injEq] at e
    subst e
    cases k with
    | lst h1 h2 => exact ⟨_, _, rfl, h.sub _ _ h1, h2⟩
  | bw i =>
    have k : σ[i]? = some (some v) := k
    simp only [R.lsL] at e
    split at e
    · rename_i a l ho
      cases e
      obtain ⟨v', h1, h2⟩ := h.ow i _ ho
      rw [k] at h1
      cases h1
      cases h2 with
      | fl h3 h4 => exact ⟨_, _, rfl, h3, h4⟩
    · cases e
  | nw o =>
    cases o <;> simp only [R.lsL, reduceCtorEq, Option.some.injEq] at e
    subst e
    cases k.1 with
    | fl h3 h4 => exact ⟨_, _, rfl, h3, h4⟩
  | rf a => cases e
theorem els_ok (h : Rel c σ H F δ) (k : RRep c σ H F δ v r) (e : r.els δ = some ds) : ∃ a vs, v = .ref a ∧ (SqL g.K H a vs ∨ SqT g.K H a vs) ∧ DpL g F vs ds := by
  cases r with
  | fz d =>
    cases d <;> simp only [R.els, reduceCtorEq, Option.some.injEq] at e
    all_goals subst e
    · cases k with
      | tup h1 h2 => exact ⟨_, _, rfl, .inr (.inl (.inl (h.sub _ _ h1))), h2⟩
    · cases k with
      | lst h1 h2 => exact ⟨_, _, rfl, .inl (.inl (.inl (h.sub _ _ h1))), h2⟩
    · cases k with
      | ro h1 h2 => exact ⟨_, _, rfl, .inl (h.sub.seq h1), h2⟩
  | bw i =>
    obtain ⟨a, vs, h1, h2, h3⟩ := lsL_ok h k (ds := ds) (by
      simp only [R.els] at e
      simp only [R.lsL]
      exact e)
    exact ⟨a, vs, h1, .inl (.inl (.inl h2)), h3⟩
  | nw o =>
    cases o <;> simp only [R.els, reduceCtorEq, Option.some.injEq] at e
    obtain ⟨a, vs, h1, h2, h3⟩ := lsL_ok h k (ds := ds) (by subst e; rfl)
    exact ⟨a, vs, h1, .inl (.inl (.inl h2)), h3⟩
  | rf a => cases e
theorem tup_ok (h : Rel c σ H F δ) (k : Dp g F v (.tup ds)) : ∃ a vs, v = .ref a ∧ SqT g.K H a vs ∧ DpL g F vs ds := by
  cases k with
  | tup h1 h2 => exact ⟨_, _, rfl, .inl (.inl (h.sub _ _ h1)), h2⟩
/-- what is flat -/
theorem flat_v {v : V} (k : Dp g F v d) : (∀ i, d = .int i → v = .int i) ∧ (∀ b, d = .bl b → v = .bl b) ∧ (∀ s, d = .str s → v = .str s) ∧ (d = .non → v = .non) := by
  refine ⟨fun i e => ?_, fun b e => ?_, fun s e => ?_, fun e => ?_⟩ <;> (subst e; cases k; rfl)
theorem d_rI0 {gg : Int → Int → V} (hx : x = .fz (.int i)) (hy : y = .fz (.int j)) (hd : flatD (gg i j) = some d) (q : Q (.fz d) δ) : DO c (rI0 gg) x y δ Q := fun σ H F v w QV R k1 k2 k => by
  subst hx; subst hy
  cases k1; cases k2
  exact ⟨i, j, rfl, rfl, k _ H F _ _ q R (Same.refl F) (flatD_ok hd)⟩
theorem d_rI {gg : Int → Int → V} {C : Int → Int → Prop} (hx : x = .fz (.int i)) (hy : y = .fz (.int j)) (hd : flatD (gg i j) = some d) (hC : C i j) (q : Q (.fz d) δ) : DO c (rI C gg) x y δ Q := fun σ H F v w QV R k1 k2 k => by
  subst hx; subst hy
  cases k1; cases k2
  exact ⟨i, j, rfl, rfl, hC, k _ H F _ _ q R (Same.refl F) (flatD_ok hd)⟩
theorem d_rU {gg : Int → V} (hx : x = .fz (.int i)) (hd : flatD (gg i) = some d) (q : Q (.fz d) δ) : DU c (rU gg) x δ Q := fun σ H F v QV R k1 k => by
  subst hx
  cases k1
  exact ⟨i, rfl, k _ H F _ _ q R (Same.refl F) (flatD_ok hd)⟩
def scalD : D → D → Bool
  | .non, .non => true | .non, .int _ => true | .int _, .non => true | .non, .bl _ => true | .bl _, .non => true | .non, .str _ => true | .str _, .non => true
  | .int _, .int _ => true | .bl _, .bl _ => true | .str _, .str _ => true
  | .int _, .str _ => true | .str _, .int _ => true | .bl _, .str _ => true | .str _, .bl _ => true
  | _, _ => false
def eqF : D → D → Bool
  | .non, .non => true
  | .int a, .int b => decide (a = b)
  | .bl a, .bl b => decide (a = b)
  | .str a, .str b => decide (a = b)
  | _, _ => false
theorem scal_ok {v w : V} {d e : D} (k1 : Dp g F v d) (k2 : Dp g F w e) (h : scalD d e = true) : scal v w = true ∧ decide (v = w) = eqF d e := by
  cases k1 <;> cases k2 <;> simp only [scalD, Bool.false_eq_true] at h <;> first
    | exact ⟨rfl, by simp [eqF]⟩
theorem d_eq (hx : x = .fz d) (hy : y = .fz e) (h : scalD d e = true) (q : Q (.fz (.bl (eqF d e))) δ) : DO c rEq x y δ Q := fun σ H F v w QV R k1 k2 k => by
  subst hx; subst hy
  obtain ⟨h1, h2⟩ := scal_ok k1 k2 h
  exact ⟨h1, k _ H F _ _ q R (Same.refl F) (by rw [h2]; exact .bl _)⟩
theorem d_ne (hx : x = .fz d) (hy : y = .fz e) (h : scalD d e = true) (q : Q (.fz (.bl (!eqF d e))) δ) : DO c rNe x y δ Q := fun σ H F v w QV R k1 k2 k => by
  subst hx; subst hy
  obtain ⟨h1, h2⟩ := scal_ok k1 k2 h
  exact ⟨h1, k _ H F _ _ q R (Same.refl F) (by rw [h2]; exact .bl _)⟩
/-! == at any depth -/
mutual
def pyD : D → Option PyData
  | .non => some .none
  | .bl b => some (.bool b)
  | .int i => some (.int i)
  | .str s => some (.str s)
  | .tup l => (pyL l).map PyData.tuple
  | .lst l => (pyL l).map PyData.list
  | _ => none
def pyL : List D → Option (List PyData)
  | [] => some []
  | d :: r => match pyD d, pyL r with
    | some p, some q => some (p :: q)
    | _, _ => none
end
mutual
theorem pyD_ok : ∀ {d : D} {v : V} {p : PyData}, Dp g F v d → pyD d = some p → L2.Dp g.K F v p
  | _, _, _, .non, e => by simp only [pyD, Option.some.injEq] at e; subst e; exact .non
  | _, _, _, .bl b, e => by simp only [pyD, Option.some.injEq] at e; subst e; exact .bl b
  | _, _, _, .int i, e => by simp only [pyD, Option.some.injEq] at e; subst e; exact .int i
  | _, _, _, .str s, e => by simp only [pyD, Option.some.injEq] at e; subst e; exact .str s
  | _, _, _, .tyN s, e => by simp [pyD] at e
  | _, _, _, .tup h l, e => by
    simp only [pyD, Option.map_eq_some_iff] at e
    obtain ⟨q, e1, e2⟩ := e
    subst e2
    exact .tup (.inl (.inl h)) (pyL_ok l e1)
  | _, _, _, .lst h l, e => by
    simp only [pyD, Option.map_eq_some_iff] at e
    obtain ⟨q, e1, e2⟩ := e
    subst e2
    exact .lst (.inl (.inl h)) (pyL_ok l e1)
  | _, _, _, .ro h l, e => by simp [pyD] at e
  | _, _, _, .dk h _ l, e => by simp [pyD] at e
  | _, _, _, .dt h _ l, e => by simp [pyD] at e
  | _, _, _, .dn h _ l, e => by simp [pyD] at e
  | _, _, _, .ob h _ l, e => by simp [pyD] at e
theorem pyL_ok : ∀ {ds : List D} {vs : List V} {ps : List PyData}, DpL g F vs ds → pyL ds = some ps → L2.DpAll g.K F vs ps
  | _, _, _, .nil, e => by simp only [pyL, Option.some.injEq] at e; subst e; exact .nil
  | _, _, _, .cons h t, e => by
    simp only [pyL] at e
    split at e
    · rename_i p q e1 e2
      cases e
      exact .cons (pyD_ok h e1) (pyL_ok t e2)
    · cases e
end
theorem d_eqD {p p' : PyData} (hx : x.dat δ = some d) (hy : y.dat δ = some e) (h1 : pyD d = some p) (h2 : pyD e = some p') (s1 : SeqAt.shaped p = true) (s2 : SeqAt.shaped p' = true) (q : Q (.fz (.bl (PyData.eqv p p'))) δ) :
    DO c (rEqD g.K) x y δ Q := fun σ H F v w QV R k1 k2 k => ⟨p, p', pyD_ok (rep_dat R k1 hx) h1, pyD_ok (rep_dat R k2 hy) h2, s1, s2, k _ H F _ _ q R (Same.refl F) (.bl _)⟩
theorem d_neD {p p' : PyData} (hx : x.dat δ = some d) (hy : y.dat δ = some e) (h1 : pyD d = some p) (h2 : pyD e = some p') (s1 : SeqAt.shaped p = true) (s2 : SeqAt.shaped p' = true) (q : Q (.fz (.bl (!PyData.eqv p p'))) δ) :
    DO c (rNeD g.K) x y δ Q := fun σ H F v w QV R k1 k2 k => ⟨p, p', pyD_ok (rep_dat R k1 hx) h1, pyD_ok (rep_dat R k2 hy) h2, s1, s2, k _ H F _ _ q R (Same.refl F) (.bl _)⟩
/-! is None, is a truth -/
def D.isN : D → Bool
  | .non => true
  | _ => false
theorem isN_ok {v : V} (k : Dp g F v d) : decide (v = .non) = d.isN := by cases k <;> rfl
theorem d_isN (hx : x.dat δ = some d) (hy : y = .fz .non) (q : Q (.fz (.bl d.isN)) δ) : DO c rIsN x y δ Q := fun σ H F v w QV R k1 k2 k => by
  subst hy
  cases k2
  exact ⟨rfl, k _ H F _ _ q R (Same.refl F) (by rw [isN_ok (rep_dat R k1 hx)]; exact .bl _)⟩
theorem d_notN (hx : x.dat δ = some d) (hy : y = .fz .non) (q : Q (.fz (.bl (!d.isN))) δ) : DO c rNotN x y δ Q := fun σ H F v w QV R k1 k2 k => by
  subst hy
  cases k2
  exact ⟨rfl, k _ H F _ _ q R (Same.refl F) (by rw [isN_ok (rep_dat R k1 hx)]; exact .bl _)⟩
theorem d_isB {a b : Bool} (hx : x = .fz (.bl a)) (hy : y = .fz (.bl b)) (q : Q (.fz (.bl (decide (a = b)))) δ) : DO c rIsB x y δ Q := fun σ H F v w QV R k1 k2 k => by
  subst hx; subst hy
  cases k1; cases k2
  exact ⟨a, b, rfl, rfl, k _ H F _ _ q R (Same.refl F) (.bl _)⟩
theorem d_notB {a b : Bool} (hx : x = .fz (.bl a)) (hy : y = .fz (.bl b)) (q : Q (.fz (.bl (!decide (a = b)))) δ) : DO c rNotB x y δ Q := fun σ H F v w QV R k1 k2 k => by
  subst hx; subst hy
  cases k1; cases k2
  exact ⟨a, b, rfl, rfl, k _ H F _ _ q R (Same.refl F) (.bl _)⟩
/-! subscripts -/
theorem atI_dp {vs : List V} (h : DpL g F vs ds) (e : atI ds i = some d) : ∃ v, atI vs i = some v ∧ Dp g F v d := by
  unfold atI at e ⊢
  rw [h.length]
  cases q : ixN ds.length i with
  | none => rw [q] at e; cases e
  | some j =>
    rw [q] at e
    exact h.get e
theorem d_ix (hx : x.els δ = some ds) (hy : y = .fz (.int i)) (ha : atI ds i = some d) (q : Q (.fz d) δ) : DO c (rIx g.K) x y δ Q := fun σ H F v w QV R k1 k2 k => by
  subst hy
  cases k2
  obtain ⟨a, vs, rfl, hs, hd⟩ := els_ok R k1 hx
  obtain ⟨u, e1, e2⟩ := atI_dp hd ha
  have kk := k u H F _ _ q R (Same.refl F) e2
  rcases hs with hs | hs
  · exact .inl ⟨a, vs, i, u, rfl, rfl, hs, e1, kk⟩
  · exact .inr (.inl ⟨a, vs, i, u, rfl, rfl, hs, e1, kk⟩)
theorem d_ixS {z : Str} {ch : Nat} (hx : x = .fz (.str z)) (hy : y = .fz (.int i)) (hz : z.length ≤ sizeLine) (ha : atI z.cps.toList i = some ch) (q : Q (.fz (.str ⟨#[ch]⟩)) δ) : DO c rIxS x y δ Q := fun σ H F v w QV R k1 k2 k => by
  subst hx; subst hy
  cases k1; cases k2
  exact ⟨z, i, ch, rfl, rfl, hz, ha, k _ H F _ _ q R (Same.refl F) (.str _)⟩
/-! built-ins -/
theorem one_rep {vs : List V} (h : RepL c σ H F δ vs [x]) : ∃ v, vs = [v] ∧ RRep c σ H F δ v x := by
  cases h with
  | cons _ h t => cases t; exact ⟨_, rfl, h⟩
theorem two_rep {vs : List V} (h : RepL c σ H F δ vs [x, y]) : ∃ v w, vs = [v, w] ∧ RRep c σ H F δ v x ∧ RRep c σ H F δ w y := by
  cases h with
  | cons _ h t =>
    obtain ⟨w, rfl, h2⟩ := one_rep t
    exact ⟨_, w, rfl, h, h2⟩
theorem d_len (hx : x.els δ = some ds) (q : Q (.fz (.int (ds.length : Nat))) δ) : DC c (rLenK g.K) [x] δ Q := fun σ H F vs QV R k1 k => by
  obtain ⟨v, rfl, h⟩ := one_rep k1
  obtain ⟨a, ws, rfl, hs, hd⟩ := els_ok R h hx
  have kk := k _ H F _ _ q R (Same.refl F) (Dp.int (g := g) (F := F) _)
  rw [← hd.length] at kk
  rcases hs with hs | hs
  · exact ⟨_, _, rfl, .inl ⟨_, hs, rfl⟩, kk⟩
  · exact ⟨_, _, rfl, .inr ⟨_, hs, rfl⟩, kk⟩
theorem d_lenS {z : Str} (hx : x = .fz (.str z)) (hz : z.length ≤ sizeLine) (q : Q (.fz (.int (z.length : Nat))) δ) : DC c (rLenK g.K) [x] δ Q := fun σ H F vs QV R k1 k => by
  obtain ⟨v, rfl, h⟩ := one_rep k1
  subst hx
  cases h
  exact ⟨_, _, rfl, ⟨hz, rfl⟩, k _ H F _ _ q R (Same.refl F) (.int _)⟩
theorem d_max2 (hx : x = .fz (.int i)) (hy : y = .fz (.int j)) (q : Q (.fz (.int (max i j))) δ) : DC c rMax2 [x, y] δ Q := fun σ H F vs QV R k1 k => by
  obtain ⟨v, w, rfl, h1, h2⟩ := two_rep k1
  subst hx; subst hy
  cases h1; cases h2
  exact i_max2 (k _ H F _ _ q R (Same.refl F) (.int _))
theorem d_min2 (hx : x = .fz (.int i)) (hy : y = .fz (.int j)) (q : Q (.fz (.int (min i j))) δ) : DC c rMin2 [x, y] δ Q := fun σ H F vs QV R k1 k => by
  obtain ⟨v, w, rfl, h1, h2⟩ := two_rep k1
  subst hx; subst hy
  cases h1; cases h2
  exact i_min2 (k _ H F _ _ q R (Same.refl F) (.int _))
theorem d_abs (hx : x = .fz (.int i)) (q : Q (.fz (.int (if i < 0 then -i else i))) δ) : DC c rAbs [x] δ Q := fun σ H F vs QV R k1 k => by
  obtain ⟨v, rfl, h1⟩ := one_rep k1
  subst hx
  cases h1
  exact i_abs (k _ H F _ _ q R (Same.refl F) (.int _))
theorem d_int1 (hx : x = .fz (.int i)) (q : Q (.fz (.int i)) δ) : DC c rInt1 [x] δ Q := fun σ H F vs QV R k1 k => by
  obtain ⟨v, rfl, h1⟩ := one_rep k1
  subst hx
  cases h1
  exact i_int1 (k _ H F _ _ q R (Same.refl F) (.int _))
/-! lists of truths, of ints -/
theorem dp_bls {bs : List Bool} : ∀ {vs : List V}, DpL g F vs (bs.map D.bl) → vs = bs.map V.bl := by
  induction bs with
  | nil => intro vs h; cases h; rfl
  | cons b bs ih =>
    intro vs h
    rw [List.map_cons] at h
    cases h with
    | cons h t => cases h; rw [ih t]; rfl
theorem dp_ints {bs : List Int} : ∀ {vs : List V}, DpL g F vs (bs.map D.int) → vs = bs.map V.int := by
  induction bs with
  | nil => intro vs h; cases h; rfl
  | cons b bs ih =>
    intro vs h
    rw [List.map_cons] at h
    cases h with
    | cons h t => cases h; rw [ih t]; rfl
/-- lists, read alone too -/
def R.lsR (δ : List Sl) : R → Option (List D)
  | .fz (.ro l) => some l
  | r => r.lsL δ
theorem lsR_ok (h : Rel c σ H F δ) (k : RRep c σ H F δ v r) (e : r.lsR δ = some ds) : ∃ a vs, v = .ref a ∧ SqL g.K H a vs ∧ DpL g F vs ds := by
  by_cases z : ∃ l, r = .fz (.ro l)
  · obtain ⟨l, rfl⟩ := z
    simp only [R.lsR, Option.some.injEq] at e
    subst e
    cases k with
    | ro h1 h2 => exact ⟨_, _, rfl, h.sub.seq h1, h2⟩
  · have e' : r.lsL δ = some ds := by
      unfold R.lsR at e
      split at e
      · exact absurd ⟨_, rfl⟩ z
      · exact e
    obtain ⟨a, vs, h1, h2, h3⟩ := lsL_ok h k e'
    exact ⟨a, vs, h1, .inl (.inl h2), h3⟩
theorem d_sum {ns : List Int} (hx : x.lsR δ = some ds) (hn : ds = ns.map D.int) (q : Q (.fz (.int ns.sum)) δ) : DC c (rSum g.K) [x] δ Q := fun σ H F vs QV R k1 k => by
  obtain ⟨v, rfl, h⟩ := one_rep k1
  obtain ⟨a, ws, rfl, hs, hd⟩ := lsR_ok R h hx
  subst hn
  rw [dp_ints hd] at hs
  exact ⟨a, ns, rfl, hs, k _ H F _ _ q R (Same.refl F) (.int _)⟩
theorem d_all {bs : List Bool} (hx : x.lsR δ = some ds) (hn : ds = bs.map D.bl) (q : Q (.fz (.bl (bs.all id))) δ) : DC c (rAll g.K) [x] δ Q := fun σ H F vs QV R k1 k => by
  obtain ⟨v, rfl, h⟩ := one_rep k1
  obtain ⟨a, ws, rfl, hs, hd⟩ := lsR_ok R h hx
  subst hn
  rw [dp_bls hd] at hs
  exact ⟨a, bs, rfl, hs, k _ H F _ _ q R (Same.refl F) (.bl _)⟩
theorem d_any {bs : List Bool} (hx : x.lsR δ = some ds) (hn : ds = bs.map D.bl) (q : Q (.fz (.bl (bs.any id))) δ) : DC c (rAny g.K) [x] δ Q := fun σ H F vs QV R k1 k => by
  obtain ⟨v, rfl, h⟩ := one_rep k1
  obtain ⟨a, ws, rfl, hs, hd⟩ := lsR_ok R h hx
  subst hn
  rw [dp_bls hd] at hs
  exact ⟨a, bs, rfl, hs, k _ H F _ _ q R (Same.refl F) (.bl _)⟩
/-! new tuples and lists -/
theorem Rel.new {p : Addr} {o : HO} (h : Rel c σ H F δ) (hp : H p = none) : Rel c σ (upd H p o) (upd F p o) δ ∧ Same F (upd F p o) ∧ Same H (upd H p o) := by
  have np : F p = none := by
    cases e : F p with
    | none => rfl
    | some u => have := h.sub p u e; rw [hp] at this; cases this
  have n0 : c.H0 p = none := by
    cases e : c.H0 p with
    | none => rfl
    | some u => exact absurd hp (h.fr2 p (by rw [e]; exact fun z => nomatch z))
  have sF : Same F (upd F p o) := Same.new np
  have sH : Same H (upd H p o) := Same.new hp
  have na : ∀ a ∈ adS δ, a ≠ p := fun a m z => h.has a m (by rw [z]; exact hp)
  refine ⟨⟨fun a u e => ?_, fun a u e1 e2 => sH _ _ (h.fr a u e1 e2), fun a z => ?_, fun a z => ?_, h.len, fun i d e => ?_, fun i o' e => ?_, h.nd, fun a m => ?_, h.lb.trans sF, h.rf⟩, sF, sH⟩
  · by_cases z : a = p
    · subst z; rw [upd_same] at e ⊢; exact e
    · rw [upd_ne z] at e ⊢; exact h.sub a u e
  · have := h.fr2 a z
    cases e : H a with
    | none => exact absurd e this
    | some u => rw [sH _ _ e]; exact fun z => nomatch z
  · have : a ≠ p := fun e => z (by rw [e]; exact n0)
    rw [upd_ne this]
    exact h.ff a z
  · obtain ⟨v, h1, h2⟩ := h.fz i d e
    exact ⟨v, h1, h2.mono sF⟩
  · obtain ⟨v, h1, h2⟩ := h.ow i o' e
    exact ⟨v, h1, h2.move sF fun a m => upd_ne (na a (mem_adS e m))⟩
  · rw [upd_ne (na a m)]
    exact h.fa a m
/-- the same, the new thing not given to the frozen part -/
theorem Rel.newO {p : Addr} {o : HO} (h : Rel c σ H F δ) (hp : H p = none) : Rel c σ (upd H p o) F δ ∧ F p = none ∧ c.H0 p = none ∧ p ∉ adS δ := by
  have np : F p = none := by
    cases e : F p with
    | none => rfl
    | some u => have := h.sub p u e; rw [hp] at this; cases this
  have n0 : c.H0 p = none := by
    cases e : c.H0 p with
    | none => rfl
    | some u => exact absurd hp (h.fr2 p (by rw [e]; exact fun z => nomatch z))
  have sH : Same H (upd H p o) := Same.new hp
  have na : ∀ a ∈ adS δ, a ≠ p := fun a m z => h.has a m (by rw [z]; exact hp)
  refine ⟨⟨fun a u e => sH _ _ (h.sub a u e), fun a u e1 e2 => sH _ _ (h.fr a u e1 e2), fun a z => ?_, h.ff, h.len, h.fz, fun i o' e => ?_, h.nd, h.fa, h.lb, h.rf⟩, np, n0, fun m => na p m rfl⟩
  · have := h.fr2 a z
    cases e : H a with
    | none => exact absurd e this
    | some u => rw [sH _ _ e]; exact fun z => nomatch z
  · obtain ⟨v, h1, h2⟩ := h.ow i o' e
    exact ⟨v, h1, h2.move (Same.refl F) fun a m => upd_ne (na a (mem_adS e m))⟩
theorem nw_ok {p : Addr} {vs : List V} (h : Rel c σ H F δ) (hp : H p = none) (hd : DpL g F vs ds) : Rel c σ (upd H p (.lst vs)) F δ ∧ RRep c σ (upd H p (.lst vs)) F δ (.ref p) (.nw (.fl p ds)) := by
  obtain ⟨R, h1, h2, h3⟩ := h.newO (o := .lst vs) hp
  refine ⟨R, .fl upd_same hd, ?_, fun a m => ?_⟩
  · simp only [OD.adrs, List.singleton_append, List.nodup_cons]
    exact ⟨h3, h.nd⟩
  · simp only [OD.adrs, List.mem_singleton] at m
    subst m
    exact ⟨h1, h2⟩
/-- all frozen data -/
inductive AllFz : List R → List D → Prop where
  | nil : AllFz [] []
  | cons {d : D} {rs : List R} {ds : List D} : AllFz rs ds → AllFz (.fz d :: rs) (d :: ds)
theorem allFz_ok : ∀ {vs : List V} {rs : List R} {ds : List D}, RepL c σ H F δ vs rs → AllFz rs ds → DpL g F vs ds
  | _, _, _, .nil, .nil => .nil
  | _, _, _, .cons _ h t, .cons a => .cons h (allFz_ok t a)
def fzs : List R → Option (List D)
  | [] => some []
  | .fz d :: rs => (fzs rs).map (d :: ·)
  | _ => none
theorem fzs_ok : ∀ {rs : List R} {ds : List D}, fzs rs = some ds → AllFz rs ds
  | [], _, e => by cases e; exact .nil
  | .fz d :: rs, ds, e => by
    simp only [fzs, Option.map_eq_some_iff] at e
    obtain ⟨q, e1, e2⟩ := e
    subst e2
    exact .cons (fzs_ok e1)
  | .bw _ :: _, _, e => by simp [fzs] at e
  | .nw _ :: _, _, e => by simp [fzs] at e
  | .rf _ :: _, _, e => by simp [fzs] at e
theorem d_tup {tr : TA} (q : DA c tr δ fun rs δ1 => ∃ ds, fzs rs = some ds ∧ ds.length ≤ sizeLine ∧ Q (.fz (.tup ds)) δ1) : DE c (tTup tr) δ Q := fun σ H F QV R k =>
  q σ H F _ R fun vs H1 F1 rs δ1 ⟨ds, e, l, q1⟩ R1 s1 rep => by
    have hd := allFz_ok rep (fzs_ok e)
    refine ⟨by rw [hd.length]; exact l, fun p hp => ?_⟩
    obtain ⟨R2, s2, _⟩ := R1.new (o := .tup vs) hp
    exact k _ _ _ _ δ1 q1 R2 (s1.trans s2) (.tup upd_same (hd.mono s2))
theorem d_lst {tr : TA} (q : DA c tr δ fun rs δ1 => ∃ ds, fzs rs = some ds ∧ ds.length ≤ sizeLine ∧ ∀ p, Q (.nw (.fl p ds)) δ1) : DE c (tLst tr) δ Q := fun σ H F QV R k =>
  q σ H F _ R fun vs H1 F1 rs δ1 ⟨ds, e, l, q1⟩ R1 s1 rep => by
    have hd := allFz_ok rep (fzs_ok e)
    refine ⟨by rw [hd.length]; exact l, fun p hp => ?_⟩
    obtain ⟨R2, rep2⟩ := nw_ok R1 hp hd
    exact k _ _ _ _ δ1 (q1 p) R2 s1 rep2
theorem d_listOf (hx : x.els δ = some ds) (q : ∀ p, Q (.nw (.fl p ds)) δ) : DC c (fun xs H Q => ∃ p ys, xs = [.ref p] ∧ (SqL g.K H p ys ∨ SqT g.K H p ys) ∧ ∀ l, H l = none → Q (.ref l) (upd H l (.lst ys))) [x] δ Q := fun σ H F vs QV R k1 k => by
  obtain ⟨v, rfl, h⟩ := one_rep k1
  obtain ⟨a, ws, rfl, hs, hd⟩ := els_ok R h hx
  refine ⟨a, ws, rfl, hs, fun l hl => ?_⟩
  obtain ⟨R2, rep2⟩ := nw_ok R hl hd
  exact k _ _ _ _ δ (q l) R2 (Same.refl F) rep2
theorem d_tupOf (hx : x.els δ = some ds) (q : Q (.fz (.tup ds)) δ) : DC c (fun xs H Q => ∃ p ys, xs = [.ref p] ∧ ((SqL g.K H p ys ∧ ∀ l, H l = none → Q (.ref l) (upd H l (.tup ys))) ∨ (SqT g.K H p ys ∧ Q (.ref p) H))) [x] δ Q := fun σ H F vs QV Rr k1 k => by
  obtain ⟨v, rfl, h⟩ := one_rep k1
  have new : ∀ (ws : List V), DpL g F ws ds → ∀ l, H l = none → QV (.ref l) (upd H l (.tup ws)) := fun ws hd l hl => by
    obtain ⟨R2, s2, _⟩ := Rr.new (o := .tup ws) hl
    exact k _ _ _ _ δ q R2 s2 (.tup upd_same (hd.mono s2))
  by_cases z : ∃ l, x = .fz (.tup l)
  · obtain ⟨l, rfl⟩ := z
    simp only [R.els, Option.some.injEq] at hx
    subst hx
    obtain ⟨a, ws, rfl, hs, hd⟩ := tup_ok Rr h
    exact ⟨a, ws, rfl, .inr ⟨hs, k _ H F _ δ q Rr (Same.refl F) h⟩⟩
  · have e' : x.lsR δ = some ds := by
      cases x with
      | fz d => cases d <;> simp only [R.els, reduceCtorEq, Option.some.injEq] at hx <;> first | exact absurd ⟨_, rfl⟩ z | (subst hx; rfl)
      | bw i => exact hx
      | nw o => cases o <;> simp only [R.els, reduceCtorEq, Option.some.injEq] at hx; subst hx; rfl
      | rf a => cases hx
    obtain ⟨a, ws, rfl, hs, hd⟩ := lsR_ok Rr h e'
    exact ⟨a, ws, rfl, .inl ⟨hs, new ws hd⟩⟩
/-! isinstance -/
def D.ty : D → String
  | .non => "NoneType"
  | .bl _ => "bool"
  | .int _ => "int"
  | .str _ => "str"
  | .tup _ => "tuple"
  | .lst _ => "list"
  | .ro _ => "list"
  | .dk _ => "dict"
  | .dt _ => "dict"
  | .dn _ => "dict"
  | .ob _ _ => "object"
  | .tyN _ => "type"
def rIsD (K : PySem.W.Frag) : List V → Hp → VK → Prop := fun xs H Q => ∃ (x : V) (T n : String) (b : Bool), xs = [x, .ty T] ∧ TyX K H x (.type n) ∧ kitB n T = some b ∧ Q (.bl b) H
theorem call_isD {X : Cx} : CallR X (.builtin "isinstance") (rIsD X.K) := by
  intro pins s σ H xs us Q I r h
  obtain ⟨x, T, n, b, e, h1, h2, q⟩ := h
  exact call_isi pins s σ H xs us Q I r ⟨x, .ty T, .type n, .type T, b, e, .ty T, h1, kit_ty h2, q⟩
/-- the data is of the type, or not -/
def D.isT (T : String) (d : D) : Option Bool :=
  match d with
  | .ob _ _ => none
  | .tyN _ => none
  | .dn _ => none
  | _ => kitB d.ty T
theorem ty_ok {v : V} (k : Dp g H v d) (n : ∀ C fs, d ≠ .ob C fs) (n2 : ∀ t, d ≠ .tyN t) (n3 : ∀ l, d ≠ .dn l) : TyX g.K H v (.type d.ty) := by
  cases k with
  | non => exact .base .non
  | bl b => exact .base (.bl b)
  | int i => exact .base (.int i)
  | str s => exact .base (.str s)
  | tyN t => exact absurd rfl (n2 t)
  | tup h l => exact .base (.tup h)
  | lst h l => exact .base (.lst h)
  | ro h l =>
    rcases h with (h | ⟨o, h⟩) | ⟨o, its, m, h, h1, _⟩
    · exact .base (.lst h)
    · exact .base (.frz h)
    · exact .kList h h1
  | dk h _ l => exact .base (.dK h)
  | dt h _ l => exact .base (.dT h)
  | dn h _ l => exact absurd rfl (n3 _)
  | ob h _ l => exact absurd rfl (n _ _)
theorem d_isinst {T : String} {b : Bool} (hx : x.dat δ = some d) (ht : d.isT T = some b) (q : Q (.fz (.bl b)) δ) : DC c (rIsD g.K) [x, .fz (.tyN T)] δ Q := fun σ H F vs QV R k1 k => by
  obtain ⟨v, w, rfl, k3, k4⟩ := two_rep k1
  cases k4
  have hd := rep_dat R k3 hx
  refine ⟨v, T, d.ty, b, rfl, ty_ok hd (fun C fs z => ?_) (fun t z => ?_) (fun l z => ?_), ?_, k _ H F _ _ q R (Same.refl F) (.bl _)⟩
  · subst z; simp [D.isT] at ht
  · subst z; simp [D.isT] at ht
  · subst z; simp [D.isT] at ht
  · cases d <;> first | exact ht | (simp [D.isT] at ht; done)
end
end KD

set_option maxHeartbeats 4000000
namespace KD
open PySem PySem.Spec PyProof.Rows L2 KB
/-! ### what is held alone is changed -/
section
variable {g : Gb} {c : Cn g} {σ : L2.St} {H F F' H' : Hp} {δ : List Sl} {v : V} {r x y : R} {ds es : List D} {d e : D} {o o2 : OD} {i j : Nat} {Q : R → List Sl → Prop} {P : PD}
theorem at_lt {δ : List Sl} {i : Nat} {s : Sl} (h : δ[i]? = some s) : i < δ.length := by
  rcases Nat.lt_or_ge i δ.length with z | z
  · exact z
  · rw [List.getElem?_eq_none_iff.mpr z] at h; cases h
theorem nd_at (R : Rel c σ H F δ) (hi : δ[i]? = some (.ow o)) : (o.adrs ++ adS (δ.set i .no)).Nodup := by
  have hl := at_lt hi
  have eδ : δ.set i (.ow o) = δ := by
    rw [List.getElem?_eq_getElem hl] at hi
    rw [← Option.some.inj hi, List.set_getElem_self]
  exact (perm_adS (s := .ow o) hl).nodup_iff.mp (by rw [eδ]; exact R.nd)
/-- the general change: by a call, by a method -/
theorem Rel.chg (R : Rel c σ H F δ) (hi : δ[i]? = some (.ow o)) (sF : Same F F') (sub : Same F' H') (k : ∀ b u, H b = some u → b ∉ o.adrs → H' b = some u) (k2 : ∀ b, H b ≠ none → H' b ≠ none) (kf : ∀ b, H b ≠ none → Fx (F' b) (F b))
    (w : ∀ v, σ[i]? = some (some v) → Ow g H F v o → Ow g H' F' v o2) (nd : o2.adrs.Nodup) (fa : ∀ b ∈ o2.adrs, F' b = none ∧ (H b = none ∨ b ∈ o.adrs)) : Rel c σ H' F' (δ.set i (.ow o2)) := by
  have hl := at_lt hi
  have nd0 := nd_at R hi
  have h0H : ∀ b, c.H0 b ≠ none → H b ≠ none := R.fr2
  have other : ∀ j o', i ≠ j → δ[j]? = some (Sl.ow o') → ∀ b ∈ o'.adrs, b ∉ o.adrs := fun j o' ne e b m z => by
    have m' : b ∈ adS (δ.set i .no) := mem_adS (i := j) (o := o') (by rw [List.getElem?_set_ne ne]; exact e) m
    exact (List.nodup_append.mp nd0).2.2 b z b m' rfl
  have pm := perm_adS (s := .ow o2) hl
  have mine : ∀ b ∈ o.adrs, b ∈ adS δ := fun b m => mem_adS hi m
  refine ⟨sub, fun a u e1 e2 => k a u (R.fr a u e1 e2) fun m => ?_, fun a z => k2 a (h0H a z), fun a z => (kf a (h0H a z)).trans (R.ff a z), by rw [List.length_set]; exact R.len, fun j d e => ?_, fun j o' e => ?_, pm.nodup_iff.mpr ?_, fun a m => ?_, R.lb.trans sF, fun j a e => ?_⟩
  · rcases (R.fa a (mine a m)).2 with z | z
    · rw [e1] at z; cases z
    · exact e2 z
  · by_cases z : i = j
    · subst z; rw [List.getElem?_set, if_pos rfl, if_pos hl] at e; cases e
    · rw [List.getElem?_set_ne z] at e
      obtain ⟨v, h1, h2⟩ := R.fz j d e
      exact ⟨v, h1, h2.mono sF⟩
  · by_cases z : i = j
    · subst z
      rw [List.getElem?_set, if_pos rfl, if_pos hl] at e
      cases e
      obtain ⟨v, h1, h2⟩ := R.ow i o hi
      exact ⟨v, h1, w v h1 h2⟩
    · rw [List.getElem?_set_ne z] at e
      obtain ⟨v, h1, h2⟩ := R.ow j o' e
      refine ⟨v, h1, h2.move sF fun b m => ?_⟩
      have hb := h2.has b m
      cases q : H b with
      | none => exact absurd q hb
      | some u => exact k b u q (other j o' z e b m)
  · refine List.nodup_append.mpr ⟨nd, (List.nodup_append.mp nd0).2.1, fun a m1 b m2 z => ?_⟩
    subst z
    rcases (fa a m1).2 with q | q
    · exact R.has a ((sub_no δ i).subset m2) q
    · exact (List.nodup_append.mp nd0).2.2 a q a m2 rfl
  · rcases List.mem_append.mp (pm.subset m) with m | m
    · refine ⟨(fa a m).1, ?_⟩
      rcases (fa a m).2 with q | q
      · left
        cases z : c.H0 a with
        | none => rfl
        | some u => exact absurd q (h0H a (by rw [z]; exact fun z => nomatch z))
      · exact (R.fa a (mine a q)).2
    · have m' := (sub_no δ i).subset m
      have hb := R.has a m'
      refine ⟨fx_none (kf a hb) (R.fa a m').1 sub fun t z => ?_, (R.fa a m').2⟩
      cases q : H a with
      | none => exact hb q
      | some u =>
        rw [k a u q fun z2 => (List.nodup_append.mp nd0).2.2 a z2 a m rfl] at z
        exact R.nt a m' t (q.trans z)
  · by_cases z : i = j
    · subst z; rw [List.getElem?_set, if_pos rfl, if_pos hl] at e; cases e
    · rw [List.getElem?_set_ne z] at e; exact R.rf j a e
/-- one object of it is changed -/
theorem Rel.chg1 {a : Addr} {u : HO} (R : Rel c σ H F δ) (hi : δ[i]? = some (.ow o)) (ha : a ∈ o.adrs) (e : o2.adrs = o.adrs) (w : ∀ v, Ow g H F v o → Ow g (upd H a u) F v o2) : Rel c σ (upd H a u) F (δ.set i (.ow o2)) := by
  have fa := R.fa
  have mine : ∀ b ∈ o.adrs, b ∈ adS δ := fun b m => mem_adS hi m
  have nF : F a = none := (fa a (mine a ha)).1
  refine R.chg hi (Same.refl F) (fun b z q => ?_) (fun b z q nb => ?_) (fun b q => ?_) (fun b _ => .inl rfl) (fun v _ h => w v h) (by rw [e]; exact (List.nodup_append.mp (nd_at R hi)).1) fun b m => ⟨(fa b (mine b (by rw [← e]; exact m))).1, .inr (by rw [← e]; exact m)⟩
  · have : b ≠ a := fun z => by subst z; rw [nF] at q; cases q
    rw [upd_ne this]; exact R.sub b z q
  · have : b ≠ a := fun z => by subst z; exact nb ha
    rw [upd_ne this]; exact q
  · by_cases z : b = a
    · subst z; rw [upd_same]; exact fun z => nomatch z
    · rw [upd_ne z]; exact q
theorem fl_chg {a : Addr} {ws : List V} (R : Rel c σ H F δ) (hi : δ[i]? = some (.ow (.fl a ds))) (hd : DpL g F ws es) : Rel c σ (upd H a (.lst ws)) F (δ.set i (.ow (.fl a es))) := by
  refine R.chg1 hi (by simp [OD.adrs]) rfl fun v h => ?_
  cases h with
  | fl _ _ => exact .fl upd_same hd
theorem fl_at {a : Addr} (R : Rel c σ H F δ) (hi : δ[i]? = some (.ow (.fl a ds))) (hv : σ[i]? = some (some v)) : ∃ vs, v = .ref a ∧ H a = some (.lst vs) ∧ DpL g F vs ds := by
  obtain ⟨w, h1, h2⟩ := R.ow i _ hi
  rw [hv] at h1
  cases h1
  cases h2 with
  | fl h3 h4 => exact ⟨_, rfl, h3, h4⟩
/-! methods of lists -/
theorem d_BM {K : PySem.W.Frag} {f : V → List V → Hp → VK → Prop} {te : TE} {tr : TA} (hK : K = g.K) (q : DE c te δ fun x δ1 => (∃ ds, x.frz.lsL δ1 = some ds) ∧ DA c tr δ1 fun xs δ2 => DM c f x.frz xs δ2 Q) : DE c (tBM K "list" f te tr) δ Q := fun σ H F QV R k => by
  subst hK
  refine de_frz (QV := fun x H1 => tyV g.K "list" x H1 ∧ tr σ H1 fun xs H2 => f x xs H2 QV) q R fun v H1 F1 x δ1 ⟨⟨ds, e⟩, q1⟩ R1 s1 rep1 => ?_
  obtain ⟨a, vs, rfl, h1, _⟩ := lsL_ok R1 rep1 e
  refine ⟨.inl ⟨rfl, _, .inl (.inl h1)⟩, q1 σ H1 F1 _ R1 fun ws H2 F2 xs δ2 q2 R2 s2 rep2 => ?_⟩
  exact q2 σ H2 F2 _ ws QV R2 (rep_keep rep1 (frz_frz _) s2) rep2 fun v' H' F' r δ' q' R' s' => k v' H' F' r δ' q' R' ((s1.trans s2).trans s')
theorem d_BM0 {K : PySem.W.Frag} {f : V → List V → Hp → VK → Prop} {te : TE} (hK : K = g.K) (q : DE c te δ fun x δ1 => (∃ ds, x.frz.lsL δ1 = some ds) ∧ DM c f x.frz [] δ1 Q) : DE c (tBM0 K "list" f te) δ Q := fun σ H F QV R k => by
  subst hK
  refine de_frz (QV := fun x H1 => tyV g.K "list" x H1 ∧ f x [] H1 QV) q R fun v H1 F1 x δ1 ⟨⟨ds, e⟩, q1⟩ R1 s1 rep1 => ?_
  obtain ⟨a, vs, rfl, h1, _⟩ := lsL_ok R1 rep1 e
  exact ⟨.inl ⟨rfl, _, .inl (.inl h1)⟩, q1 σ H1 F1 _ [] QV R1 rep1 .nil fun v' H' F' r δ' q' R' s' => k v' H' F' r δ' q' R' (s1.trans s')⟩
theorem d_append {a : Addr} (hx : x = .bw i) (hy : y = .fz d) (hi : δ[i]? = some (.ow (.fl a ds))) (hl : ds.length < sizeLine) (q : Q (.fz .non) (δ.set i (.ow (.fl a (ds ++ [d]))))) : DM c rAppend x [y] δ Q := fun σ H F v vs QV R k1 k2 k => by
  subst hx; subst hy
  obtain ⟨w, rfl, hw⟩ := one_rep k2
  obtain ⟨ws, rfl, h1, h2⟩ := fl_at R hi k1
  exact ⟨a, ws, w, rfl, rfl, h1, by rw [h2.length]; exact hl, k _ _ F _ _ q (fl_chg R hi (h2.append (.cons hw .nil))) (Same.refl F) .non⟩
theorem d_extend {a : Addr} (hx : x = .bw i) (hy : y.lsL δ = some es) (hi : δ[i]? = some (.ow (.fl a ds))) (hl : ds.length + es.length ≤ sizeLine) (q : Q (.fz .non) (δ.set i (.ow (.fl a (ds ++ es))))) : DM c rExtend x [y] δ Q := fun σ H F v vs QV R k1 k2 k => by
  subst hx
  obtain ⟨w, rfl, hw⟩ := one_rep k2
  obtain ⟨ws, rfl, h1, h2⟩ := fl_at R hi k1
  obtain ⟨b, us, rfl, h3, h4⟩ := lsL_ok R hw hy
  exact ⟨a, b, ws, us, rfl, rfl, h1, h3, by rw [h2.length, h4.length]; exact hl, k _ _ F _ _ q (fl_chg R hi (h2.append h4)) (Same.refl F) .non⟩
theorem DpL.dropLast {vs : List V} (h : DpL g F vs ds) : DpL g F vs.dropLast ds.dropLast := by
  rw [List.dropLast_eq_take, List.dropLast_eq_take, h.length]
  exact h.take _
theorem d_pop {a : Addr} (hx : x = .bw i) (hi : δ[i]? = some (.ow (.fl a ds))) (hl : ds[ds.length - 1]? = some d) (q : Q (.fz d) (δ.set i (.ow (.fl a ds.dropLast)))) : DM c rPop x [] δ Q := fun σ H F v vs QV R k1 k2 k => by
  subst hx
  cases k2
  obtain ⟨ws, rfl, h1, h2⟩ := fl_at R hi k1
  obtain ⟨u, e1, e2⟩ := h2.get hl
  rw [← h2.length] at e1
  exact ⟨a, ws, u, rfl, rfl, h1, e1, k _ _ F _ _ q (fl_chg R hi h2.dropLast) (Same.refl F) e2⟩
/-! stores -/
theorem d_setL {a : Addr} {k : Int} {to ti : TE} {Qn : List Sl → Prop} (q : DE c to δ fun x δ1 => DE c ti δ1 fun z δ2 => ∃ i a ds k j d, x = .bw i ∧ z = .fz (.int k) ∧ r.frz = .fz d ∧ δ2[i]? = some (.ow (.fl a ds)) ∧ ixN ds.length k = some j ∧ Qn (δ2.set i (.ow (.fl a (ds.set j d))))) : DG c (gSub to ti rSetL) r δ Qn := fun σ H F v S R rep kk => by
  obtain ⟨F0, s0, R0, rep0⟩ := frz_ok R rep
  refine q σ H F0 _ R0 fun u H1 F1 x δ1 q1 R1 s1 rep1 => q1 σ H1 F1 _ R1 fun w H2 F2 z δ2 q2 R2 s2 rep2 => ?_
  obtain ⟨i, a, ds, k, j, d, rfl, rfl, e, hi, hj, q⟩ := q2
  cases rep2
  rw [e] at rep0
  obtain ⟨vs, rfl, h1, h2⟩ := fl_at R2 hi rep1
  refine ⟨a, vs, k, j, rfl, rfl, h1, by rw [h2.length]; exact hj, ?_⟩
  exact kk _ _ F2 _ q (fl_chg R2 hi (h2.set j (Dp.mono (s1.trans s2) rep0))) ((s0.trans s1).trans s2)
/-! targets -/
theorem d_gtup {K : PySem.W.Frag} {n : Nat} {t : TGs} {Qn : List Sl → Prop} (hK : K = g.K) (hx : r = .fz (.tup ds)) (hn : ds.length = n) (q : ∀ vs σ H F S, DpL g F vs ds → Rel c σ H F δ → (∀ σ' H' F' δ', Qn δ' → Rel c σ' H' F' δ' → Same F F' → S σ' H') → t vs σ H S) : DG c (gTup K n t) r δ Qn := fun σ H F v S R rep k => by
  subst hK; subst hx
  obtain ⟨a, vs, rfl, h1, h2⟩ := tup_ok R rep
  exact ⟨a, vs, rfl, h1, by rw [h2.length]; exact hn, q vs σ H F S h2 R k⟩
/-- many targets take many things -/
def DGs (c : Cn g) (t : TGs) (ds : List D) (δ : List Sl) (Qn : List Sl → Prop) : Prop := ∀ vs σ H F (S : L2.St → Hp → Prop), DpL g F vs ds → Rel c σ H F δ → (∀ σ' H' F' δ', Qn δ' → Rel c σ' H' F' δ' → Same F F' → S σ' H') → t vs σ H S
theorem d_gcons {t : TG} {u : TGs} {Qn : List Sl → Prop} (q : DG c t (.fz d) δ fun δ1 => DGs c u ds δ1 Qn) : DGs c (gCons t u) (d :: ds) δ Qn := fun vs σ H F S h R k => by
  cases h with
  | cons h1 h2 => exact ⟨_, _, rfl, q σ H F _ _ R h1 fun σ1 H1 F1 δ1 q1 R1 s1 => q1 _ σ1 H1 F1 S (h2.mono s1) R1 fun σ2 H2 F2 δ2 q2 R2 s2 => k σ2 H2 F2 δ2 q2 R2 (s1.trans s2)⟩
theorem d_gnil {Qn : List Sl → Prop} (q : Qn δ) : DGs c gNil [] δ Qn := fun vs σ H F S h R k => by
  cases h
  exact ⟨rfl, k σ H F δ q R (Same.refl F)⟩
theorem d_gnameF {Qn : List Sl → Prop} (q : Qn (δ.set i (.fz d))) : DG c (gName i) (.fz d) δ Qn := d_gname q
theorem d_gnameN {Qn : List Sl → Prop} (q : Qn (δ.set i (.fz o.data))) : DG c (gName i) (.nw o) δ Qn := d_gname q
theorem d_gtupF {K : PySem.W.Frag} {n : Nat} {t : TGs} {Qn : List Sl → Prop} (hK : K = g.K) (hn : ds.length = n) (q : DGs c t ds δ Qn) : DG c (gTup K n t) (.fz (.tup ds)) δ Qn := d_gtup hK rfl hn q
theorem d_gsub {to ti : TE} {ts : TSet} {Qn : List Sl → Prop} (q : DG c (gSub to ti ts) r δ Qn) : DG c (gSub to ti ts) r δ Qn := q
/-- a, b = e1, e2 -/
theorem Rel.setR (h : Rel c σ H F δ) (k : RRep c σ H F δ v r) (n : r.frz = .fz d) : ∃ F', Same F F' ∧ Rel c (σ.set i (some v)) H F' (δ.set i (.fz d)) := by
  obtain ⟨F2, s2, R2, rep2⟩ := frz_ok h k
  rw [n] at rep2
  exact ⟨F2, s2, R2.setFz rep2⟩
theorem d_par {tr : TA} (q : DA c tr δ fun rs δ1 => ∃ d e, rs = [.fz d, .fz e] ∧ P.nx ((δ1.set i (.fz d)).set j (.fz e))) : DS c (tPar i j tr) δ P := fun σ H F E R k =>
  q σ H F _ R fun vs H1 F1 rs δ1 ⟨d, e, er, q1⟩ R1 s1 rep => by
    subst er
    obtain ⟨v, w, rfl, h1, h2⟩ := two_rep rep
    exact ⟨v, w, rfl, k.nx _ H1 F1 _ q1 ((R1.setFz h1).setFz h2) s1⟩
theorem d_par3 {l : Nat} {tr : TA} (q : DA c tr δ fun rs δ1 => ∃ d e f, rs = [.fz d, .fz e, .fz f] ∧ P.nx (((δ1.set i (.fz d)).set j (.fz e)).set l (.fz f))) : DS c (tPar3 i j l tr) δ P := fun σ H F E R k =>
  q σ H F _ R fun vs H1 F1 rs δ1 ⟨d, e, f, er, q1⟩ R1 s1 rep => by
    subst er
    cases rep with
    | cons _ h0 t =>
      obtain ⟨v, w, rfl, h1, h2⟩ := two_rep t
      exact ⟨_, v, w, rfl, k.nx _ H1 F1 _ q1 (((R1.setFz h0).setFz h1).setFz h2) s1⟩
end
/-! ### loops -/
structure ItOk {g : Gb} (c : Cn g) (F1 : Hp) (J : It) (n : Nat) (it : Nat → D) (ok : List Sl → Prop) : Prop where
  go : ∀ i σ H F δ, i < n → Rel c σ H F δ → Same F1 F → ok δ → J.go i H
  yld : ∀ i σ H F δ x H', i < n → Rel c σ H F δ → Same F1 F → ok δ → J.yld i H x H' → ∃ F', Rel c σ H' F' δ ∧ Same F F' ∧ Same H H' ∧ (∀ a, H a ≠ none → Fx (F' a) (F a)) ∧ Dp g F' x (it i)
  stop : ∀ σ H F δ, Rel c σ H F δ → Same F1 F → ok δ → J.stop n H
def DI {g : Gb} (c : Cn g) (wi : TI) (δ : List Sl) (Q : Nat → (Nat → D) → (List Sl → Prop) → List Sl → Prop) : Prop :=
  ∀ σ H F (S : It → Hp → Prop), Rel c σ H F δ → (∀ J H' F' n it ok δ', Q n it ok δ' → Rel c σ H' F' δ' → Same F F' → ItOk c F' J n it ok → S J H') → wi σ H S
section
variable {g : Gb} {c : Cn g} {σ : L2.St} {H F F' H' : Hp} {δ : List Sl} {v : V} {r x y : R} {ds es : List D} {d e : D} {o o2 : OD} {i j : Nat} {Q : R → List Sl → Prop} {P : PD} {QI : Nat → (Nat → D) → (List Sl → Prop) → List Sl → Prop}
theorem getD_dp {vs : List V} {v : V} (h : DpL g F vs ds) (e : vs[i]? = some v) : Dp g F v (ds.getD i .non) := by
  obtain ⟨d, h1, h2⟩ := h.getv e
  rw [List.getD_eq_getElem?_getD, h1]
  exact h2
theorem itl_fz {a : Addr} {vs : List V} (hs : SqL g.K F a vs) (hd : DpL g F vs ds) : ItOk c F (Itl g.K a) ds.length (fun i => ds.getD i .non) (fun _ => True) where
  go := fun i σ H F2 δ hi R s _ => by
    have hi' : i < vs.length := by rw [hd.length]; exact hi
    exact ⟨vs, vs[i], (s.trans R.sub).seq hs, by rw [List.getElem?_eq_getElem hi']⟩
  yld := fun i σ H F2 δ x H' hi R s _ y => by
    obtain ⟨rfl, y⟩ := y
    exact ⟨F2, R, Same.refl F2, Same.refl _, fun _ _ => .inl rfl, (getD_dp hd (y vs ((s.trans R.sub).seq hs))).mono s⟩
  stop := fun σ H F2 δ R s _ => ⟨vs, (s.trans R.sub).seq hs, by rw [hd.length]; exact Nat.le_refl _⟩
theorem itt_fz {a : Addr} {vs : List V} (hs : SqT g.K F a vs) (hd : DpL g F vs ds) : ItOk c F (Itt g.K a) ds.length (fun i => ds.getD i .non) (fun _ => True) where
  go := fun i σ H F2 δ hi R s _ => by
    have hi' : i < vs.length := by rw [hd.length]; exact hi
    exact ⟨vs, vs[i], sqT_mono (s.trans R.sub) hs, by rw [List.getElem?_eq_getElem hi']⟩
  yld := fun i σ H F2 δ x H' hi R s _ y => by
    obtain ⟨rfl, y⟩ := y
    exact ⟨F2, R, Same.refl F2, Same.refl _, fun _ _ => .inl rfl, (getD_dp hd (y vs (sqT_mono (s.trans R.sub) hs))).mono s⟩
  stop := fun σ H F2 δ R s _ => ⟨vs, sqT_mono (s.trans R.sub) hs, by rw [hd.length]; exact Nat.le_refl _⟩
theorem itl_ow {a : Addr} {k : Nat} : ItOk c F (Itl g.K a) ds.length (fun i => ds.getD i .non) (fun δ => δ[k]? = some (.ow (.fl a ds))) where
  go := fun i σ H F2 δ hi R s h => by
    obtain ⟨v, h1, h2⟩ := R.ow k _ h
    cases h2 with
    | fl h3 h4 =>
      rename_i vs
      have hi' : i < vs.length := by rw [h4.length]; exact hi
      exact ⟨vs, vs[i], .inl (.inl h3), by rw [List.getElem?_eq_getElem hi']⟩
  yld := fun i σ H F2 δ x H' hi R s h y => by
    obtain ⟨rfl, y⟩ := y
    obtain ⟨v, h1, h2⟩ := R.ow k _ h
    cases h2 with
    | fl h3 h4 => exact ⟨F2, R, Same.refl F2, Same.refl _, fun _ _ => .inl rfl, getD_dp h4 (y _ (.inl (.inl h3)))⟩
  stop := fun σ H F2 δ R s h => by
    obtain ⟨v, h1, h2⟩ := R.ow k _ h
    cases h2 with
    | fl h3 h4 => exact ⟨_, .inl (.inl h3), by rw [h4.length]; exact Nat.le_refl _⟩
theorem itr_ok {lo : Int} {n : Nat} : ItOk c F (Itr lo n) n (fun i => .int (lo + i)) (fun _ => True) where
  go := fun i σ H F2 δ hi R s _ => hi
  yld := fun i σ H F2 δ x H' hi R s _ y => by
    obtain ⟨rfl, rfl⟩ := y
    exact ⟨F2, R, Same.refl F2, Same.refl _, fun _ _ => .inl rfl, .int _⟩
  stop := fun σ H F2 δ R s _ => Nat.le_refl n
theorem itc_ok {lo k : Int} {n : Nat} : ItOk c F (Itc lo k n) n (fun i => .int (lo + (i : Nat) * k)) (fun _ => True) where
  go := fun i σ H F2 δ hi R s _ => hi
  yld := fun i σ H F2 δ x H' hi R s _ y => by
    obtain ⟨rfl, rfl⟩ := y
    exact ⟨F2, R, Same.refl F2, Same.refl _, fun _ _ => .inl rfl, .int _⟩
  stop := fun σ H F2 δ R s _ => Nat.le_refl n
/-- frozen lists -/
def lsFr : R → Option (List D)
  | .fz (.lst l) => some l
  | .fz (.ro l) => some l
  | _ => none
theorem d_iL {K : PySem.W.Frag} {te : TE} (hK : K = g.K) (q : DE c te δ fun x δ1 => ∃ ds, lsFr x.frz = some ds ∧ QI ds.length (fun i => ds.getD i .non) (fun _ => True) δ1) : DI c (iList K te) δ QI := fun σ H F S R k => by
  subst hK
  refine de_frz (QV := fun x H1 => ∃ a, x = .ref a ∧ (∃ xs, SqL g.K H1 a xs) ∧ S (Itl g.K a) H1) q R fun v H1 F1 x δ1 ⟨ds, e, q1⟩ R1 s1 rep => ?_
  cases hx : x.frz with
  | fz d =>
    rw [hx] at e rep
    cases d <;> simp only [lsFr, reduceCtorEq, Option.some.injEq] at e
    · subst e
      cases rep with
      | lst h1 h2 => exact ⟨_, rfl, ⟨_, .inl (.inl (R1.sub _ _ h1))⟩, k _ H1 F1 _ _ _ δ1 q1 R1 s1 (itl_fz (.inl (.inl h1)) h2)⟩
    · subst e
      cases rep with
      | ro h1 h2 => exact ⟨_, rfl, ⟨_, R1.sub.seq h1⟩, k _ H1 F1 _ _ _ δ1 q1 R1 s1 (itl_fz h1 h2)⟩
  | bw i => rw [hx] at e; simp [lsFr] at e
  | nw o => rw [hx] at e; simp [lsFr] at e
  | rf o => rw [hx] at e; simp [lsFr] at e
theorem d_iLo {K : PySem.W.Frag} {te : TE} (hK : K = g.K) (q : DE c te δ fun x δ1 => ∃ k a ds, x = .bw k ∧ δ1[k]? = some (.ow (.fl a ds)) ∧ QI ds.length (fun i => ds.getD i .non) (fun δ => δ[k]? = some (.ow (.fl a ds))) δ1) : DI c (iList K te) δ QI := fun σ H F S R k => by
  subst hK
  refine q σ H F _ R fun v H1 F1 x δ1 ⟨j, a, ds, e, hj, q1⟩ R1 s1 rep => ?_
  subst e
  obtain ⟨vs, rfl, h1, h2⟩ := fl_at R1 hj rep
  exact ⟨a, rfl, ⟨vs, .inl (.inl h1)⟩, k _ H1 F1 _ _ _ δ1 q1 R1 s1 itl_ow⟩
theorem d_iT {K : PySem.W.Frag} {te : TE} (hK : K = g.K) (q : DE c te δ fun x δ1 => ∃ ds, x = .fz (.tup ds) ∧ QI ds.length (fun i => ds.getD i .non) (fun _ => True) δ1) : DI c (iTup K te) δ QI := fun σ H F S R k => by
  subst hK
  refine q σ H F _ R fun v H1 F1 x δ1 ⟨ds, e, q1⟩ R1 s1 rep => ?_
  subst e
  cases rep with
  | tup h1 h2 => exact ⟨_, rfl, ⟨_, sqT_mono R1.sub (.inl (.inl h1))⟩, k _ H1 F1 _ _ _ δ1 q1 R1 s1 (itt_fz (.inl (.inl h1)) h2)⟩
theorem d_iR1 {ta : TA} (q : DA c ta δ fun rs δ1 => ∃ n : Int, rs = [.fz (.int n)] ∧ -(2 ^ 62) ≤ n ∧ n < 2 ^ 62 ∧ QI n.toNat (fun i => .int (0 + (i : Nat))) (fun _ => True) δ1) : DI c (iRng1 ta) δ QI := fun σ H F S R k =>
  q σ H F _ R fun vs H1 F1 rs δ1 ⟨n, e, h1, h2, q1⟩ R1 s1 rep => by
    subst e
    obtain ⟨v, rfl, hv⟩ := one_rep rep
    cases hv
    exact ⟨n, rfl, h1, h2, k _ H1 F1 _ _ _ δ1 q1 R1 s1 itr_ok⟩
theorem d_iR2 {ta : TA} (q : DA c ta δ fun rs δ1 => ∃ lo hi : Int, rs = [.fz (.int lo), .fz (.int hi)] ∧ (-(2 ^ 62) ≤ lo ∧ lo < 2 ^ 62 ∧ -(2 ^ 62) ≤ hi ∧ hi < 2 ^ 62) ∧ QI (hi - lo).toNat (fun i => .int (lo + (i : Nat))) (fun _ => True) δ1) : DI c (iRng2 ta) δ QI := fun σ H F S R k =>
  q σ H F _ R fun vs H1 F1 rs δ1 ⟨lo, hi, e, h1, q1⟩ R1 s1 rep => by
    subst e
    obtain ⟨v, w, rfl, hv, hw⟩ := two_rep rep
    cases hv; cases hw
    exact ⟨lo, hi, rfl, h1, k _ H1 F1 _ _ _ δ1 q1 R1 s1 itr_ok⟩
theorem d_for {wi : TI} {tg : TG} {tb : TS} (q : DI c wi δ fun n it ok δ1 => ∃ Iv : Nat → List Sl → Prop, Iv 0 δ1 ∧ (∀ i δ, Iv i δ → ok δ) ∧ (∀ i δ, i < n → Iv i δ → DG c tg (.fz (it i)) δ fun δ2 => DS c tb δ2 { nx := Iv (i + 1), ct := Iv (i + 1), bk := P.nx, rt := P.rt }) ∧ ∀ δ, Iv n δ → P.nx δ) :
    DS c (tFor wi tg tb) δ P := fun σ H F E R k =>
  q σ H F _ R fun J H1 F1 n it ok δ1 ⟨Iv, h0, hok, hs, hd⟩ R1 s1 I => by
    refine ⟨fun i m s h => ∃ F2 δ2, m = n - i ∧ i ≤ n ∧ Rel c s h F2 δ2 ∧ Same F1 F2 ∧ Iv i δ2, ⟨n, F1, δ1, by omega, Nat.zero_le _, R1, Same.refl F1, h0⟩, ?_⟩
    rintro i m s h ⟨F2, δ2, rfl, hi, R2, s2, inv⟩
    by_cases hlt : i < n
    · refine .inr ⟨I.go i s h F2 δ2 hlt R2 s2 (hok i δ2 inv), fun s' h' => ∃ F3 δ3, Rel c s' h' F3 δ3 ∧ Same F1 F3 ∧ Iv (i + 1) δ3, ?_, ?_⟩
      · rintro s' h' ⟨F3, δ3, R3, s3, inv3⟩
        exact ⟨n - (i + 1), by omega, F3, δ3, rfl, hlt, R3, s3, inv3⟩
      · intro x h' y
        obtain ⟨F3, R3, s3, _, _, hx⟩ := I.yld i s h F2 δ2 x h' hlt R2 s2 (hok i δ2 inv) y
        refine hs i δ2 hlt inv s h' F3 x _ R3 hx fun s4 h4 F4 δ4 q4 R4 s4' => ?_
        have S4 := (s2.trans s3).trans s4'
        exact q4 s4 h4 F4 _ R4 ⟨fun σ' H' F' δ' q R s => ⟨F', δ', R, S4.trans s, q⟩, fun σ' v H' F' r δ' q R s rep => k.rt σ' v H' F' r δ' q R ((s1.trans S4).trans s) rep, fun σ' H' F' δ' q R s => k.nx σ' H' F' δ' q R ((s1.trans S4).trans s), fun σ' H' F' δ' q R s => ⟨F', δ', R, S4.trans s, q⟩⟩
    · have e : i = n := by omega
      subst e
      exact .inl ⟨I.stop s h F2 δ2 R2 s2 (hok i δ2 inv), k.nx s h F2 δ2 (hd δ2 inv) R2 (s1.trans s2)⟩
theorem d_while {tt : TT} {tb : TS} (Iv : Nat → List Sl → Prop) (m₀ : Nat) (h0 : Iv m₀ δ) (turn : ∀ m δ, Iv m δ → DT c tt δ fun b δ1 => if b = true then DS c tb δ1 { nx := fun δ2 => ∃ m', m' < m ∧ Iv m' δ2, ct := fun δ2 => ∃ m', m' < m ∧ Iv m' δ2, bk := P.nx, rt := P.rt } else P.nx δ1) :
    DS c (tWhile tt tb) δ P := fun σ H F E R k => by
  refine ⟨fun m s h => ∃ F2 δ2, Rel c s h F2 δ2 ∧ Same F F2 ∧ Iv m δ2, ⟨m₀, F, δ, R, Same.refl F, h0⟩, ?_⟩
  rintro m s h ⟨F2, δ2, R2, s2, inv⟩
  refine turn m δ2 inv s h F2 _ R2 fun b H3 F3 δ3 q3 R3 s3 => ?_
  cases b with
  | true =>
    refine ⟨fun s' h' => ∃ m' F4 δ4, m' < m ∧ Rel c s' h' F4 δ4 ∧ Same F F4 ∧ Iv m' δ4, ?_, ?_⟩
    · rintro s' h' ⟨m', F4, δ4, hm, R4, s4, inv4⟩
      exact ⟨m', hm, F4, δ4, R4, s4, inv4⟩
    · have S3 := s2.trans s3
      exact q3 s H3 F3 _ R3 ⟨fun σ' H' F' δ' ⟨m', hm, q⟩ R s => ⟨m', F', δ', hm, R, S3.trans s, q⟩, fun σ' v H' F' r δ' q R s rep => k.rt σ' v H' F' r δ' q R (S3.trans s) rep, fun σ' H' F' δ' q R s => k.nx σ' H' F' δ' q R (S3.trans s), fun σ' H' F' δ' ⟨m', hm, q⟩ R s => ⟨m', F', δ', hm, R, S3.trans s, q⟩⟩
  | false => exact k.nx s H3 F3 δ3 q3 R3 (s2.trans s3)
end
end KD

set_option maxHeartbeats 4000000
namespace KD
open PySem PySem.Spec PyProof.Rows L2 KB
/-! ### defs: what they promise by data -/
inductive Ar where
  | fz (d : D)
  | mu (o : OD)
def Ar.sl : Ar → Sl
  | .fz d => .fz d
  | .mu o => .ow o
def muO : List Ar → List OD
  | [] => []
  | .fz _ :: r => muO r
  | .mu o :: r => o :: muO r
def muA (as : List Ar) : List Addr := adrsL (muO as)
structure DPst where
  rt : R → List OD → Prop
  ex : Addr → List OD → Prop
abbrev DSp := List Ar → DPst → Prop
inductive ArgR (g : Gb) (H F : Hp) : List V → List Ar → Prop where
  | nil : ArgR g H F [] []
  | fz {v : V} {d : D} {vs : List V} {as : List Ar} : Dp g F v d → ArgR g H F vs as → ArgR g H F (v :: vs) (.fz d :: as)
  | mu {v : V} {o : OD} {vs : List V} {as : List Ar} : Ow g H F v o → ArgR g H F vs as → ArgR g H F (v :: vs) (.mu o :: as)
structure Ent (g : Gb) (H F : Hp) (vs : List V) (as : List Ar) : Prop where
  sub : Same F H
  args : ArgR g H F vs as
  nd : (muA as).Nodup
  fa : ∀ a ∈ muA as, F a = none
/-- what the changed arguments hold behind the call -/
inductive MuR (g : Gb) (H F : Hp) : List V → List Ar → List OD → Prop where
  | nil : MuR g H F [] [] []
  | fz {v : V} {d : D} {vs : List V} {as : List Ar} {os : List OD} : MuR g H F vs as os → MuR g H F (v :: vs) (.fz d :: as) os
  | mu {v : V} {o o' : OD} {vs : List V} {as : List Ar} {os : List OD} : Ow g H F v o' → MuR g H F vs as os → MuR g H F (v :: vs) (.mu o :: as) (o' :: os)
structure Aft (g : Gb) (H F : Hp) (vs : List V) (as : List Ar) (os : List OD) (H' F' : Hp) : Prop where
  sub : Same F' H'
  fr : ∀ a o, H a = some o → a ∉ muA as → H' a = some o
  fr2 : ∀ a, H a ≠ none → H' a ≠ none
  ff : ∀ a, H a ≠ none → Fx (F' a) (F a)
  mu : MuR g H' F' vs as os
  nd : (adrsL os).Nodup
  fa : ∀ a ∈ adrsL os, F' a = none ∧ (H a = none ∨ a ∈ muA as)
def RepN (g : Gb) (H : Hp) (os : List OD) (v : V) (H' F' : Hp) : R → Prop
  | .fz d => Dp g F' v d
  | .nw o => Ow g H' F' v o ∧ (o.adrs ++ adrsL os).Nodup ∧ ∀ a ∈ o.adrs, F' a = none ∧ H a = none
  | _ => False
/-- sp as P: called with as, all that may come is told by P -/
def toSp (g : Gb) (sp : DSp) : Sp := fun vs H Q E => ∃ F as P, Ent g H F vs as ∧ sp as P ∧ (∀ r os v H' F', P.rt r os → Aft g H F vs as os H' F' → RepN g H os v H' F' r → Q v H') ∧ ∀ C os H' F', P.ex C os → Aft g H F vs as os H' F' → E (.ref C) none H'
/-- what is raised is looked for -/
def XOk {g : Gb} (c : Cn g) (W : WX) (Ex : Addr → List Sl → Prop) : Prop := ∀ C σ H F δ, Rel c σ H F δ → Ex C δ → W (.ref C) none σ H
/-- the wish of a def's own body -/
def WF (E : XK) : WX := fun cls d _ H => E cls d H
def MuAt : List Ar → List Sl → List OD → Prop
  | [], _, os => os = []
  | .fz _ :: as, δ, os => MuAt as δ.tail os
  | .mu o :: as, δ, os => ∃ o' a r, δ.head? = some (.ow o') ∧ o.root = some a ∧ o'.root = some a ∧ os = o' :: r ∧ MuAt as δ.tail r
section
variable {g : Gb} {c : Cn g} {σ : L2.St} {H F F' H' : Hp} {δ : List Sl} {v : V} {r x y : R} {ds es : List D} {d e : D} {o o2 : OD} {i j : Nat} {Q : R → List Sl → Prop} {P : PD} {vs : List V} {as : List Ar} {os : List OD}
theorem ArgR.length : ∀ {vs : List V} {as : List Ar}, ArgR g H F vs as → vs.length = as.length
  | _, _, .nil => rfl
  | _, _, .fz _ t => by simp only [List.length_cons, ArgR.length t]
  | _, _, .mu _ t => by simp only [List.length_cons, ArgR.length t]
theorem len_toSp {sp : DSp} {n : Nat} (h : ∀ as P, sp as P → as.length = n) : ∀ vs H Q E, toSp g sp vs H Q E → vs.length = n := fun vs H Q E ⟨F, as, P, ent, s, _⟩ => by rw [ent.args.length]; exact h _ _ s
theorem adS_app (a b : List Sl) : adS (a ++ b) = adS a ++ adS b := by
  induction a with
  | nil => rfl
  | cons s r ih => simp only [List.cons_append, adS, ih, List.append_assoc]
theorem adS_no (n : Nat) : adS (List.replicate n .no) = [] := by
  induction n with
  | zero => rfl
  | succ n ih => simp only [List.replicate_succ, adS, Sl.adrs, ih, List.append_nil]
theorem adS_as : ∀ as : List Ar, adS (as.map Ar.sl) = muA as
  | [] => rfl
  | .fz d :: r => by simp only [List.map_cons, adS, Ar.sl, Sl.adrs, List.nil_append, adS_as r]; rfl
  | .mu o :: r => by simp only [List.map_cons, adS, Ar.sl, Sl.adrs, adS_as r]; rfl
theorem argR_fz : ∀ {vs : List V} {as : List Ar} {i : Nat} {d : D}, ArgR g H F vs as → (as.map Ar.sl)[i]? = some (Sl.fz d) → ∃ v, vs[i]? = some v ∧ Dp g F v d
  | _, _, _, _, .nil, e => by simp at e
  | _, _, 0, d, .fz h t, e => by simp [Ar.sl] at e; subst e; exact ⟨_, rfl, h⟩
  | _, _, 0, d, .mu h t, e => by simp [Ar.sl] at e
  | _, _, i + 1, d, .fz h t, e => by
    obtain ⟨v, h1, h2⟩ := argR_fz (i := i) (d := d) t (by simpa using e)
    exact ⟨v, by simpa using h1, h2⟩
  | _, _, i + 1, d, .mu h t, e => by
    obtain ⟨v, h1, h2⟩ := argR_fz (i := i) (d := d) t (by simpa using e)
    exact ⟨v, by simpa using h1, h2⟩
theorem argR_ow : ∀ {vs : List V} {as : List Ar} {i : Nat} {o : OD}, ArgR g H F vs as → (as.map Ar.sl)[i]? = some (Sl.ow o) → ∃ v, vs[i]? = some v ∧ Ow g H F v o
  | _, _, _, _, .nil, e => by simp at e
  | _, _, 0, d, .fz h t, e => by simp [Ar.sl] at e
  | _, _, 0, d, .mu h t, e => by simp [Ar.sl] at e; subst e; exact ⟨_, rfl, h⟩
  | _, _, i + 1, d, .fz h t, e => by
    obtain ⟨v, h1, h2⟩ := argR_ow (i := i) (o := d) t (by simpa using e)
    exact ⟨v, by simpa using h1, h2⟩
  | _, _, i + 1, d, .mu h t, e => by
    obtain ⟨v, h1, h2⟩ := argR_ow (i := i) (o := d) t (by simpa using e)
    exact ⟨v, by simpa using h1, h2⟩
theorem app_get {α : Type} {a : List α} {n : Nat} {b s : α} {i : Nat} (h : (a ++ List.replicate n b)[i]? = some s) : a[i]? = some s ∨ s = b := by
  rcases Nat.lt_or_ge i a.length with z | z
  · rw [List.getElem?_append_left z] at h; exact .inl h
  · rw [List.getElem?_append_right z, List.getElem?_replicate] at h
    split at h
    · exact .inr (Option.some.inj h).symm
    · cases h
theorem at_lt' {α : Type} {l : List α} {i : Nat} {s : α} (h : l[i]? = some s) : i < l.length := by
  rcases Nat.lt_or_ge i l.length with z | z
  · exact z
  · rw [List.getElem?_eq_none_iff.mpr z] at h; cases h
theorem ent_rel (h : Ent g H F vs as) (n : Nat) : Rel (⟨H, F, F, muA as⟩ : Cn g) (vs.map some ++ List.replicate n none) H F (as.map Ar.sl ++ List.replicate n .no) := by
  have ea : adS (as.map Ar.sl ++ List.replicate n .no) = muA as := by rw [adS_app, adS_no, List.append_nil, adS_as]
  refine ⟨h.sub, fun a o e _ => e, fun a z => z, fun a _ => .inl rfl, ?_, fun i d e => ?_, fun i o e => ?_, by rw [ea]; exact h.nd, fun a m => ?_, Same.refl F, fun i a e => ?_⟩
  · rw [List.length_append, List.length_append, List.length_map, List.length_map, List.length_replicate, List.length_replicate, h.args.length]
  · rcases app_get e with z | z
    · obtain ⟨v, h1, h2⟩ := argR_fz h.args z
      have hl := at_lt' h1
      exact ⟨v, by rw [List.getElem?_append_left (by rw [List.length_map]; exact hl), List.getElem?_map, h1]; rfl, h2⟩
    · cases z
  · rcases app_get e with z | z
    · obtain ⟨v, h1, h2⟩ := argR_ow h.args z
      have hl := at_lt' h1
      exact ⟨v, by rw [List.getElem?_append_left (by rw [List.length_map]; exact hl), List.getElem?_map, h1]; rfl, h2⟩
    · cases z
  · rw [ea] at m
    exact ⟨h.fa a m, .inr m⟩
  · rcases app_get e with z | z
    · exact absurd z (by
        rw [List.getElem?_map]
        cases as[i]? with
        | none => exact fun z => nomatch z
        | some x => cases x <;> exact fun z => nomatch z)
    · cases z
/-- the changed arguments, from where the body stands -/
theorem adS_tail : ∀ δ : List Sl, (adS δ.tail).Sublist (adS δ)
  | [] => .slnil
  | s :: δ => List.sublist_append_right _ _
theorem muAt_ok : ∀ {vs : List V} {as : List Ar} {δ : List Sl} {os : List OD} {H0 F0 : Hp} (σ : L2.St), ArgR g H0 F0 vs as → MuAt as δ os → (∀ (i : Nat) (o : OD), δ[i]? = some (Sl.ow o) → ∃ v, σ[i]? = some (some v) ∧ Ow g H F v o) → MuR g H F vs as os ∧ (adrsL os).Sublist (adS δ)
  | _, _, δ, os, _, _, σ, .nil, m, _ => by
    simp only [MuAt] at m; subst m
    exact ⟨.nil, by simp only [adrsL]; exact List.nil_sublist _⟩
  | _, _, δ, os, _, _, σ, .fz h t, m, k => by
    simp only [MuAt] at m
    obtain ⟨a, b⟩ := muAt_ok σ.tail t m fun i o e => by
      obtain ⟨v, h1, h2⟩ := k (i + 1) o (by rw [List.getElem?_tail] at e; exact e)
      exact ⟨v, by rw [List.getElem?_tail]; exact h1, h2⟩
    exact ⟨.fz a, b.trans (adS_tail δ)⟩
  | v :: _, _, δ, os, _, _, σ, .mu h t, m, k => by
    simp only [MuAt] at m
    obtain ⟨o', a, r, e0, e1, e2, e3, m⟩ := m
    subst e3
    obtain ⟨A, B⟩ := muAt_ok σ.tail t m fun i o e => by
      obtain ⟨v, h1, h2⟩ := k (i + 1) o (by rw [List.getElem?_tail] at e; exact e)
      exact ⟨v, by rw [List.getElem?_tail]; exact h1, h2⟩
    cases δ with
    | nil => cases e0
    | cons s δ =>
      simp only [List.head?_cons, Option.some.injEq] at e0
      subst e0
      obtain ⟨w, h1, h2⟩ := k 0 o' rfl
      have ew : w = v := by rw [h2.root e2, h.root e1]
      subst ew
      exact ⟨.mu h2 A, (List.Sublist.refl _).append B⟩
theorem muA_fz : ∀ ds : List D, muA (ds.map Ar.fz) = []
  | [] => rfl
  | _ :: r => muA_fz r
theorem aft_of (h : Ent g H F vs as) (R : Rel (⟨H, F, F, muA as⟩ : Cn g) σ H' F' δ) (m : MuAt as δ os) : Aft g H F vs as os H' F' ∧ (adrsL os).Sublist (adS δ) := by
  obtain ⟨A, B⟩ := muAt_ok σ h.args m R.ow
  exact ⟨⟨R.sub, R.fr, R.fr2, R.ff, A, R.nd.sublist B, fun a m => R.fa a (B.subset m)⟩, B⟩
theorem repN_of (R : Rel (⟨H, F, F, muA as⟩ : Cn g) σ H' F' δ) (B : (adrsL os).Sublist (adS δ)) (k : RRep (⟨H, F, F, muA as⟩ : Cn g) σ H' F' δ v r) (n : r.out = true) : RepN g H os v H' F' r := by
  cases r with
  | fz d => exact k
  | bw i => cases n
  | rf i => cases n
  | nw o => exact ⟨k.1, k.2.1.sublist ((List.Sublist.refl _).append B), k.2.2⟩
/-- a body from its start -/
theorem d_start {t : TS} {N : List Str} {Q : VK} {E : XK} {sp : DSp} (h : toSp g sp vs H Q E)
    (q : ∀ as (P : DPst), sp as P → ∀ (c : Cn g), XOk c (WF E) (fun C δ => ∃ os, MuAt as δ os ∧ P.ex C os) → c.M = muA as →
      DS c t (as.map Ar.sl ++ List.replicate (N.length - as.length) .no) { nx := fun δ => ∃ os, MuAt as δ os ∧ P.rt (.fz .non) os, rt := fun r δ => r.out = true ∧ ∃ os, MuAt as δ os ∧ P.rt r os }) :
    t { nx := fun _ H' => Q .non H', rt := Q } (L2.start N vs) H := by
  obtain ⟨F, as, P, ent, s, kr, ke⟩ := h
  have R := ent_rel ent (N.length - vs.length)
  refine q as P s ⟨H, F, F, muA as⟩ (fun C σ H' F' δ R' ⟨os, m, ex⟩ => ?_) rfl (L2.start N vs) H F _ ?_ ⟨fun σ' H' F' δ' ⟨os, m, rt⟩ R' _ => ?_, fun σ' v H' F' r δ' ⟨n, os, m, rt⟩ R' _ rep => ?_, fun _ _ _ _ z => z.elim, fun _ _ _ _ z => z.elim⟩
  · exact ke C os H' F' ex (aft_of ent R' m).1
  · rw [← ent.args.length]
    exact R
  · exact kr _ os .non H' F' rt (aft_of ent R' m).1 Dp.non
  · obtain ⟨A, B⟩ := aft_of ent R' m
    exact kr r os v H' F' rt A (repN_of R' B rep n)
end
/-! ### calls -/
section
variable {g : Gb} {c : Cn g} {σ : L2.St} {H F F' H' : Hp} {δ : List Sl} {v : V} {r x y : R} {ds es : List D} {d e : D} {o o2 : OD} {i j : Nat} {Q : R → List Sl → Prop} {P : PD} {vs : List V} {as : List Ar} {os : List OD} {rs : List R}
def argsOf (δ : List Sl) : List R → Option (List Ar)
  | [] => some []
  | .fz d :: rs => (argsOf δ rs).map (.fz d :: ·)
  | .bw i :: rs => match δ[i]? with
    | some (.ow o) => (argsOf δ rs).map (.mu o :: ·)
    | _ => none
  | .nw _ :: _ => none
  | .rf _ :: _ => none
def muI : List R → List Nat
  | [] => []
  | .bw i :: rs => i :: muI rs
  | _ :: rs => muI rs
theorem args_ok (R0 : Rel c σ H F δ) : ∀ {vs : List V} {rs : List R} {as : List Ar}, RepL c σ H F δ vs rs → argsOf δ rs = some as → ArgR g H F vs as
  | _, _, _, .nil, e => by simp only [argsOf, Option.some.injEq] at e; subst e; exact .nil
  | _, .fz d :: rs, as, .cons _ h t, e => by
    simp only [argsOf, Option.map_eq_some_iff] at e
    obtain ⟨q, e1, e2⟩ := e
    subst e2
    exact .fz h (args_ok R0 t e1)
  | v :: _, .bw i :: rs, as, .cons _ h t, e => by
    have h : σ[i]? = some (some v) := h
    simp only [argsOf] at e
    split at e
    · rename_i o ho
      simp only [Option.map_eq_some_iff] at e
      obtain ⟨q, e1, e2⟩ := e
      subst e2
      obtain ⟨w, h1, h2⟩ := R0.ow i o ho
      rw [h] at h1
      cases h1
      exact .mu h2 (args_ok R0 t e1)
    · cases e
  | _, .nw i :: rs, as, .cons _ h t, e => by simp [argsOf] at e
  | _, .rf i :: rs, as, .cons _ h t, e => by simp [argsOf] at e
theorem mu0 : ∀ {rs : List R} {as : List Ar}, argsOf δ rs = some as → muI rs = [] → muO as = []
  | [], as, e, _ => by simp only [argsOf, Option.some.injEq] at e; subst e; rfl
  | .fz d :: rs, as, e, m => by
    simp only [argsOf, Option.map_eq_some_iff] at e
    obtain ⟨q, e1, e2⟩ := e
    subst e2
    exact mu0 (rs := rs) (as := q) e1 m
  | .bw i :: rs, as, e, m => by simp [muI] at m
  | .nw i :: rs, as, e, m => by simp [argsOf] at e
  | .rf i :: rs, as, e, m => by simp [argsOf] at e
theorem mu1 : ∀ {rs : List R} {as : List Ar}, argsOf δ rs = some as → muI rs = [i] → ∃ o, muO as = [o] ∧ δ[i]? = some (.ow o)
  | [], as, e, m => by simp [muI] at m
  | .fz d :: rs, as, e, m => by
    simp only [argsOf, Option.map_eq_some_iff] at e
    obtain ⟨q, e1, e2⟩ := e
    subst e2
    exact mu1 (rs := rs) (as := q) e1 m
  | .bw k :: rs, as, e, m => by
    simp only [muI, List.cons.injEq] at m
    obtain ⟨rfl, m⟩ := m
    simp only [argsOf] at e
    split at e
    · rename_i o ho
      simp only [Option.map_eq_some_iff] at e
      obtain ⟨q, e1, e2⟩ := e
      subst e2
      exact ⟨o, by simp only [muO, mu0 e1 m], ho⟩
    · cases e
  | .nw i :: rs, as, e, m => by simp [argsOf] at e
  | .rf i :: rs, as, e, m => by simp [argsOf] at e
theorem muR0 : ∀ {vs : List V} {as : List Ar} {os : List OD}, MuR g H F vs as os → muO as = [] → os = []
  | _, _, _, .nil, _ => rfl
  | _, _, _, .fz h, e => muR0 h e
  | _, _, _, .mu _ h, e => by simp [muO] at e
theorem muR1 (R0 : Rel c σ H F δ) : ∀ {vs : List V} {rs : List R} {as : List Ar} {os : List OD}, RepL c σ H F δ vs rs → argsOf δ rs = some as → muI rs = [i] → MuR g H' F' vs as os → ∃ o', os = [o'] ∧ ∀ v, σ[i]? = some (some v) → Ow g H' F' v o'
  | _, _, _, _, .nil, e, m, _ => by simp [muI] at m
  | _, .fz d :: rs, as, os, .cons _ h t, e, m, w => by
    simp only [argsOf, Option.map_eq_some_iff] at e
    obtain ⟨q, e1, e2⟩ := e
    subst e2
    cases w with
    | fz w => exact muR1 R0 (rs := rs) t e1 m w
  | v :: _, .bw k :: rs, as, os, .cons _ h t, e, m, w => by
    have h : σ[k]? = some (some v) := h
    simp only [muI, List.cons.injEq] at m
    obtain ⟨rfl, m⟩ := m
    simp only [argsOf] at e
    split at e
    · rename_i o ho
      simp only [Option.map_eq_some_iff] at e
      obtain ⟨q, e1, e2⟩ := e
      subst e2
      cases w with
      | mu w1 w2 =>
        rw [muR0 w2 (mu0 e1 m)]
        refine ⟨_, rfl, fun v' hv => ?_⟩
        rw [h] at hv
        cases hv
        exact w1
    · cases e
  | _, .nw i :: rs, as, os, .cons _ h t, e, m, w => by simp [argsOf] at e
  | _, .rf i :: rs, as, os, .cons _ h t, e, m, w => by simp [argsOf] at e
theorem same_aft (R : Rel c σ H F δ) (A : Aft g H F vs as os H' F') : Same F F' := fun a u e => by
  have : H a ≠ none := by rw [R.sub a u e]; exact fun z => nomatch z
  exact (A.ff a this).keep e
/-- behind a call that changes nothing that was there -/
theorem rel_aft0 (R : Rel c σ H F δ) (m : muO as = []) (A : Aft g H F vs as os H' F') : Rel c σ H' F' δ := by
  have sF := same_aft R A
  have em : ∀ a, a ∉ muA as := fun a z => by unfold muA at z; rw [m] at z; cases z
  refine ⟨A.sub, fun a u e1 e2 => A.fr a u (R.fr a u e1 e2) (em a), fun a z => A.fr2 a (R.fr2 a z), fun a z => (A.ff a (R.fr2 a z)).trans (R.ff a z), R.len, fun i d e => ?_, fun i o e => ?_, R.nd, fun a m => ?_, R.lb.trans sF, R.rf⟩
  · obtain ⟨v, h1, h2⟩ := R.fz i d e
    exact ⟨v, h1, h2.mono sF⟩
  · obtain ⟨v, h1, h2⟩ := R.ow i o e
    refine ⟨v, h1, h2.move sF fun b m => ?_⟩
    cases q : H b with
    | none => exact absurd q (h2.has b m)
    | some u => exact A.fr b u q (em b)
  · refine ⟨fx_none (A.ff a (R.has a m)) (R.fa a m).1 A.sub fun t z => ?_, (R.fa a m).2⟩
    cases q : H a with
    | none => exact R.has a m q
    | some u =>
      rw [A.fr a u q (em a)] at z
      exact R.nt a m t (q.trans z)
theorem rel_aft1 (R : Rel c σ H F δ) (hi : δ[i]? = some (.ow o)) (m : muO as = [o]) (A : Aft g H F vs as [o2] H' F') (w : ∀ v, σ[i]? = some (some v) → Ow g H' F' v o2) : Rel c σ H' F' (δ.set i (.ow o2)) := by
  have em : muA as = o.adrs := by unfold muA; rw [m]; simp only [adrsL, List.append_nil]
  have e2 : adrsL [o2] = o2.adrs := by simp only [adrsL, List.append_nil]
  refine R.chg hi (same_aft R A) A.sub (fun b u e1 e2 => A.fr b u e1 (by rw [em]; exact e2)) A.fr2 A.ff (fun v h _ => w v h) (by rw [← e2]; exact A.nd) fun b m => ?_
  have := A.fa b (by rw [e2]; exact m)
  rw [em] at this
  exact this
theorem rep_aft0 (R : Rel c σ H F δ) (R' : Rel c σ H' F' δ) (k : RepN g H os v H' F' r) : RRep c σ H' F' δ v r := by
  cases r with
  | fz d => exact k
  | bw i => exact k.elim
  | rf i => exact k.elim
  | nw o =>
    refine ⟨k.1, List.nodup_append.mpr ⟨(List.nodup_append.mp k.2.1).1, R'.nd, fun a m1 b m2 z => ?_⟩, fun a m => ⟨(k.2.2 a m).1, ?_⟩⟩
    · subst z
      exact R.has a m2 (k.2.2 a m1).2
    · cases q : c.H0 a with
      | none => rfl
      | some u => exact absurd (k.2.2 a m).2 (R.fr2 a (by rw [q]; exact fun z => nomatch z))
theorem rep_aft1 (R : Rel c σ H F δ) (hi : δ[i]? = some (.ow o)) (R' : Rel c σ H' F' (δ.set i (.ow o2))) (k : RepN g H [o2] v H' F' r) : RRep c σ H' F' (δ.set i (.ow o2)) v r := by
  cases r with
  | fz d => exact k
  | bw i => exact k.elim
  | rf i => exact k.elim
  | nw o3 =>
    have e2 : adrsL [o2] = o2.adrs := by simp only [adrsL, List.append_nil]
    have k2 := k.2.1
    rw [e2] at k2
    refine ⟨k.1, List.nodup_append.mpr ⟨(List.nodup_append.mp k2).1, R'.nd, fun a m1 b m2 z => ?_⟩, fun a m => ⟨(k.2.2 a m).1, ?_⟩⟩
    · subst z
      have pm := (perm_adS (s := .ow o2) (at_lt hi)).subset m2
      rcases List.mem_append.mp pm with q | q
      · exact (List.nodup_append.mp k2).2.2 a m1 a q rfl
      · exact R.has a ((sub_no δ i).subset q) (k.2.2 a m1).2
    · cases q : c.H0 a with
      | none => rfl
      | some u => exact absurd (k.2.2 a m).2 (R.fr2 a (by rw [q]; exact fun z => nomatch z))
theorem ent_of (R : Rel c σ H F δ) (rep : RepL c σ H F δ vs rs) (e : argsOf δ rs = some as) (m : muO as = [] ∨ ∃ (i : Nat) (o : OD), muO as = [o] ∧ δ[i]? = some (Sl.ow o)) : Ent g H F vs as := by
  refine ⟨R.sub, args_ok R rep e, ?_, fun a z => ?_⟩
  · rcases m with m | ⟨i, o, m, hi⟩
    · unfold muA; rw [m]; exact List.nodup_nil
    · unfold muA; rw [m]; simp only [adrsL, List.append_nil]
      exact (List.nodup_append.mp (nd_at R hi)).1
  · rcases m with m | ⟨i, o, m, hi⟩
    · unfold muA at z; rw [m] at z; cases z
    · unfold muA at z; rw [m] at z; simp only [adrsL, List.append_nil] at z
      exact (R.fa a (mem_adS hi z)).1
/-- a call that changes none of its arguments -/
theorem d_call {sp : DSp} {W : WX} {Ex : Addr → List Sl → Prop} {tr : TA} (hx : XOk c W Ex) (q : DA c tr δ fun rs δ1 => ∃ as P', argsOf δ1 rs = some as ∧ muI rs = [] ∧ sp as P' ∧ (∀ r, P'.rt r [] → Q r δ1) ∧ ∀ C, P'.ex C [] → Ex C δ1) : DE c (tCallS (toSp g sp) (WE W) tr) δ Q := fun σ H F QV R k =>
  q σ H F _ R fun vs H1 F1 rs δ1 ⟨as, P', e, m, s, kr, ke⟩ R1 s1 rep => by
    have m0 := mu0 e m
    refine ⟨F1, as, P', ent_of R1 rep e (.inl m0), s, fun r os v H' F' h A rn => ?_, fun C os H' F' h A => ?_⟩
    · have eo := muR0 A.mu m0
      subst eo
      have R' := rel_aft0 R1 m0 A
      exact k v H' F' r δ1 (kr r h) R' (s1.trans (same_aft R1 A)) (rep_aft0 R1 R' rn)
    · have eo := muR0 A.mu m0
      subst eo
      exact hx C σ H' F' δ1 (rel_aft0 R1 m0 A) (ke C h)
/-- a call that changes one of them -/
theorem d_call1 {sp : DSp} {W : WX} {Ex : Addr → List Sl → Prop} {tr : TA} (hx : XOk c W Ex) (q : DA c tr δ fun rs δ1 => ∃ as P' i, argsOf δ1 rs = some as ∧ muI rs = [i] ∧ sp as P' ∧ (∀ r o, P'.rt r [o] → Q r (δ1.set i (.ow o))) ∧ ∀ C o, P'.ex C [o] → Ex C (δ1.set i (.ow o))) : DE c (tCallS (toSp g sp) (WE W) tr) δ Q := fun σ H F QV R k =>
  q σ H F _ R fun vs H1 F1 rs δ1 ⟨as, P', i, e, m, s, kr, ke⟩ R1 s1 rep => by
    obtain ⟨o, m1, hi⟩ := mu1 e m
    refine ⟨F1, as, P', ent_of R1 rep e (.inr ⟨i, o, m1, hi⟩), s, fun r os v H' F' h A rn => ?_, fun C os H' F' h A => ?_⟩
    · obtain ⟨o2, rfl, w⟩ := muR1 R1 rep e m A.mu
      have R' := rel_aft1 R1 hi m1 A w
      exact k v H' F' r _ (kr r o2 h) R' (s1.trans (same_aft R1 A)) (rep_aft1 R1 hi R' rn)
    · obtain ⟨o2, rfl, w⟩ := muR1 R1 rep e m A.mu
      exact hx C σ H' F' _ (rel_aft1 R1 hi m1 A w) (ke C o2 h)
end
/-! raising -/
def tRaise (W : WX) (C : Addr) : TS := fun _ σ H => W (.ref C) none σ H
theorem ps_raiseD {X : Cx} {W : WX} {x m : Str} {C : Addr} {j : Nat} {p p2 pos pos' : Pos} (ec : ExcC X.K X.mg x C) (tk : Takes X W) (hc : X.calm = true := by rfl) (hg : Gl X x := by rfl) (hdb : (x == ("__debug__" : Str)) = false := by decide) :
    PS X (.Raise (some (.Call (.Name x p) [.Constant (.str m) j p2] [] pos)) none pos') (tRaise W C) := ps_raiseX ec tk hc hg hdb
theorem d_raise {g : Gb} {c : Cn g} {δ : List Sl} {P : PD} {W : WX} {Ex : Addr → List Sl → Prop} {C : Addr} (hx : XOk c W Ex) (q : Ex C δ) : DS c (tRaise W C) δ P := fun σ H F E R k => hx C σ H F δ R q
end KD

set_option maxHeartbeats 4000000
namespace KD
open PySem PySem.Spec PyProof.Rows L2 KB
/-! ### comprehensions -/
theorem wipe_get (σ : L2.St) (vs : List Nat) (i : Nat) : (wipe σ vs)[i]? = if i ∈ vs then (σ[i]?).map (fun _ => none) else σ[i]? := by
  induction vs with
  | nil => simp [wipe]
  | cons v vs ih =>
    unfold wipe
    by_cases h : v = i
    · subst h
      rw [List.getElem?_set, if_pos rfl, if_pos (List.mem_cons_self), wipe_length]
      by_cases z : v < σ.length
      · rw [if_pos z, List.getElem?_eq_getElem z]; rfl
      · rw [if_neg z, List.getElem?_eq_none_iff.mpr (by omega)]; rfl
    · rw [List.getElem?_set_ne h, ih]
      by_cases m : i ∈ vs
      · rw [if_pos m, if_pos (List.mem_cons_of_mem _ m)]
      · rw [if_neg m, if_neg fun z => by rcases List.mem_cons.mp z with e | e; exact h e.symm; exact m e]
def Only (tg : TG) (vs : List Nat) : Prop := ∀ v σ H (S S' : L2.St → Hp → Prop), (∀ σ2 H2, wipe σ2 vs = wipe σ vs → S σ2 H2 → S' σ2 H2) → tg v σ H S → tg v σ H S'
def OnlyS (tg : TGs) (vs : List Nat) : Prop := ∀ v σ H (S S' : L2.St → Hp → Prop), (∀ σ2 H2, wipe σ2 vs = wipe σ vs → S σ2 H2 → S' σ2 H2) → tg v σ H S → tg v σ H S'
theorem only_name {i : Nat} {vs : List Nat} (h : i ∈ vs) : Only (gName i) vs := fun v σ H S S' k q => k _ _ (by
  refine List.ext_getElem? fun j => ?_
  rw [wipe_get, wipe_get]
  by_cases m : j ∈ vs
  · rw [if_pos m, if_pos m, List.getElem?_set]
    split
    · rename_i e
      subst e
      split
      · rename_i l; rw [List.getElem?_eq_getElem l]; rfl
      · rename_i l; rw [List.getElem?_eq_none_iff.mpr (by omega)]
    · rfl
  · rw [if_neg m, if_neg m, List.getElem?_set_ne fun z => m (by rw [← z]; exact h)]) q
theorem only_nil {vs : List Nat} : OnlyS gNil vs := fun v σ H S S' k q => ⟨q.1, k _ _ rfl q.2⟩
theorem only_cons {t : TG} {u : TGs} {vs : List Nat} (h1 : Only t vs) (h2 : OnlyS u vs) : OnlyS (gCons t u) vs := fun v σ H S S' k ⟨x, r, e, q⟩ =>
  ⟨x, r, e, h1 x σ H _ _ (fun σ2 H2 e2 q2 => h2 r σ2 H2 _ _ (fun σ3 H3 e3 q3 => k σ3 H3 (e3.trans e2) q3) q2) q⟩
theorem only_tup {K : PySem.W.Frag} {n : Nat} {t : TGs} {vs : List Nat} (h : OnlyS t vs) : Only (gTup K n t) vs := fun v σ H S S' k ⟨a, xs, e, hs, hl, q⟩ => ⟨a, xs, e, hs, hl, h xs σ H S S' k q⟩
def wipeD (δ : List Sl) : List Nat → List Sl
  | [] => δ
  | v :: vs => (wipeD δ vs).set v .no
def back (δ δ' : List Sl) : List Nat → List Sl
  | [] => δ'
  | v :: vs => (back δ δ' vs).set v (δ.getD v .no)
def NoOw (δ : List Sl) (vs : List Nat) : Bool := vs.all fun v => match δ.getD v .no with
  | .ow _ => false
  | _ => true
theorem wipeD_len (δ : List Sl) : ∀ vs : List Nat, (wipeD δ vs).length = δ.length
  | [] => rfl
  | v :: vs => by unfold wipeD; rw [List.length_set, wipeD_len δ vs]
theorem back_len (δ δ' : List Sl) : ∀ vs : List Nat, (back δ δ' vs).length = δ'.length
  | [] => rfl
  | v :: vs => by unfold back; rw [List.length_set, back_len δ δ' vs]
theorem wipeD_some {δ : List Sl} {vs : List Nat} {i : Nat} {s : Sl} (h : (wipeD δ vs)[i]? = some s) (n : s ≠ .no) : i ∉ vs ∧ δ[i]? = some s := by
  induction vs with
  | nil => exact ⟨by simp, h⟩
  | cons v vs ih =>
    unfold wipeD at h
    by_cases e : v = i
    · subst e
      rw [List.getElem?_set, if_pos rfl] at h
      split at h
      · exact absurd (Option.some.inj h).symm n
      · cases h
    · rw [List.getElem?_set_ne e] at h
      obtain ⟨h1, h2⟩ := ih h
      exact ⟨fun z => by rcases List.mem_cons.mp z with q | q; exact e q.symm; exact h1 q, h2⟩
theorem back_get {δ δ' : List Sl} {vs : List Nat} {i : Nat} {s : Sl} (h : (back δ δ' vs)[i]? = some s) : (i ∈ vs ∧ δ.getD i .no = s) ∨ (i ∉ vs ∧ δ'[i]? = some s) := by
  induction vs with
  | nil => exact .inr ⟨by simp, h⟩
  | cons v vs ih =>
    unfold back at h
    by_cases e : v = i
    · subst e
      rw [List.getElem?_set, if_pos rfl] at h
      split at h
      · exact .inl ⟨List.mem_cons_self, Option.some.inj h⟩
      · cases h
    · rw [List.getElem?_set_ne e] at h
      rcases ih h with ⟨h1, h2⟩ | ⟨h1, h2⟩
      · exact .inl ⟨List.mem_cons_of_mem _ h1, h2⟩
      · exact .inr ⟨fun z => by rcases List.mem_cons.mp z with q | q; exact e q.symm; exact h1 q, h2⟩
theorem set_sub {δ : List Sl} {i : Nat} {s : Sl} (h : s.adrs = []) : (adS (δ.set i s)).Sublist (adS δ) := by
  induction δ generalizing i with
  | nil => exact .slnil
  | cons t r ih =>
    cases i with
    | zero => simp only [List.set_cons_zero, adS, h, List.nil_append]; exact List.sublist_append_right _ _
    | succ i => simp only [List.set_cons_succ, adS]; exact (List.Sublist.refl _).append ih
theorem wipeD_sub (δ : List Sl) : ∀ vs : List Nat, (adS (wipeD δ vs)).Sublist (adS δ)
  | [] => List.Sublist.refl _
  | v :: vs => (set_sub rfl).trans (wipeD_sub δ vs)
theorem back_sub {δ δ' : List Sl} : ∀ {vs : List Nat}, NoOw δ vs = true → (adS (back δ δ' vs)).Sublist (adS δ')
  | [], _ => List.Sublist.refl _
  | v :: vs, h => by
    simp only [NoOw, List.all_cons, Bool.and_eq_true] at h
    refine (set_sub ?_).trans (back_sub (vs := vs) h.2)
    have h1 := h.1
    cases e : δ.getD v .no with
    | no => rfl
    | fz d => rfl
    | rf d => rfl
    | ow o => rw [e] at h1; cases h1
theorem noOw_at {δ : List Sl} {vs : List Nat} {i : Nat} {o : OD} (h : NoOw δ vs = true) (m : i ∈ vs) : δ.getD i .no ≠ .ow o := by
  intro e
  have := List.all_eq_true.mp h i m
  rw [e] at this
  cases this
section
variable {g : Gb} {c : Cn g} {σ : L2.St} {H F F' H' : Hp} {δ : List Sl} {v : V} {r x y : R} {ds es : List D} {d e : D} {o o2 : OD} {i j : Nat} {Q : R → List Sl → Prop} {P : PD}
/-- into a comprehension's turn -/
theorem rel_in (R : Rel c σ H F δ) (vs : List Nat) : Rel (⟨H, F, F, adS (wipeD δ vs)⟩ : Cn g) (wipe σ vs) H F (wipeD δ vs) := by
  refine ⟨R.sub, fun _ _ e _ => e, fun _ z => z, fun _ _ => .inl rfl, by rw [wipe_length, wipeD_len]; exact R.len, fun i d e => ?_, fun i o e => ?_, R.nd.sublist (wipeD_sub δ vs), fun a m => ⟨(R.fa a ((wipeD_sub δ vs).subset m)).1, .inr m⟩, Same.refl F, fun i a e => ?_⟩
  · obtain ⟨n, e⟩ := wipeD_some e (fun z => nomatch z)
    obtain ⟨v, h1, h2⟩ := R.fz i d e
    exact ⟨v, by rw [wipe_get, if_neg n]; exact h1, h2⟩
  · obtain ⟨n, e⟩ := wipeD_some e (fun z => nomatch z)
    obtain ⟨v, h1, h2⟩ := R.ow i o e
    exact ⟨v, by rw [wipe_get, if_neg n]; exact h1, h2⟩
  · obtain ⟨n, e⟩ := wipeD_some e (fun z => nomatch z)
    rw [wipe_get, if_neg n]
    exact R.rf i a e
/-- and out of it -/
theorem rel_out {σ2 : L2.St} {δ' : List Sl} {vs : List Nat} (R : Rel c σ H F δ) (hn : NoOw δ vs = true) (R' : Rel (⟨H, F, F, adS (wipeD δ vs)⟩ : Cn g) σ2 H' F' δ') (ew : wipe σ2 vs = wipe σ vs) : Rel c σ H' F' (back δ δ' vs) := by
  have sF : Same F F' := R'.lb
  have el : σ2.length = σ.length := by have := congrArg List.length ew; rwa [wipe_length, wipe_length] at this
  have eg : ∀ i, i ∉ vs → σ2[i]? = σ[i]? := fun i m => by
    have := congrArg (fun l : L2.St => l[i]?) ew
    have this : (wipe σ2 vs)[i]? = (wipe σ vs)[i]? := this
    rw [wipe_get, wipe_get, if_neg m, if_neg m] at this
    exact this
  refine ⟨R'.sub, fun a u e1 e2 => R'.fr a u (R.fr a u e1 e2) fun m => ?_, fun a z => R'.fr2 a (R.fr2 a z), fun a z => (R'.ff a (R.fr2 a z)).trans (R.ff a z), by rw [back_len, ← R'.len, el], fun i d e => ?_, fun i o e => ?_, R'.nd.sublist (back_sub hn), fun a m => ?_, R.lb.trans sF, fun i a e => ?_⟩
  · rcases (R.fa a ((wipeD_sub δ vs).subset m)).2 with z | z
    · rw [e1] at z; cases z
    · exact e2 z
  · rcases back_get e with ⟨m, h⟩ | ⟨m, h⟩
    · have h' : δ[i]? = some (.fz d) := by
        rw [List.getD_eq_getElem?_getD] at h
        cases q : δ[i]? with
        | none => rw [q] at h; cases h
        | some s => rw [q] at h; simp only [Option.getD_some] at h; rw [h]
      obtain ⟨v, h1, h2⟩ := R.fz i d h'
      exact ⟨v, h1, h2.mono sF⟩
    · obtain ⟨v, h1, h2⟩ := R'.fz i d h
      exact ⟨v, by rw [← eg i m]; exact h1, h2⟩
  · rcases back_get e with ⟨m, h⟩ | ⟨m, h⟩
    · exact absurd h (noOw_at hn m)
    · obtain ⟨v, h1, h2⟩ := R'.ow i o h
      exact ⟨v, by rw [← eg i m]; exact h1, h2⟩
  · obtain ⟨h1, h2⟩ := R'.fa a ((back_sub hn).subset m)
    refine ⟨h1, ?_⟩
    rcases h2 with z | z
    · left
      cases q : c.H0 a with
      | none => rfl
      | some u => exact absurd z (R.fr2 a (by rw [q]; exact fun z => nomatch z))
    · exact (R.fa a ((wipeD_sub δ vs).subset z)).2
  · rcases back_get e with ⟨m, h⟩ | ⟨m, h⟩
    · have h' : δ[i]? = some (.rf a) := by
        rw [List.getD_eq_getElem?_getD] at h
        cases q : δ[i]? with
        | none => rw [q] at h; cases h
        | some s => rw [q] at h; simp only [Option.getD_some] at h; rw [h]
      exact R.rf i a h'
    · rw [← eg i m]; exact R'.rf i a h
/-- a list of its own that no slot holds is changed -/
theorem rel_off {p : Addr} {u : HO} (R : Rel c σ H F δ) (h0 : c.H0 p = none) (hF : F p = none) (ha : p ∉ adS δ) : Rel c σ (upd H p u) F δ := by
  refine ⟨fun b z q => ?_, fun b z q nb => ?_, fun b q => ?_, R.ff, R.len, R.fz, fun i o e => ?_, R.nd, R.fa, R.lb, R.rf⟩
  · have : b ≠ p := fun z => by subst z; rw [hF] at q; cases q
    rw [upd_ne this]; exact R.sub b z q
  · have : b ≠ p := fun z => by subst z; rw [h0] at q; cases q
    rw [upd_ne this]; exact R.fr b z q nb
  · have : b ≠ p := fun z => by subst z; exact q h0
    rw [upd_ne this]; exact R.fr2 b q
  · obtain ⟨v, h1, h2⟩ := R.ow i o e
    exact ⟨v, h1, h2.move (Same.refl F) fun a m => upd_ne fun z => ha (by rw [← z]; exact mem_adS e m)⟩
theorem d_lc {wi : TI} {tg : TG} {tt : TT} {te : TE} {vs : List Nat} (hg : Only tg vs) (q : DI c wi δ fun n it ok δ1 => n ≤ sizeLine ∧ ∃ Iv : Nat → List D → List Sl → Prop, Iv 0 [] δ1 ∧ (∀ i acc δ, Iv i acc δ → ok δ ∧ NoOw δ vs = true) ∧
    (∀ (c' : Cn g) i acc δ, i < n → Iv i acc δ → DG c' tg (.fz (it i)) (wipeD δ vs) fun δ2 => DT c' tt δ2 fun b δ3 => if b = true then DE c' te δ3 fun r δ4 => ∃ d, r.frz = .fz d ∧ Iv (i + 1) (acc ++ [d]) (back δ δ4 vs) else Iv (i + 1) acc (back δ δ3 vs)) ∧
    ∀ p acc δ', Iv n acc δ' → Q (.nw (.fl p acc)) δ') : DE c (tLc wi tg tt te vs) δ Q := fun σ H F QV R k =>
  q σ H F _ R fun J H1 F1 n it ok δ1 ⟨hn, Iv, h0, hok, hs, hd⟩ R1 s1 I => by
    intro D hD
    obtain ⟨R1', n1, n2, n3⟩ := R1.newO (o := .lst []) hD
    refine ⟨fun i m h => ∃ F2 δ2 acc accV, m = n - i ∧ i ≤ n ∧ Rel c σ h F2 δ2 ∧ Same F1 F2 ∧ Iv i acc δ2 ∧ acc.length ≤ i ∧ h D = some (.lst accV) ∧ DpL g F2 accV acc ∧ F2 D = none ∧ D ∉ adS δ2, ⟨n, F1, δ1, [], [], by omega, Nat.zero_le _, R1', Same.refl F1, h0, Nat.le_refl 0, upd_same, .nil, n1, n3⟩, ?_⟩
    rintro i m h ⟨F2, δ2, acc, accV, rfl, hi, R2, s2, inv, hl, hD2, hacc, fD2, aD2⟩
    obtain ⟨hok2, hno⟩ := hok i acc δ2 inv
    by_cases hlt : i < n
    · refine .inr ⟨I.go i σ h F2 δ2 hlt R2 s2 hok2, fun h' => ∃ F3 δ3 acc accV, Rel c σ h' F3 δ3 ∧ Same F1 F3 ∧ Iv (i + 1) acc δ3 ∧ acc.length ≤ i + 1 ∧ h' D = some (.lst accV) ∧ DpL g F3 accV acc ∧ F3 D = none ∧ D ∉ adS δ3, ?_, ?_⟩
      · rintro h' ⟨F3, δ3, acc, accV, a1, a2, a3, a4, a5, a6, a7, a8⟩
        exact ⟨n - (i + 1), by omega, F3, δ3, acc, accV, rfl, hlt, a1, a2, a3, a4, a5, a6, a7, a8⟩
      · intro x h' y
        obtain ⟨F3, R3, s3, sH, kF, hx⟩ := I.yld i σ h F2 δ2 x h' hlt R2 s2 hok2 y
        have hD3 : h' D = some (.lst accV) := sH _ _ hD2
        have fD3 : F3 D = none := fx_none (kF D (by rw [hD2]; exact fun z => nomatch z)) fD2 R3.sub (by rw [hD3]; exact fun t z => nomatch z)
        have Rin := rel_in R3 vs
        have fin : ∀ (σ2 : L2.St) (H4 F4 : Hp) (δ4 : List Sl), wipe σ2 vs = wipe σ vs → Rel (⟨h', F3, F3, adS (wipeD δ2 vs)⟩ : Cn g) σ2 H4 F4 δ4 →
            Rel c σ H4 F4 (back δ2 δ4 vs) ∧ Same F3 F4 ∧ H4 D = some (.lst accV) ∧ F4 D = none ∧ D ∉ adS (back δ2 δ4 vs) := fun σ2 H4 F4 δ4 ew R4 => by
          have hD4 : H4 D = some (.lst accV) := R4.fr D _ hD3 fun z => aD2 ((wipeD_sub δ2 vs).subset z)
          refine ⟨rel_out R3 hno R4 ew, R4.lb, hD4, fx_none (R4.ff D (by show h' D ≠ none; rw [hD3]; exact fun z => nomatch z)) fD3 R4.sub (by rw [hD4]; exact fun t z => nomatch z), fun z => ?_⟩
          rcases (R4.fa D ((back_sub hno).subset z)).2 with q | q
          · have q : h' D = none := q
            rw [hD3] at q; cases q
          · exact aD2 ((wipeD_sub δ2 vs).subset q)
        refine hg x (wipe σ vs) h' _ _ ?_ (hs ⟨h', F3, F3, adS (wipeD δ2 vs)⟩ i acc δ2 hlt inv (wipe σ vs) h' F3 x
          (fun σ2 H2 => wipe σ2 vs = wipe σ vs → tt σ2 H2 fun b H3 => if b = true then te σ2 H3 fun y H4 => ∃ acc, H4 D = some (.lst acc) ∧ acc.length < sizeLine ∧ ∃ F3 δ3 acc2 accV, Rel c σ (upd H4 D (.lst (acc ++ [y]))) F3 δ3 ∧ Same F1 F3 ∧ Iv (i + 1) acc2 δ3 ∧ acc2.length ≤ i + 1 ∧ upd H4 D (.lst (acc ++ [y])) D = some (.lst accV) ∧ DpL g F3 accV acc2 ∧ F3 D = none ∧ D ∉ adS δ3
            else ∃ F3 δ3 acc accV, Rel c σ H3 F3 δ3 ∧ Same F1 F3 ∧ Iv (i + 1) acc δ3 ∧ acc.length ≤ i + 1 ∧ H3 D = some (.lst accV) ∧ DpL g F3 accV acc ∧ F3 D = none ∧ D ∉ adS δ3) Rin hx ?_)
        · intro σ2 H2 ew q
          have ew' : wipe σ2 vs = wipe σ vs := by
            rw [ew]
            refine List.ext_getElem? fun j => ?_
            rw [wipe_get, wipe_get]
            by_cases m : j ∈ vs
            · rw [if_pos m, if_pos m]; cases σ[j]? <;> rfl
            · rw [if_neg m, if_neg m]
          exact ⟨ew', q ew'⟩
        · intro σ2 H2 F4 δ3 q3 R4 s4 ew
          refine q3 σ2 H2 F4 _ R4 fun b H3 F5 δ4 q4 R5 s5 => ?_
          cases b with
          | true =>
            refine (show te σ2 H3 _ from de_frz q4 R5 fun y H4 F6 r δ5 ⟨d, er, q5⟩ R6 s6 rep => ?_)
            rw [er] at rep
            obtain ⟨Ro, sF, hD4, fD4, aD4⟩ := fin σ2 H4 F6 δ5 ew R6
            have hlen : accV.length = acc.length := hacc.length
            refine ⟨accV, hD4, by omega, F6, _, acc ++ [d], accV ++ [y], rel_off Ro n2 fD4 aD4, (s2.trans s3).trans sF, q5, by rw [List.length_append, List.length_singleton]; omega, upd_same, (hacc.mono (s3.trans sF)).append (.cons rep .nil), fD4, aD4⟩
          | false =>
            obtain ⟨Ro, sF, hD4, fD4, aD4⟩ := fin σ2 H3 F5 δ4 ew R5
            exact ⟨F5, _, acc, accV, Ro, (s2.trans s3).trans sF, q4, by omega, hD4, hacc.mono (s3.trans sF), fD4, aD4⟩
    · have e : i = n := by omega
      subst e
      refine .inl ⟨I.stop σ h F2 δ2 R2 s2 hok2, k _ h F2 _ δ2 (hd D acc δ2 inv) R2 (s1.trans s2) ⟨.fl hD2 hacc, ?_, fun a m => ?_⟩⟩
      · simp only [OD.adrs, List.singleton_append, List.nodup_cons]
        exact ⟨aD2, R2.nd⟩
      · simp only [OD.adrs, List.mem_singleton] at m
        subst m
        exact ⟨fD2, n2⟩
/-! enumerate, zip -/
theorem new_keep {p : Addr} {u : HO} (hp : H p = none) : ∀ a, H a ≠ none → Fx (upd F p u a) (F a) := fun a z => .inl (upd_ne fun e => z (by rw [e]; exact hp))
theorem iteT_fz {a : Addr} {vs : List V} (hs : SqT g.K F a vs) (hd : DpL g F vs ds) : ItOk c F (IteT g.K a vs.length) ds.length (fun i => .tup [.int (i : Nat), ds.getD i .non]) (fun _ => True) where
  go := fun i σ H F2 δ hi R s _ => by
    have hi' : i < vs.length := by rw [hd.length]; exact hi
    exact ⟨vs, vs[i], sqT_mono (s.trans R.sub) hs, rfl, by rw [List.getElem?_eq_getElem hi']⟩
  yld := fun i σ H F2 δ x H' hi R s _ y => by
    obtain ⟨T, u, rfl, hT, rfl, y⟩ := y
    obtain ⟨R2, s2, sH⟩ := R.new (o := .tup [.int (i : Nat), u]) hT
    exact ⟨_, R2, s2, sH, new_keep hT, .tup upd_same (.cons (.int _) (.cons ((getD_dp hd (y vs (sqT_mono (s.trans R.sub) hs))).mono (s.trans s2)) .nil))⟩
  stop := fun σ H F2 δ R s _ => ⟨vs, sqT_mono (s.trans R.sub) hs, rfl, by rw [hd.length]; exact Nat.le_refl _⟩
theorem ite_fz {a : Addr} {vs : List V} (hs : SqL g.K F a vs) (hd : DpL g F vs ds) : ItOk c F (Ite g.K a) ds.length (fun i => .tup [.int (i : Nat), ds.getD i .non]) (fun _ => True) where
  go := fun i σ H F2 δ hi R s _ => by
    have hi' : i < vs.length := by rw [hd.length]; exact hi
    exact ⟨vs, vs[i], (s.trans R.sub).seq hs, by rw [List.getElem?_eq_getElem hi']⟩
  yld := fun i σ H F2 δ x H' hi R s _ y => by
    obtain ⟨T, u, rfl, hT, rfl, y⟩ := y
    obtain ⟨R2, s2, sH⟩ := R.new (o := .tup [.int (i : Nat), u]) hT
    exact ⟨_, R2, s2, sH, new_keep hT, .tup upd_same (.cons (.int _) (.cons ((getD_dp hd (y vs ((s.trans R.sub).seq hs))).mono (s.trans s2)) .nil))⟩
  stop := fun σ H F2 δ R s _ => ⟨vs, (s.trans R.sub).seq hs, by rw [hd.length]; exact Nat.le_refl _⟩
theorem itz_fz {a b : Addr} {vs ws : List V} (hs : SqL g.K F a vs) (hd : DpL g F vs ds) (hs2 : SqL g.K F b ws) (hd2 : DpL g F ws es) : ItOk c F (Itz g.K a b) (min ds.length es.length) (fun i => .tup [ds.getD i .non, es.getD i .non]) (fun _ => True) where
  go := fun i σ H F2 δ hi R s _ => by
    have h1 : i < vs.length := by rw [hd.length]; omega
    have h2 : i < ws.length := by rw [hd2.length]; omega
    exact ⟨vs, ws, vs[i], ws[i], (s.trans R.sub).seq hs, (s.trans R.sub).seq hs2, by rw [List.getElem?_eq_getElem h1], by rw [List.getElem?_eq_getElem h2]⟩
  yld := fun i σ H F2 δ x H' hi R s _ y => by
    obtain ⟨T, u, w, rfl, hT, rfl, y, z⟩ := y
    obtain ⟨R2, s2, sH⟩ := R.new (o := .tup [u, w]) hT
    exact ⟨_, R2, s2, sH, new_keep hT, .tup upd_same (.cons ((getD_dp hd (y vs ((s.trans R.sub).seq hs))).mono (s.trans s2)) (.cons ((getD_dp hd2 (z ws ((s.trans R.sub).seq hs2))).mono (s.trans s2)) .nil))⟩
  stop := fun σ H F2 δ R s _ => ⟨vs, ws, (s.trans R.sub).seq hs, (s.trans R.sub).seq hs2, by rw [hd.length, hd2.length]; omega⟩
theorem itzT_fz {a b : Addr} {vs ws : List V} (hs : SqT g.K F a vs) (hd : DpL g F vs ds) (hs2 : SqT g.K F b ws) (hd2 : DpL g F ws es) : ItOk c F (RZ.ItzT g.K a b) (min ds.length es.length) (fun i => .tup [ds.getD i .non, es.getD i .non]) (fun _ => True) where
  go := fun i σ H F2 δ hi R s _ => by
    have h1 : i < vs.length := by rw [hd.length]; omega
    have h2 : i < ws.length := by rw [hd2.length]; omega
    exact ⟨vs, ws, vs[i], ws[i], sqT_mono (s.trans R.sub) hs, sqT_mono (s.trans R.sub) hs2, by rw [List.getElem?_eq_getElem h1], by rw [List.getElem?_eq_getElem h2]⟩
  yld := fun i σ H F2 δ x H' hi R s _ y => by
    obtain ⟨T, u, w, rfl, hT, rfl, y, z⟩ := y
    obtain ⟨R2, s2, sH⟩ := R.new (o := .tup [u, w]) hT
    exact ⟨_, R2, s2, sH, new_keep hT, .tup upd_same (.cons ((getD_dp hd (y vs (sqT_mono (s.trans R.sub) hs))).mono (s.trans s2)) (.cons ((getD_dp hd2 (z ws (sqT_mono (s.trans R.sub) hs2))).mono (s.trans s2)) .nil))⟩
  stop := fun σ H F2 δ R s _ => ⟨vs, ws, sqT_mono (s.trans R.sub) hs, sqT_mono (s.trans R.sub) hs2, by rw [hd.length, hd2.length]; omega⟩
variable {QI : Nat → (Nat → D) → (List Sl → Prop) → List Sl → Prop}
theorem d_iEnumT {K : PySem.W.Frag} {ta : TA} (hK : K = g.K) (q : DA c ta δ fun rs δ1 => ∃ ds, rs = [.fz (.tup ds)] ∧ QI ds.length (fun i => .tup [.int (i : Nat), ds.getD i .non]) (fun _ => True) δ1) : DI c (iEnumT K ta) δ QI := fun σ H F S R k => by
  subst hK
  refine q σ H F _ R fun vs H1 F1 rs δ1 ⟨ds, e, q1⟩ R1 s1 rep => ?_
  subst e
  obtain ⟨v, rfl, hv⟩ := one_rep rep
  cases hv with
  | tup h1 h2 => exact ⟨_, _, rfl, sqT_mono R1.sub (.inl (.inl h1)), k _ H1 F1 _ _ _ δ1 q1 R1 s1 (iteT_fz (.inl (.inl h1)) h2)⟩
theorem d_iEnum {K : PySem.W.Frag} {ta : TA} (hK : K = g.K) (q : DA c ta δ fun rs δ1 => ∃ r ds, rs = [r] ∧ lsFr r = some ds ∧ QI ds.length (fun i => .tup [.int (i : Nat), ds.getD i .non]) (fun _ => True) δ1) : DI c (iEnum K ta) δ QI := fun σ H F S R k => by
  subst hK
  refine q σ H F _ R fun vs H1 F1 rs δ1 ⟨x, ds, e, el, q1⟩ R1 s1 rep => ?_
  subst e
  obtain ⟨v, rfl, hv⟩ := one_rep rep
  cases x with
  | fz d =>
    cases d <;> simp only [lsFr, reduceCtorEq, Option.some.injEq] at el
    · subst el
      cases hv with
      | lst h1 h2 => exact ⟨_, _, rfl, .inl (.inl (R1.sub _ _ h1)), k _ H1 F1 _ _ _ δ1 q1 R1 s1 (ite_fz (.inl (.inl h1)) h2)⟩
    · subst el
      cases hv with
      | ro h1 h2 => exact ⟨_, _, rfl, R1.sub.seq h1, k _ H1 F1 _ _ _ δ1 q1 R1 s1 (ite_fz h1 h2)⟩
  | bw i => simp [lsFr] at el
  | nw o => simp [lsFr] at el
  | rf o => simp [lsFr] at el
theorem d_iZipL {K : PySem.W.Frag} {ta : TA} (hK : K = g.K) (q : DA c ta δ fun rs δ1 => ∃ ds es, rs = [.fz (.lst ds), .fz (.lst es)] ∧ QI (min ds.length es.length) (fun i => .tup [ds.getD i .non, es.getD i .non]) (fun _ => True) δ1) : DI c (RZ.iZipA K ta) δ QI := fun σ H F S R k => by
  subst hK
  refine q σ H F _ R fun vs H1 F1 rs δ1 ⟨ds, es, e, q1⟩ R1 s1 rep => ?_
  subst e
  obtain ⟨v, w, rfl, hv, hw⟩ := two_rep rep
  cases hv with
  | lst h1 h2 => cases hw with
    | lst h3 h4 => exact ⟨_, _, _, _, rfl, .inl ⟨.inl (.inl (R1.sub _ _ h1)), .inl (.inl (R1.sub _ _ h3)), k _ H1 F1 _ _ _ δ1 q1 R1 s1 (itz_fz (.inl (.inl h1)) h2 (.inl (.inl h3)) h4)⟩⟩
theorem d_iZipT {K : PySem.W.Frag} {ta : TA} (hK : K = g.K) (q : DA c ta δ fun rs δ1 => ∃ ds es, rs = [.fz (.tup ds), .fz (.tup es)] ∧ QI (min ds.length es.length) (fun i => .tup [ds.getD i .non, es.getD i .non]) (fun _ => True) δ1) : DI c (RZ.iZipA K ta) δ QI := fun σ H F S R k => by
  subst hK
  refine q σ H F _ R fun vs H1 F1 rs δ1 ⟨ds, es, e, q1⟩ R1 s1 rep => ?_
  subst e
  obtain ⟨v, w, rfl, hv, hw⟩ := two_rep rep
  cases hv with
  | tup h1 h2 => cases hw with
    | tup h3 h4 => exact ⟨_, _, _, _, rfl, .inr ⟨sqT_mono R1.sub (.inl (.inl h1)), sqT_mono R1.sub (.inl (.inl h3)), k _ H1 F1 _ _ _ δ1 q1 R1 s1 (itzT_fz (.inl (.inl h1)) h2 (.inl (.inl h3)) h4)⟩⟩
/-! try -/
def tTry (K : PySem.W.Frag) (Wout : WX) (l : List (Value × (Addr → Value → Option Addr → TS))) (tb : WX → TS) : TS := fun D σ H => tb (wMany K Wout D l) D σ H
def ExM (c : Cn g) (P : PD) (Ex : Addr → List Sl → Prop) : List (Value × (Addr → Value → Option Addr → TS)) → Addr → List Sl → Prop
  | [] => Ex
  | (cv, ts) :: r => fun C δ => ∃ b, PySem.W.exmOne g.K (.ref C) cv = some b ∧ (b = true → ∀ a, DS c (ts a (.ref C) none) δ P) ∧ (b = false → ExM c P Ex r C δ)
theorem exM_ok {Wout : WX} {Ex : Addr → List Sl → Prop} {E : Ends} (c' : Cn g) (hc : ∀ σ H F δ, Rel c' σ H F δ → EndsOk c' F P E) (hx : XOk c' Wout Ex) : ∀ l, XOk c' (wMany g.K Wout E l) (ExM c' P Ex l)
  | [] => hx
  | (cv, ts) :: r => fun C σ H F δ R ⟨b, e, h1, h2⟩ => ⟨b, e, fun hb a _ => h1 hb a σ H F E R (hc σ H F δ R), fun hb => exM_ok c' hc hx r C σ H F δ R (h2 hb)⟩
theorem d_try {K : PySem.W.Frag} {Wout : WX} {Ex : Addr → List Sl → Prop} {l : List (Value × (Addr → Value → Option Addr → TS))} {tb : WX → TS} (hK : K = g.K) (hx : XOk c Wout Ex)
    (q : ∀ (c' : Cn g) W, c'.M = c.M → XOk c' Wout Ex → XOk c' W (ExM c' P Ex l) → DS c' (tb W) δ P) : DS c (tTry K Wout l tb) δ P := fun σ H F E R k => by
  subst hK
  have dn : ∀ σ H F' δ, Rel (⟨c.H0, c.F0, F, c.M⟩ : Cn g) σ H F' δ → Rel c σ H F' δ := fun σ H F' δ R' => ⟨R'.sub, R'.fr, R'.fr2, R'.ff, R'.len, R'.fz, R'.ow, R'.nd, R'.fa, R.lb.trans R'.lb, R'.rf⟩
  have up : Rel (⟨c.H0, c.F0, F, c.M⟩ : Cn g) σ H F δ := ⟨R.sub, R.fr, R.fr2, R.ff, R.len, R.fz, R.ow, R.nd, R.fa, Same.refl F, R.rf⟩
  have rp : ∀ {σ H F' δ v r}, RRep (⟨c.H0, c.F0, F, c.M⟩ : Cn g) σ H F' δ v r → RRep c σ H F' δ v r := fun {σ H F' δ v r} h => by cases r <;> exact h
  have k' : EndsOk (⟨c.H0, c.F0, F, c.M⟩ : Cn g) F P E := ⟨fun σ H G δ q R s => k.nx σ H G δ q (dn _ _ _ _ R) s, fun σ v H G r δ q R s rep => k.rt σ v H G r δ q (dn _ _ _ _ R) s (rp rep), fun σ H G δ q R s => k.bk σ H G δ q (dn _ _ _ _ R) s, fun σ H G δ q R s => k.ct σ H G δ q (dn _ _ _ _ R) s⟩
  have hx' : XOk (⟨c.H0, c.F0, F, c.M⟩ : Cn g) Wout Ex := fun C σ H G δ R e => hx C σ H G δ (dn _ _ _ _ R) e
  exact q ⟨c.H0, c.F0, F, c.M⟩ (wMany g.K Wout E l) rfl hx' (exM_ok _ (fun σ H G δ R' => k'.later R'.lb) hx' l) σ H F E up k'
end
section
variable {X : Cx} {body : List Stmt} {h₀ : ExceptHandler} {hds : List ExceptHandler} {l : List (Value × (Addr → Value → Option Addr → TS))} {pos : Pos} {tb : WX → TS} {Wout : WX}
theorem ps_tryD (hs : X.stack = X.env :: X.outer) (hf : X.env.frame = some X.env.locals) (tk : Takes X Wout)
    (hb : ∀ (W : WX) (pn : List (Addr × Obj)) (xe : Value → Shared → Prop), Takes (X.tr pn xe) W → PassesOwn (model X.prog X.w) X.A X.env xe → PSs (X.tr pn xe) body (tb W))
    (hh : HdsOk X (h₀ :: hds) l) : PS X (.Try body (h₀ :: hds) [] [] pos) (tTry X.K Wout l tb) := ps_try_many hs hf tk hb hh
end
end KD

set_option maxHeartbeats 4000000
namespace KD
open PySem PySem.Spec PyProof.Rows L2 KB
/-! ### names that hold alone -/
section
variable {X : Cx}
theorem pg_own {i : Nat} {x : Str} {pos : Pos} (hN : X.N.Nodup) (hi : X.N[i]? = some x) (hx : Loc X.env.scope x) (hf : X.fn x = true ∨ X.env.scope.names.lookup x = some .local := by first | exact .inl rfl | exact .inr rfl | assumption) : PG X (.Name x pos) (gOwn i) := pg_name hN hi hx hf
theorem ps_setO {i : Nat} {x : Str} {e : Expr} {te : TE} {pos pos' : Pos} (hN : X.N.Nodup) (hi : X.N[i]? = some x) (hx : Loc X.env.scope x) (he : PE X e te) (hs : swapsWith e (some (.Name x pos')) pos.line X.env = pure false := by rfl)
    (hf : X.fn x = true ∨ X.env.scope.names.lookup x = some .local := by first | exact .inl rfl | exact .inr rfl | assumption) : PS X (.Assign [.Name x pos'] e pos) (tAsg te (gOwn i)) := ps_set hN hi hx he hs hf
theorem ps_setLcO {i : Nat} {y : Str} {py : Pos} {elt tg iter : Expr} {ifs : List Expr} {scope : Scope} {own : List (Str × Nat)} {pos spos : Pos} {wi : TI} {g : TG} {tt : TT} {te : TE} (hc : X.calm = true) (hN : X.N.Nodup) (hy : X.N[i]? = some y) (hyl : X.env.scope.names.lookup y = some .local)
    (hsw : swapsWith (.ListComp elt [⟨tg, iter, ifs, 0⟩] scope pos) (some (.Name y py)) spos.line X.env = pure true) (hi : PI X tg iter wi) (ok : BlkOk X.N X.env.scope scope own)
    (hg : ∀ (s : Shared) (H : Hp) (C : Addr) (cl : List (Str × Addr)) (fp : List Addr), PG (X.blk s H scope (compEnvC scope cl C X.env) fp) tg g) (ht : ∀ (s : Shared) (H : Hp) (C : Addr) (cl : List (Str × Addr)) (fp : List Addr), PTs (X.blk s H scope (compEnvC scope cl C X.env) fp) ifs tt)
    (he : ∀ (s : Shared) (H : Hp) (C : Addr) (cl : List (Str × Addr)) (fp : List Addr), PE (X.blk s H scope (compEnvC scope cl C X.env) fp) elt te) (hs : ∀ x, foldedSetIterable iter X.env x = pure x := by intro _; rfl) :
    PS X (.Assign [.Name y py] (.ListComp elt [⟨tg, iter, ifs, 0⟩] scope pos) spos) (tAsg (tLc wi g tt te (own.map (·.2))) (gOwn i)) := ps_setLc hc hN hy hyl hsw hi ok hg ht he hs
end
theorem pe_gstr {X : Cx} {x : Str} {z : Str} {pos : Pos} (hm : ∃ t, X.mg x = some (.str z t)) (hg : Gl X x := by rfl) (hd : (x == ("__debug__" : Str)) = false := by decide) : PE X (.Name x pos) (tC (.str z)) := by
  obtain ⟨t, hm⟩ := hm
  exact pe_glob hg hm ⟨t, rfl⟩ hd
/-! texts in texts -/
def inStr (i j : Str) : Bool := !(Builtin.Str.occurrences j i 0 j.length 1).isEmpty
def rInStr : R2 := fun x y H Q => ∃ i j, x = .str i ∧ y = .str j ∧ Q (.bl (inStr i j)) H
def rNotInStr : R2 := fun x y H Q => ∃ i j, x = .str i ∧ y = .str j ∧ Q (.bl (!inStr i j)) H
theorem op_inStrD {X : Cx} : OpR X (compareOp .In) rInStr := op_in_str
theorem op_notInStrD {X : Cx} : OpR X (compareOp .NotIn) rNotInStr := op_notin_str
def tTruth (K : PySem.W.Frag) (ta : TE) : TT := fun σ H Q => ta σ H fun x H' => ∃ k, TruV K x H' k ∧ Q k H'
theorem pt_truthD {X : Cx} {a : Expr} {ta : TE} (ha : PE X a ta) (he : ∀ whole, isTrue a X.env whole = (do let v ← whole; standAt a.pos; holding [v] (truthy v)) := by intro _; rfl) : PT X a (tTruth X.K ta) := pt_truth ha he
def rListOf (K : PySem.W.Frag) : List V → Hp → VK → Prop := fun xs H Q => ∃ p ys, xs = [.ref p] ∧ (SqL K H p ys ∨ SqT K H p ys) ∧ ∀ l, H l = none → Q (.ref l) (upd H l (.lst ys))
theorem call_listD {X : Cx} : CallR X (.type "list") (rListOf X.K) := call_list_of
def rTupOf (K : PySem.W.Frag) : List V → Hp → VK → Prop := fun xs H Q => ∃ p ys, xs = [.ref p] ∧ ((SqL K H p ys ∧ ∀ l, H l = none → Q (.ref l) (upd H l (.tup ys))) ∨ (SqT K H p ys ∧ Q (.ref p) H))
theorem call_tupD {X : Cx} : CallR X (.type "tuple") (rTupOf X.K) := call_tuple_of
section
variable {g : Gb} {c : Cn g} {σ : L2.St} {H F F' H' : Hp} {δ : List Sl} {v : V} {r x y : R} {ds es : List D} {d e : D} {o o2 : OD} {i j : Nat} {Q : R → List Sl → Prop} {P : PD} {tr : TA} {ta tb tc te : TE}
theorem d_inStr {a b : Str} (hx : x = .fz (.str a)) (hy : y = .fz (.str b)) (q : Q (.fz (.bl (inStr a b))) δ) : DO c rInStr x y δ Q := fun σ H F v w QV R k1 k2 k => by
  subst hx; subst hy
  cases k1; cases k2
  exact ⟨a, b, rfl, rfl, k _ H F _ _ q R (Same.refl F) (.bl _)⟩
theorem d_notInStr {a b : Str} (hx : x = .fz (.str a)) (hy : y = .fz (.str b)) (q : Q (.fz (.bl (!inStr a b))) δ) : DO c rNotInStr x y δ Q := fun σ H F v w QV R k1 k2 k => by
  subst hx; subst hy
  cases k1; cases k2
  exact ⟨a, b, rfl, rfl, k _ H F _ _ q R (Same.refl F) (.bl _)⟩
theorem d_listD (hx : x.els δ = some ds) (q : ∀ p, Q (.nw (.fl p ds)) δ) : DC c (rListOf g.K) [x] δ Q := d_listOf hx q
theorem d_tupD (hx : x.els δ = some ds) (q : Q (.fz (.tup ds)) δ) : DC c (rTupOf g.K) [x] δ Q := d_tupOf hx q
/-- truth of a list or tuple -/
theorem d_truthL {K : PySem.W.Frag} {QB : Bool → List Sl → Prop} (hK : K = g.K) (q : DE c te δ fun x δ1 => ∃ ds, x.els δ1 = some ds ∧ QB (!ds.isEmpty) δ1) : DT c (tTruth K te) δ QB := fun σ H F QV R k => by
  subst hK
  refine q σ H F _ R fun v H1 F1 x δ1 ⟨ds, e, q1⟩ R1 s1 rep => ?_
  obtain ⟨a, vs, rfl, hs, hd⟩ := els_ok R1 rep e
  have ee : vs.isEmpty = ds.isEmpty := by have := hd.length; cases vs <;> cases ds <;> simp_all
  refine ⟨!ds.isEmpty, ?_, k _ H1 F1 δ1 q1 R1 s1⟩
  rcases hs with hs | hs
  · exact .inl ⟨vs, hs, by rw [ee]⟩
  · exact .inr (.inl ⟨vs, hs, by rw [ee]⟩)
theorem d_chain {f f' : R2} (q : DE c ta δ fun x δ1 => DE c tb δ1 fun y δ2 => DO c f x.frz y.frz δ2 fun z δ3 => ∃ k, z = .fz (.bl k) ∧ if k = true then DE c tc δ3 fun w δ4 => DO c f' y.frz w.frz δ4 Q else Q (.fz (.bl false)) δ3) : DE c (tChain f f' ta tb tc) δ Q := fun σ H F QV R k =>
  de_frz (QV := fun x H1 => tb σ H1 fun y H2 => f x y H2 fun z H3 => ∃ k, z = .bl k ∧ (if k = true then tc σ H3 fun w' H4 => f' y w' H4 QV else QV (.bl false) H3)) q R fun v H1 F1 x δ1 q1 R1 s1 rep1 =>
    de_frz (QV := fun y H2 => f v y H2 fun z H3 => ∃ k, z = .bl k ∧ (if k = true then tc σ H3 fun w' H4 => f' y w' H4 QV else QV (.bl false) H3)) q1 R1 fun w H2 F2 y δ2 q2 R2 s2 rep2 =>
      q2 σ H2 F2 v w _ R2 (rep_keep rep1 (frz_frz _) s2) rep2 fun u H3 F3 z δ3 ⟨b, e, q3⟩ R3 s3 rep3 => by
        subst e
        cases rep3
        refine ⟨b, rfl, ?_⟩
        cases b with
        | true =>
          exact de_frz (QV := fun w' H4 => f' w w' H4 QV) q3 R3 fun w' H4 F4 w2 δ4 q4 R4 s4 rep4 => q4 σ H4 F4 w w' QV R4 (rep_keep rep2 (frz_frz _) (s3.trans s4)) rep4 fun v' H' F' r δ' q' R' s' => k v' H' F' r δ' q' R' (((s1.trans s2).trans s3).trans (s4.trans s'))
        | false => exact k _ H3 F3 _ δ3 q3 R3 ((s1.trans s2).trans s3) (Dp.bl _)
theorem d_augI {f : Int → Int → Int} {n : Int} (hi : δ[i]? = some (.fz (.int n))) (q : DE c te δ fun y δ1 => ∃ m, y = .fz (.int m) ∧ P.nx (δ1.set i (.fz (.int (f n m))))) : DS c (tAug i te (ipI f)) δ P := fun σ H F E R k => by
  obtain ⟨v, h1, h2⟩ := R.fz i _ hi
  cases h2
  refine ⟨_, h1, q σ H F _ R fun w H1 F1 y δ1 ⟨m, e, q1⟩ R1 s1 rep => ?_⟩
  subst e
  cases rep
  exact ⟨n, m, rfl, rfl, k.nx _ H1 F1 _ q1 (R1.setFz (.int _)) s1⟩
theorem i_nT {A B : Prop} (q : A) : if (!false) = true then A else B := q
theorem i_nF {A B : Prop} (q : B) : if (!true) = true then A else B := q
theorem d_small {n : Nat} (h : Nat.ble n sizeLine = true) : n ≤ sizeLine := Nat.le_of_ble_eq_true h
theorem d_bl {b : Bool} {S : Bool → Prop} (q : S b) : ∃ b', R.fz (D.bl b) = .fz (.bl b') ∧ S b' := ⟨b, rfl, q⟩
theorem d_blI {n : Int} {S : Int → Prop} (q : S n) : ∃ n', R.fz (D.int n) = .fz (.int n') ∧ S n' := ⟨n, rfl, q⟩
theorem d_mk {rs : List R} {S : List D → Prop} (h : fzs rs = some ds) (l : Nat.ble ds.length sizeLine = true) (q : S ds) : ∃ ds, fzs rs = some ds ∧ ds.length ≤ sizeLine ∧ S ds := ⟨ds, h, d_small l, q⟩
theorem d_par2 {S : D → D → Prop} (hx : x = .fz d) (hy : y = .fz e) (q : S d e) : ∃ d e, [x, y] = [.fz d, .fz e] ∧ S d e := ⟨d, e, by rw [hx, hy], q⟩
theorem d_par3x {z : R} {d3 : D} {S : D → D → D → Prop} (hx : x = .fz d) (hy : y = .fz e) (hz : z = .fz d3) (q : S d e d3) : ∃ d e f, [x, y, z] = [.fz d, .fz e, .fz f] ∧ S d e f := ⟨d, e, d3, by rw [hx, hy, hz], q⟩
/-! ### what a def gives: one end -/
inductive Out where
  | ret (d : D)
  | lst (l : List D)
  | exc (x : Str)
def OutR : Out → R → Prop
  | .ret d, r => r = .fz d
  | .lst l, r => ∃ a, r = .nw (.fl a l)
  | .exc _, _ => False
def OutX (K : PySem.W.Frag) : Out → Addr → Prop
  | .exc x, C => C = He.ga K x
  | _, _ => False
/-- called with told data it gives one told thing, and changes nothing -/
def spO (K : PySem.W.Frag) (S : List D → Out → Prop) : DSp := fun as P => ∃ ds out, as = ds.map Ar.fz ∧ S ds out ∧ P = ⟨fun r os => os = [] ∧ OutR out r, fun C os => os = [] ∧ OutX K out C⟩
theorem len_spO {S : List D → Out → Prop} {n : Nat} (h : ∀ ds out, S ds out → ds.length = n) : ∀ vs H Q E, toSp g (spO g.K S) vs H Q E → vs.length = n := len_toSp fun as P ⟨ds, out, e, s, _⟩ => by rw [e, List.length_map]; exact h ds out s
theorem sl_fz (ds : List D) : (ds.map Ar.fz).map Ar.sl = ds.map Sl.fz := by rw [List.map_map]; rfl
theorem muAt_fz : ∀ (ds : List D) (δ : List Sl), MuAt (ds.map Ar.fz) δ []
  | [], _ => rfl
  | _ :: ds, δ => muAt_fz ds δ.tail
/-- its body -/
theorem d_startO {t : TS} {N : List Str} {Q : VK} {E : XK} {vs : List V} {S : List D → Out → Prop} (h : toSp g (spO g.K S) vs H Q E)
    (q : ∀ ds out, S ds out → ∀ (c : Cn g), XOk c (WF E) (fun C _ => OutX g.K out C) → c.M = [] →
      DS c t (ds.map Sl.fz ++ List.replicate (N.length - ds.length) .no) { nx := fun _ => OutR out (.fz .non), rt := fun r _ => OutR out r }) :
    t { nx := fun _ H' => Q .non H', rt := Q } (L2.start N vs) H := by
  refine d_start h fun as P ⟨ds, out, e, s, eP⟩ c hx hM => ?_
  subst e; subst eP
  rw [sl_fz, List.length_map]
  refine (q ds out s c (fun C σ H F δ R z => hx C σ H F δ R ⟨[], muAt_fz ds δ, rfl, z⟩) (by rw [hM, muA_fz])).imp (fun δ z => ⟨[], muAt_fz ds δ, rfl, z⟩) (fun r δ z => ⟨?_, [], muAt_fz ds δ, rfl, z⟩) (fun _ z => z) (fun _ z => z)
  cases out with
  | ret d => cases z; rfl
  | lst l => obtain ⟨a, z⟩ := z; cases z; rfl
  | exc x => exact z.elim
theorem args_fz {rs : List R} : ∀ {rs : List R} {ds : List D}, fzs rs = some ds → argsOf δ rs = some (ds.map Ar.fz) ∧ muI rs = []
  | [], _, e => by simp only [fzs, Option.some.injEq] at e; subst e; exact ⟨rfl, rfl⟩
  | .fz d :: rs, ds, e => by
    simp only [fzs, Option.map_eq_some_iff] at e
    obtain ⟨q, e1, e2⟩ := e
    subst e2
    obtain ⟨h1, h2⟩ := args_fz (rs := rs) e1
    exact ⟨by simp only [argsOf, h1, Option.map_some, List.map_cons], h2⟩
  | .bw _ :: _, _, e => by simp [fzs] at e
  | .nw _ :: _, _, e => by simp [fzs] at e
  | .rf _ :: _, _, e => by simp [fzs] at e
theorem d_callO {S : List D → Out → Prop} {W : WX} {Ex : Addr → List Sl → Prop} (hx : XOk c W Ex) (q : DA c tr δ fun rs δ1 => ∃ ds out, fzs rs = some ds ∧ S ds out ∧ (∀ r, OutR out r → Q r δ1) ∧ ∀ C, OutX g.K out C → Ex C δ1) : DE c (tCallS (toSp g (spO g.K S)) (WE W) tr) δ Q := by
  refine d_call hx fun σ H F QV R k => q σ H F QV R fun vs H' F' rs δ' ⟨ds, out, e, s, k1, k2⟩ R' s' rep => ?_
  obtain ⟨h1, h2⟩ := args_fz (δ := δ') (rs := rs) e
  exact k vs H' F' rs δ' ⟨_, _, h1, h2, ⟨ds, out, rfl, s, rfl⟩, fun r z => k1 r z.2, fun C z => k2 C z.2⟩ R' s' rep
/-- it returns -/
theorem d_callR {S : List D → Out → Prop} {W : WX} {Ex : Addr → List Sl → Prop} (hx : XOk c W Ex) (q : DA c tr δ fun rs δ1 => ∃ ds d, fzs rs = some ds ∧ S ds (.ret d) ∧ Q (.fz d) δ1) : DE c (tCallS (toSp g (spO g.K S)) (WE W) tr) δ Q :=
  d_callO hx fun σ H F QV R k => q σ H F QV R fun vs H' F' rs δ' ⟨ds, d, e, s, k1⟩ R' s' rep => k vs H' F' rs δ' ⟨ds, _, e, s, fun r z => by rw [show r = .fz d from z]; exact k1, fun C z => z.elim⟩ R' s' rep
theorem d_callL {S : List D → Out → Prop} {W : WX} {Ex : Addr → List Sl → Prop} (hx : XOk c W Ex) (q : DA c tr δ fun rs δ1 => ∃ ds l, fzs rs = some ds ∧ S ds (.lst l) ∧ ∀ a, Q (.nw (.fl a l)) δ1) : DE c (tCallS (toSp g (spO g.K S)) (WE W) tr) δ Q :=
  d_callO hx fun σ H F QV R k => q σ H F QV R fun vs H' F' rs δ' ⟨ds, l, e, s, k1⟩ R' s' rep => k vs H' F' rs δ' ⟨ds, _, e, s, fun r ⟨a, z⟩ => by rw [z]; exact k1 a, fun C z => z.elim⟩ R' s' rep
/-- it raises -/
theorem d_callX {S : List D → Out → Prop} {W : WX} {Ex : Addr → List Sl → Prop} (hx : XOk c W Ex) (q : DA c tr δ fun rs δ1 => ∃ ds x, fzs rs = some ds ∧ S ds (.exc x) ∧ Ex (He.ga g.K x) δ1) : DE c (tCallS (toSp g (spO g.K S)) (WE W) tr) δ Q :=
  d_callO hx fun σ H F QV R k => q σ H F QV R fun vs H' F' rs δ' ⟨ds, x, e, s, k1⟩ R' s' rep => k vs H' F' rs δ' ⟨ds, _, e, s, fun r z => z.elim, fun C z => by rw [show C = _ from z]; exact k1⟩ R' s' rep
/-! what a slot holds alone is given out -/
theorem d_retO {M : List Addr} (hi : δ[i]? = some (.ow o)) (hM : c.M = M) (n : M = [] ∨ ∃ j oj, j ≠ i ∧ δ[j]? = some (Sl.ow oj) ∧ M = oj.adrs) (q : P.rt (.nw o) (δ.set i .no)) : DS c (tRet (tVar i)) δ P := fun σ H F E R k => by
  obtain ⟨v, h1, h2⟩ := R.ow i o hi
  have nd := nd_at R hi
  refine ⟨v, h1, k.rt σ v H F _ _ q ?_ (Same.refl F) ⟨h2, nd, fun a m => ?_⟩⟩
  · have hl := at_lt hi
    refine ⟨R.sub, R.fr, R.fr2, R.ff, by rw [List.length_set]; exact R.len, fun k d e => ?_, fun k o' e => ?_, R.nd.sublist (sub_no δ i), fun a m => R.fa a ((sub_no δ i).subset m), R.lb, fun k a e => ?_⟩
    · by_cases z : i = k
      · subst z; rw [List.getElem?_set, if_pos rfl, if_pos hl] at e; cases e
      · rw [List.getElem?_set_ne z] at e; exact R.fz k d e
    · by_cases z : i = k
      · subst z; rw [List.getElem?_set, if_pos rfl, if_pos hl] at e; cases e
      · rw [List.getElem?_set_ne z] at e; exact R.ow k o' e
    · by_cases z : i = k
      · subst z; rw [List.getElem?_set, if_pos rfl, if_pos hl] at e; cases e
      · rw [List.getElem?_set_ne z] at e; exact R.rf k a e
  · obtain ⟨z1, z2⟩ := R.fa a (mem_adS hi m)
    refine ⟨z1, z2.resolve_right fun z => ?_⟩
    rw [hM] at z
    rcases n with n | ⟨j, oj, ne, hj, e⟩
    · rw [n] at z; cases z
    · rw [e] at z
      have : a ∈ adS (δ.set i .no) := mem_adS (i := j) (o := oj) (by rw [List.getElem?_set_ne ne.symm]; exact hj) z
      exact (List.nodup_append.mp nd).2.2 a m a this rfl
/-! isinstance, by kinds -/
theorem kit_int : ∀ n ∈ ["NoneType", "bool", "int", "str", "list", "tuple", "dict"], kitB n "int" = some (n == "int" || n == "bool") := by decide +kernel
theorem kit_bool : ∀ n ∈ ["NoneType", "bool", "int", "str", "list", "tuple", "dict"], kitB n "bool" = some (n == "bool") := by decide +kernel
theorem kit_tuple : ∀ n ∈ ["NoneType", "bool", "int", "str", "list", "tuple", "dict"], kitB n "tuple" = some (n == "tuple") := by decide +kernel
theorem kit_str : ∀ n ∈ ["NoneType", "bool", "int", "str", "list", "tuple", "dict"], kitB n "str" = some (n == "str") := by decide +kernel
theorem kit_list : ∀ n ∈ ["NoneType", "bool", "int", "str", "list", "tuple", "dict"], kitB n "list" = some (n == "list") := by decide +kernel
theorem kit_dict : ∀ n ∈ ["NoneType", "bool", "int", "str", "list", "tuple", "dict"], kitB n "dict" = some (n == "dict") := by decide +kernel
/-- of a kind that isinstance is asked of -/
def D.pl : D → Bool
  | .ob _ _ => false
  | .tyN _ => false
  | .dn _ => false
  | _ => true
def D.isKi : D → Bool
  | .int _ => true
  | .bl _ => true
  | _ => false
theorem d_isKi (hx : x.dat δ = some d) (hp : d.pl = true) (hy : y = .fz (.tyN "int")) (q : Q (.fz (.bl d.isKi)) δ) : DC c (rIsD g.K) [x, y] δ Q := by
  subst hy
  refine d_isinst hx ?_ q
  cases d <;> first | (simp [D.pl] at hp; done) | (simp only [D.isT, D.ty, D.isKi]; rw [kit_int _ (by decide)]; decide)
theorem d_isKiT (hx : x.dat δ = some d) (hp : d.pl = true) (hb : d.isKi = true) (hy : y = .fz (.tyN "int")) (q : Q (.fz (.bl true)) δ) : DC c (rIsD g.K) [x, y] δ Q := d_isKi hx hp hy (by rw [hb]; exact q)
theorem d_isKiF (hx : x.dat δ = some d) (hp : d.pl = true) (hb : d.isKi = false) (hy : y = .fz (.tyN "int")) (q : Q (.fz (.bl false)) δ) : DC c (rIsD g.K) [x, y] δ Q := d_isKi hx hp hy (by rw [hb]; exact q)
def D.isKb : D → Bool
  | .bl _ => true
  | _ => false
theorem d_isKb (hx : x.dat δ = some d) (hp : d.pl = true) (hy : y = .fz (.tyN "bool")) (q : Q (.fz (.bl d.isKb)) δ) : DC c (rIsD g.K) [x, y] δ Q := by
  subst hy
  refine d_isinst hx ?_ q
  cases d <;> first | (simp [D.pl] at hp; done) | (simp only [D.isT, D.ty, D.isKb]; rw [kit_bool _ (by decide)]; decide)
theorem d_isKbT (hx : x.dat δ = some d) (hp : d.pl = true) (hb : d.isKb = true) (hy : y = .fz (.tyN "bool")) (q : Q (.fz (.bl true)) δ) : DC c (rIsD g.K) [x, y] δ Q := d_isKb hx hp hy (by rw [hb]; exact q)
theorem d_isKbF (hx : x.dat δ = some d) (hp : d.pl = true) (hb : d.isKb = false) (hy : y = .fz (.tyN "bool")) (q : Q (.fz (.bl false)) δ) : DC c (rIsD g.K) [x, y] δ Q := d_isKb hx hp hy (by rw [hb]; exact q)
def D.isKt : D → Bool
  | .tup _ => true
  | _ => false
theorem d_isKt (hx : x.dat δ = some d) (hp : d.pl = true) (hy : y = .fz (.tyN "tuple")) (q : Q (.fz (.bl d.isKt)) δ) : DC c (rIsD g.K) [x, y] δ Q := by
  subst hy
  refine d_isinst hx ?_ q
  cases d <;> first | (simp [D.pl] at hp; done) | (simp only [D.isT, D.ty, D.isKt]; rw [kit_tuple _ (by decide)]; decide)
theorem d_isKtT (hx : x.dat δ = some d) (hp : d.pl = true) (hb : d.isKt = true) (hy : y = .fz (.tyN "tuple")) (q : Q (.fz (.bl true)) δ) : DC c (rIsD g.K) [x, y] δ Q := d_isKt hx hp hy (by rw [hb]; exact q)
theorem d_isKtF (hx : x.dat δ = some d) (hp : d.pl = true) (hb : d.isKt = false) (hy : y = .fz (.tyN "tuple")) (q : Q (.fz (.bl false)) δ) : DC c (rIsD g.K) [x, y] δ Q := d_isKt hx hp hy (by rw [hb]; exact q)
def D.isKs : D → Bool
  | .str _ => true
  | _ => false
theorem d_isKs (hx : x.dat δ = some d) (hp : d.pl = true) (hy : y = .fz (.tyN "str")) (q : Q (.fz (.bl d.isKs)) δ) : DC c (rIsD g.K) [x, y] δ Q := by
  subst hy
  refine d_isinst hx ?_ q
  cases d <;> first | (simp [D.pl] at hp; done) | (simp only [D.isT, D.ty, D.isKs]; rw [kit_str _ (by decide)]; decide)
theorem d_isKsT (hx : x.dat δ = some d) (hp : d.pl = true) (hb : d.isKs = true) (hy : y = .fz (.tyN "str")) (q : Q (.fz (.bl true)) δ) : DC c (rIsD g.K) [x, y] δ Q := d_isKs hx hp hy (by rw [hb]; exact q)
theorem d_isKsF (hx : x.dat δ = some d) (hp : d.pl = true) (hb : d.isKs = false) (hy : y = .fz (.tyN "str")) (q : Q (.fz (.bl false)) δ) : DC c (rIsD g.K) [x, y] δ Q := d_isKs hx hp hy (by rw [hb]; exact q)
def D.isKl : D → Bool
  | .lst _ => true
  | .ro _ => true
  | _ => false
theorem d_isKl (hx : x.dat δ = some d) (hp : d.pl = true) (hy : y = .fz (.tyN "list")) (q : Q (.fz (.bl d.isKl)) δ) : DC c (rIsD g.K) [x, y] δ Q := by
  subst hy
  refine d_isinst hx ?_ q
  cases d <;> first | (simp [D.pl] at hp; done) | (simp only [D.isT, D.ty, D.isKl]; rw [kit_list _ (by decide)]; decide)
theorem d_isKlT (hx : x.dat δ = some d) (hp : d.pl = true) (hb : d.isKl = true) (hy : y = .fz (.tyN "list")) (q : Q (.fz (.bl true)) δ) : DC c (rIsD g.K) [x, y] δ Q := d_isKl hx hp hy (by rw [hb]; exact q)
theorem d_isKlF (hx : x.dat δ = some d) (hp : d.pl = true) (hb : d.isKl = false) (hy : y = .fz (.tyN "list")) (q : Q (.fz (.bl false)) δ) : DC c (rIsD g.K) [x, y] δ Q := d_isKl hx hp hy (by rw [hb]; exact q)
def D.isKd : D → Bool
  | .dk _ => true
  | .dt _ => true
  | .dn _ => true
  | _ => false
theorem d_isKd (hx : x.dat δ = some d) (hp : d.pl = true) (hy : y = .fz (.tyN "dict")) (q : Q (.fz (.bl d.isKd)) δ) : DC c (rIsD g.K) [x, y] δ Q := by
  subst hy
  refine d_isinst hx ?_ q
  cases d <;> first | (simp [D.pl] at hp; done) | (simp only [D.isT, D.ty, D.isKd]; rw [kit_dict _ (by decide)]; decide)
theorem d_isKdT (hx : x.dat δ = some d) (hp : d.pl = true) (hb : d.isKd = true) (hy : y = .fz (.tyN "dict")) (q : Q (.fz (.bl true)) δ) : DC c (rIsD g.K) [x, y] δ Q := d_isKd hx hp hy (by rw [hb]; exact q)
theorem d_isKdF (hx : x.dat δ = some d) (hp : d.pl = true) (hb : d.isKd = false) (hy : y = .fz (.tyN "dict")) (q : Q (.fz (.bl false)) δ) : DC c (rIsD g.K) [x, y] δ Q := d_isKd hx hp hy (by rw [hb]; exact q)
theorem d_isNT (hx : x.dat δ = some d) (hy : y = .fz .non) (hb : d.isN = true) (q : Q (.fz (.bl true)) δ) : DO c rIsN x y δ Q := d_isN hx hy (by rw [hb]; exact q)
theorem d_isNF (hx : x.dat δ = some d) (hy : y = .fz .non) (hb : d.isN = false) (q : Q (.fz (.bl false)) δ) : DO c rIsN x y δ Q := d_isN hx hy (by rw [hb]; exact q)
theorem d_notNT (hx : x.dat δ = some d) (hy : y = .fz .non) (hb : d.isN = true) (q : Q (.fz (.bl false)) δ) : DO c rNotN x y δ Q := d_notN hx hy (by rw [hb]; exact q)
theorem d_notNF (hx : x.dat δ = some d) (hy : y = .fz .non) (hb : d.isN = false) (q : Q (.fz (.bl true)) δ) : DO c rNotN x y δ Q := d_notN hx hy (by rw [hb]; exact q)
theorem d_eqI {n m : Int} (hx : x = .fz (.int n)) (hy : y = .fz (.int m)) (q : Q (.fz (.bl (decide (n = m)))) δ) : DO c rEq x y δ Q := d_eq hx hy rfl q
theorem d_neI {n m : Int} (hx : x = .fz (.int n)) (hy : y = .fz (.int m)) (q : Q (.fz (.bl (!decide (n = m)))) δ) : DO c rNe x y δ Q := d_ne hx hy rfl q
theorem d_eqS {n m : Str} (hx : x = .fz (.str n)) (hy : y = .fz (.str m)) (q : Q (.fz (.bl (decide (n = m)))) δ) : DO c rEq x y δ Q := d_eq hx hy rfl q
theorem d_neS {n m : Str} (hx : x = .fz (.str n)) (hy : y = .fz (.str m)) (q : Q (.fz (.bl (!decide (n = m)))) δ) : DO c rNe x y δ Q := d_ne hx hy rfl q
theorem d_exT {S : List D → Prop} (q : S ds) : ∃ l, R.fz (D.tup ds) = .fz (.tup l) ∧ S l := ⟨ds, rfl, q⟩
theorem d_exL {S : List D → Prop} (h : lsFr x = some ds) (q : S ds) : ∃ l, lsFr x = some l ∧ S l := ⟨ds, h, q⟩
theorem d_exE {S : List D → Prop} (h : x.els δ = some ds) (q : S ds) : ∃ l, x.els δ = some l ∧ S l := ⟨ds, h, q⟩
theorem d_st {t : TS} {δ' : List Sl} (e : δ = δ') (q : DS c t δ' P) : DS c t δ P := by rw [e]; exact q
/-- a statement behind which a told state goes on -/
theorem d_cut {t u : TS} (M : List Sl → Prop) (h1 : DS c t δ { P with nx := M }) (h2 : ∀ δ', M δ' → DS c u δ' P) : DS c (Evl.tCut t u) δ P := fun σ H F E R k =>
  ⟨fun s h => ∃ F' δ', M δ' ∧ Rel c s h F' δ' ∧ Same F F', h1 σ H F _ R ⟨fun σ' H' F' δ' q R' s' => ⟨F', δ', q, R', s'⟩, k.rt, k.bk, k.ct⟩, fun s h ⟨F', δ', q, R', s'⟩ => h2 δ' q s h F' E R' (k.later s')⟩
/-- an expression behind which a told result goes on -/
theorem d_hold (M : R → List Sl → Prop) (h1 : DE c te δ M) (h2 : ∀ r δ', M r δ' → Q r δ') : DE c (KB.tHold te) δ Q := DE.imp h1 h2
end
end KD

set_option maxHeartbeats 4000000
/-! lists of lists that are changed -/
namespace KD
open PySem PySem.Spec PyProof.Rows L2 KB
section
variable {g : Gb} {c : Cn g} {σ : L2.St} {H F F' H' : Hp} {δ : List Sl} {v : V} {r x y : R} {ds es : List D} {d e : D} {o o2 : OD} {i j k : Nat} {Q : R → List Sl → Prop} {P : PD} {os : List OD}
theorem OwL.append : ∀ {vs ws : List V} {os qs : List OD}, OwL g H F vs os → OwL g H F ws qs → OwL g H F (vs ++ ws) (os ++ qs)
  | _, _, _, _, .nil, h => h
  | _, _, _, _, .cons a t, h => .cons a (OwL.append t h)
theorem OwL.length : ∀ {vs : List V} {os : List OD}, OwL g H F vs os → vs.length = os.length
  | _, _, .nil => rfl
  | _, _, .cons _ t => by simp only [List.length_cons, OwL.length t]
theorem adrsL_app (a b : List OD) : adrsL (a ++ b) = adrsL a ++ adrsL b := by
  induction a with
  | nil => rfl
  | cons o r ih => simp only [List.cons_append, adrsL, ih, List.append_assoc]
theorem OwL.get : ∀ {vs : List V} {os : List OD} {i : Nat} {o : OD}, OwL g H F vs os → os[i]? = some o → ∃ v, vs[i]? = some v ∧ Ow g H F v o
  | _, _, _, _, .nil, e => by simp at e
  | _, _, 0, _, .cons a _, e => by
    simp only [List.length_cons, Nat.zero_lt_succ, List.getElem?_eq_getElem, List.getElem_cons_zero, Option.some.injEq] at e
    subst e
    exact ⟨_, rfl, a⟩
  | _, _, i + 1, d, .cons _ t, e => by
    obtain ⟨v, h1, h2⟩ := OwL.get (i := i) (o := d) t (by simpa using e)
    exact ⟨v, by simpa using h1, h2⟩
theorem mem_adrsL : ∀ {os : List OD} {i : Nat} {o : OD} {a : Addr}, os[i]? = some o → a ∈ o.adrs → a ∈ adrsL os
  | [], _, _, _, e, _ => by simp at e
  | s :: r, 0, o, a, e, m => by
    simp only [List.length_cons, Nat.zero_lt_succ, List.getElem?_eq_getElem, List.getElem_cons_zero, Option.some.injEq] at e
    subst e
    simp [adrsL, m]
  | s :: r, i + 1, o, a, e, m => by
    have := mem_adrsL (i := i) (o := o) (a := a) (os := r) (by simpa using e) m
    simp [adrsL, this]
/-- [elt for .. ]: new things stay held alone -/
theorem d_lcN {wi : TI} {tg : TG} {tt : TT} {te : TE} {vs : List Nat} (hg : Only tg vs) (q : DI c wi δ fun n it ok δ1 => n ≤ sizeLine ∧ ∃ Iv : Nat → List OD → List Sl → Prop, Iv 0 [] δ1 ∧ (∀ i acc δ, Iv i acc δ → ok δ ∧ NoOw δ vs = true) ∧
    (∀ (c' : Cn g) i acc δ, i < n → Iv i acc δ → DG c' tg (.fz (it i)) (wipeD δ vs) fun δ2 => DT c' tt δ2 fun b δ3 => if b = true then DE c' te δ3 fun r δ4 => ∃ o, r = .nw o ∧ Iv (i + 1) (acc ++ [o]) (back δ δ4 vs) else Iv (i + 1) acc (back δ δ3 vs)) ∧
    ∀ p acc δ', Iv n acc δ' → Q (.nw (.nl p acc)) δ') : DE c (tLc wi tg tt te vs) δ Q := fun σ H F QV R k =>
  q σ H F _ R fun J H1 F1 n it ok δ1 ⟨hn, Iv, h0, hok, hs, hd⟩ R1 s1 I => by
    intro D hD
    obtain ⟨R1', n1, n2, n3⟩ := R1.newO (o := .lst []) hD
    refine ⟨fun i m h => ∃ F2 δ2 acc accV, m = n - i ∧ i ≤ n ∧ Rel c σ h F2 δ2 ∧ Same F1 F2 ∧ Iv i acc δ2 ∧ acc.length ≤ i ∧ h D = some (.lst accV) ∧ OwL g h F2 accV acc ∧ (adrsL acc).Nodup ∧ (∀ a ∈ adrsL acc, F2 a = none ∧ a ∉ adS δ2 ∧ c.H0 a = none ∧ a ≠ D) ∧ F2 D = none ∧ D ∉ adS δ2,
      ⟨n, F1, δ1, [], [], by omega, Nat.zero_le _, R1', Same.refl F1, h0, Nat.le_refl 0, upd_same, .nil, List.nodup_nil, (fun a m => nomatch m), n1, n3⟩, ?_⟩
    rintro i m h ⟨F2, δ2, acc, accV, rfl, hi, R2, s2, inv, hl, hD2, hacc, hnd, hfa, fD2, aD2⟩
    obtain ⟨hok2, hno⟩ := hok i acc δ2 inv
    by_cases hlt : i < n
    · refine .inr ⟨I.go i σ h F2 δ2 hlt R2 s2 hok2, fun h' => ∃ F3 δ3 acc accV, Rel c σ h' F3 δ3 ∧ Same F1 F3 ∧ Iv (i + 1) acc δ3 ∧ acc.length ≤ i + 1 ∧ h' D = some (.lst accV) ∧ OwL g h' F3 accV acc ∧ (adrsL acc).Nodup ∧ (∀ a ∈ adrsL acc, F3 a = none ∧ a ∉ adS δ3 ∧ c.H0 a = none ∧ a ≠ D) ∧ F3 D = none ∧ D ∉ adS δ3, ?_, ?_⟩
      · rintro h' ⟨F3, δ3, acc, accV, a1, a2, a3, a4, a5, a6, a7, a8, a9, a10⟩
        exact ⟨n - (i + 1), by omega, F3, δ3, acc, accV, rfl, hlt, a1, a2, a3, a4, a5, a6, a7, a8, a9, a10⟩
      · intro x h' y
        obtain ⟨F3, R3, s3, sH, kF, hx⟩ := I.yld i σ h F2 δ2 x h' hlt R2 s2 hok2 y
        have hD3 : h' D = some (.lst accV) := sH _ _ hD2
        have fD3 : F3 D = none := fx_none (kF D (by rw [hD2]; exact fun z => nomatch z)) fD2 R3.sub (by rw [hD3]; exact fun t z => nomatch z)
        have hasA : ∀ a ∈ adrsL acc, h a ≠ none := fun a m => OwL.has hacc a m
        have sA : ∀ a ∈ adrsL acc, h' a = h a := fun a m => by
          cases q : h a with
          | none => exact absurd q (hasA a m)
          | some u => exact sH _ _ q
        have Rin := rel_in R3 vs
        have nM : ∀ a, a ∉ adS δ2 → h' a ≠ none → ∀ (σ2 : L2.St) (H4 F4 : Hp) (δ4 : List Sl), Rel (⟨h', F3, F3, adS (wipeD δ2 vs)⟩ : Cn g) σ2 H4 F4 δ4 → H4 a = h' a ∧ Fx (F4 a) (F3 a) ∧ a ∉ adS δ4 := fun a n1 n2 σ2 H4 F4 δ4 R4 => by
          refine ⟨?_, R4.ff a n2, fun z => ?_⟩
          · cases q : h' a with
            | none => exact absurd q n2
            | some u => exact R4.fr a u q fun z => n1 ((wipeD_sub δ2 vs).subset z)
          · rcases (R4.fa a z).2 with q | q
            · exact n2 q
            · exact n1 ((wipeD_sub δ2 vs).subset q)
        have hD3n : h' D ≠ none := by rw [hD3]; exact fun z => nomatch z
        have fin : ∀ (σ2 : L2.St) (H4 F4 : Hp) (δ4 : List Sl), wipe σ2 vs = wipe σ vs → Rel (⟨h', F3, F3, adS (wipeD δ2 vs)⟩ : Cn g) σ2 H4 F4 δ4 →
            Rel c σ H4 F4 (back δ2 δ4 vs) ∧ Same F3 F4 ∧ H4 D = some (.lst accV) ∧ F4 D = none ∧ D ∉ adS (back δ2 δ4 vs) ∧ OwL g H4 F4 accV acc ∧ (∀ a ∈ adrsL acc, F4 a = none ∧ a ∉ adS (back δ2 δ4 vs) ∧ c.H0 a = none ∧ a ≠ D) := fun σ2 H4 F4 δ4 ew R4 => by
          obtain ⟨d1, d2, d3⟩ := nM D aD2 hD3n σ2 H4 F4 δ4 R4
          refine ⟨rel_out R3 hno R4 ew, R4.lb, d1.trans hD3, fx_none d2 fD3 R4.sub (by rw [d1.trans hD3]; exact fun t z => nomatch z), fun z => d3 ((back_sub hno).subset z), hacc.move (s3.trans R4.lb) fun a m => ?_, fun a m => ?_⟩
          · obtain ⟨q1, _, _⟩ := nM a (hfa a m).2.1 (by rw [sA a m]; exact hasA a m) σ2 H4 F4 δ4 R4
            exact q1.trans (sA a m)
          · obtain ⟨q1, q2, q3⟩ := nM a (hfa a m).2.1 (by rw [sA a m]; exact hasA a m) σ2 H4 F4 δ4 R4
            exact ⟨fx_none q2 (fx_none (kF a (hasA a m)) (hfa a m).1 R3.sub (by rw [sA a m]; exact OwL.nt hacc a m)) R4.sub (by rw [q1, sA a m]; exact OwL.nt hacc a m), fun z => q3 ((back_sub hno).subset z), (hfa a m).2.2⟩
        refine hg x (wipe σ vs) h' _ _ ?_ (hs ⟨h', F3, F3, adS (wipeD δ2 vs)⟩ i acc δ2 hlt inv (wipe σ vs) h' F3 x
          (fun σ2 H2 => wipe σ2 vs = wipe σ vs → tt σ2 H2 fun b H3 => if b = true then te σ2 H3 fun y H4 => ∃ acc, H4 D = some (.lst acc) ∧ acc.length < sizeLine ∧ ∃ F3 δ3 acc2 accV, Rel c σ (upd H4 D (.lst (acc ++ [y]))) F3 δ3 ∧ Same F1 F3 ∧ Iv (i + 1) acc2 δ3 ∧ acc2.length ≤ i + 1 ∧ upd H4 D (.lst (acc ++ [y])) D = some (.lst accV) ∧ OwL g (upd H4 D (.lst (acc ++ [y]))) F3 accV acc2 ∧ (adrsL acc2).Nodup ∧ (∀ a ∈ adrsL acc2, F3 a = none ∧ a ∉ adS δ3 ∧ c.H0 a = none ∧ a ≠ D) ∧ F3 D = none ∧ D ∉ adS δ3
            else ∃ F3 δ3 acc accV, Rel c σ H3 F3 δ3 ∧ Same F1 F3 ∧ Iv (i + 1) acc δ3 ∧ acc.length ≤ i + 1 ∧ H3 D = some (.lst accV) ∧ OwL g H3 F3 accV acc ∧ (adrsL acc).Nodup ∧ (∀ a ∈ adrsL acc, F3 a = none ∧ a ∉ adS δ3 ∧ c.H0 a = none ∧ a ≠ D) ∧ F3 D = none ∧ D ∉ adS δ3) Rin hx ?_)
        · intro σ2 H2 ew q
          have ew' : wipe σ2 vs = wipe σ vs := by
            rw [ew]
            refine List.ext_getElem? fun j => ?_
            rw [wipe_get, wipe_get]
            by_cases m : j ∈ vs
            · rw [if_pos m, if_pos m]; cases σ[j]? <;> rfl
            · rw [if_neg m, if_neg m]
          exact ⟨ew', q ew'⟩
        · intro σ2 H2 F4 δ3 q3 R4 s4 ew
          refine q3 σ2 H2 F4 _ R4 fun b H3 F5 δ4 q4 R5 s5 => ?_
          cases b with
          | true =>
            refine (show te σ2 H3 _ from q4 σ2 H3 F5 _ R5 fun y H4 F6 r δ5 ⟨o, er, q5⟩ R6 s6 rep => ?_)
            subst er
            obtain ⟨ow, ond, ofa⟩ := rep
            obtain ⟨Ro, sF, hD4, fD4, aD4, hacc4, hfa4⟩ := fin σ2 H4 F6 δ5 ew R6
            have hlen : accV.length = acc.length := hacc.length
            have oD : ∀ a ∈ o.adrs, a ≠ D := fun a m z => by
              have : h' a = none := (ofa a m).2
              rw [z] at this
              exact hD3n this
            have oA : ∀ a ∈ o.adrs, a ∉ adrsL acc := fun a m z => by
              have : h' a = none := (ofa a m).2
              exact absurd this (by rw [sA a z]; exact hasA a z)
            refine ⟨accV, hD4, by omega, F6, _, acc ++ [o], accV ++ [y], rel_off Ro n2 fD4 aD4, (s2.trans s3).trans sF, q5, by rw [List.length_append, List.length_singleton]; omega, upd_same,
              (hacc4.move (Same.refl F6) fun a m => upd_ne (hfa4 a m).2.2.2).append (.cons (ow.move (Same.refl F6) fun a m => upd_ne (oD a m)) .nil), ?_, fun a m => ?_, fD4, aD4⟩
            · rw [adrsL_app]
              simp only [adrsL, List.append_nil]
              exact List.nodup_append.mpr ⟨hnd, (List.nodup_append.mp ond).1, fun a m1 b m2 z => oA b m2 (by rw [← z]; exact m1)⟩
            · rw [adrsL_app] at m
              simp only [adrsL, List.append_nil, List.mem_append] at m
              rcases m with m | m
              · exact hfa4 a m
              · refine ⟨(ofa a m).1, fun z => (List.nodup_append.mp ond).2.2 a m a ((back_sub hno).subset z) rfl, ?_, oD a m⟩
                have : h' a = none := (ofa a m).2
                cases q : c.H0 a with
                | none => rfl
                | some u => exact absurd this (R3.fr2 a (by rw [q]; exact fun z => nomatch z))
          | false =>
            obtain ⟨Ro, sF, hD4, fD4, aD4, hacc4, hfa4⟩ := fin σ2 H3 F5 δ4 ew R5
            exact ⟨F5, _, acc, accV, Ro, (s2.trans s3).trans sF, q4, by omega, hD4, hacc4, hnd, hfa4, fD4, aD4⟩
    · have e : i = n := by omega
      subst e
      refine .inl ⟨I.stop σ h F2 δ2 R2 s2 hok2, k _ h F2 _ δ2 (hd D acc δ2 inv) R2 (s1.trans s2) ⟨.nl hD2 hacc, ?_, fun a m => ?_⟩⟩
      · simp only [OD.adrs, List.cons_append, List.nodup_cons, List.mem_append, not_or]
        exact ⟨⟨fun z => (hfa D z).2.2.2 rfl, aD2⟩, List.nodup_append.mpr ⟨hnd, R2.nd, fun a m1 b m2 z => (hfa a m1).2.1 (by rw [z]; exact m2)⟩⟩
      · simp only [OD.adrs, List.mem_cons] at m
        rcases m with m | m
        · subst m
          exact ⟨fD2, n2⟩
        · exact ⟨(hfa a m).1, (hfa a m).2.2.1⟩
/-- one of the lists, looked up -/
theorem nl_at {p : Addr} (R : Rel c σ H F δ) (hi : δ[i]? = some (.ow (.nl p os))) (hv : σ[i]? = some (some v)) : ∃ vs, v = .ref p ∧ H p = some (.lst vs) ∧ OwL g H F vs os := by
  obtain ⟨w, h1, h2⟩ := R.ow i _ hi
  rw [hv] at h1
  cases h1
  cases h2 with
  | nl h3 h4 => exact ⟨_, rfl, h3, h4⟩
theorem d_ixN {p a : Addr} {n : Int} (hx : x = .bw i) (hy : y = .fz (.int n)) (hi : δ[i]? = some (.ow (.nl p os))) (ha : atI os n = some o) (ho : o.root = some a) (q : Q (.rf a) δ) : DO c (rIx g.K) x y δ Q := fun σ H F v w QV R k1 k2 k => by
  subst hx; subst hy
  cases k2
  obtain ⟨vs, rfl, h1, h2⟩ := nl_at R hi k1
  unfold atI at ha
  cases e : ixN os.length n with
  | none => rw [e] at ha; cases ha
  | some j =>
    rw [e] at ha
    have ha : os[j]? = some o := ha
    obtain ⟨u, h3, h4⟩ := h2.get ha
    have eu := h4.root ho
    subst eu
    refine .inl ⟨p, vs, n, .ref a, rfl, rfl, .inl (.inl h1), ?_, k _ H F _ _ q R (Same.refl F) rfl⟩
    unfold atI
    rw [h2.length, e]
    exact h3
/-- one of the lists is changed -/
theorem adrsL_set : ∀ {os : List OD} {i : Nat} {o o2 : OD}, os[i]? = some o → o2.adrs = o.adrs → adrsL (os.set i o2) = adrsL os
  | [], _, _, _, e, _ => by simp at e
  | s :: r, 0, o, o2, e, m => by
    simp only [List.length_cons, Nat.zero_lt_succ, List.getElem?_eq_getElem, List.getElem_cons_zero, Option.some.injEq] at e
    subst e
    simp only [List.set_cons_zero, adrsL, m]
  | s :: r, i + 1, o, o2, e, m => by
    simp only [List.set_cons_succ, adrsL, adrsL_set (i := i) (o := o) (os := r) (by simpa using e) m]
theorem OwL.setAt {b : Addr} {u : HO} : ∀ {vs : List V} {os : List OD} {i : Nat} {o o2 : OD}, OwL g H F vs os → os[i]? = some o → (∀ v, Ow g H F v o → Ow g (upd H b u) F v o2) → b ∈ o.adrs → (adrsL os).Nodup → OwL g (upd H b u) F vs (os.set i o2)
  | _, _, _, _, _, .nil, e, _, _, _ => by simp at e
  | _, _, 0, o, o2, .cons a t, e, k, m, nd => by
    simp only [List.length_cons, Nat.zero_lt_succ, List.getElem?_eq_getElem, List.getElem_cons_zero, Option.some.injEq] at e
    subst e
    simp only [adrsL] at nd
    exact .cons (k _ a) (t.move (Same.refl F) fun z mz => upd_ne fun ez => (List.nodup_append.mp nd).2.2 b m z mz ez.symm)
  | _, s :: r, i + 1, o, o2, .cons a t, e, k, m, nd => by
    have e' : r[i]? = some o := by simpa using e
    simp only [adrsL] at nd
    have mb := mem_adrsL e' m
    refine .cons (a.move (Same.refl F) fun z mz => upd_ne fun ez => (List.nodup_append.mp nd).2.2 z mz b mb ez) ?_
    exact OwL.setAt t e' k m (List.nodup_append.mp nd).2.1
theorem d_appendN {p a : Addr} (hx : x = .rf a) (hy : y = .fz d) (hi : δ[i]? = some (.ow (.nl p os))) (ha : os[j]? = some (.fl a ds)) (hl : ds.length < sizeLine) (q : Q (.fz .non) (δ.set i (.ow (.nl p (os.set j (.fl a (ds ++ [d]))))))) : DM c rAppend x [y] δ Q := fun σ H F v vs QV R k1 k2 k => by
  subst hx; subst hy
  have k1 : v = .ref a := k1
  subst k1
  obtain ⟨w, rfl, hw⟩ := one_rep k2
  obtain ⟨v0, hv0, how⟩ := R.ow i _ hi
  cases how with
  | nl h1 h2 =>
    obtain ⟨u, h3, h4⟩ := h2.get ha
    cases h4 with
    | fl h5 h6 =>
      rename_i ws
      have ma : a ∈ (OD.fl a ds).adrs := by simp [OD.adrs]
      have ma2 := mem_adrsL ha ma
      have nd : (OD.nl p os).adrs.Nodup := (List.nodup_append.mp (nd_at R hi)).1
      simp only [OD.adrs, List.nodup_cons] at nd
      have hn : p ≠ a := fun z => nd.1 (by rw [z]; exact ma2)
      refine ⟨a, ws, w, rfl, rfl, h5, by rw [h6.length]; exact hl, k _ _ F _ _ q (R.chg1 hi (by simp [OD.adrs, ma2]) (by simp only [OD.adrs]; rw [adrsL_set (o2 := .fl a (ds ++ [d])) ha rfl]) fun v' hv' => ?_) (Same.refl F) .non⟩
      cases hv' with
      | nl h7 h8 =>
        refine .nl ((upd_ne hn).trans h7) (h8.setAt ha (fun v2 hv2 => ?_) ma nd.2)
        cases hv2 with
        | fl h9 h10 =>
          rw [h5] at h9
          cases h9
          exact .fl upd_same (h10.append (.cons hw .nil))
/-- a list that a method is asked of -/
def LsAt (δ : List Sl) (r : R) : Prop := (∃ ds, r.lsL δ = some ds) ∨ ∃ (a : Addr) (i : Nat) (p : Addr) (os : List OD) (j : Nat) (ds : List D), r = .rf a ∧ (δ[i]? = some (Sl.ow (.nl p os)) ∨ ∃ ks, δ[i]? = some (Sl.ow (.dl p ks os))) ∧ os[j]? = some (OD.fl a ds)
theorem lsAt_ok (R0 : Rel c σ H F δ) (k : RRep c σ H F δ v r) (e : LsAt δ r) : ∃ a ws, v = .ref a ∧ H a = some (.lst ws) := by
  rcases e with ⟨ds, e⟩ | ⟨a, i, p, os, j, ds, er, hi, hj⟩
  · obtain ⟨a, vs, h1, h2, _⟩ := lsL_ok R0 k e
    exact ⟨a, vs, h1, h2⟩
  · subst er
    have k : v = .ref a := k
    rcases hi with hi | ⟨ks, hi⟩
    · obtain ⟨v0, hv0, how⟩ := R0.ow i _ hi
      cases how with
      | nl h1 h2 =>
        obtain ⟨u, h3, h4⟩ := h2.get hj
        cases h4 with
        | fl h5 h6 => exact ⟨a, _, k, h5⟩
    · obtain ⟨v0, hv0, how⟩ := R0.ow i _ hi
      cases how with
      | dl h1 h2 h3 =>
        obtain ⟨u, h4, h5⟩ := h3.get hj
        cases h5 with
        | fl h6 h7 => exact ⟨a, _, k, h6⟩
theorem d_BMx {K : PySem.W.Frag} {f : V → List V → Hp → VK → Prop} {te : TE} {tr : TA} (hK : K = g.K) (q : DE c te δ fun x δ1 => LsAt δ1 x.frz ∧ DA c tr δ1 fun xs δ2 => DM c f x.frz xs δ2 Q) : DE c (tBM K "list" f te tr) δ Q := fun σ H F QV R k => by
  subst hK
  refine de_frz (QV := fun x H1 => tyV g.K "list" x H1 ∧ tr σ H1 fun xs H2 => f x xs H2 QV) q R fun v H1 F1 x δ1 ⟨e, q1⟩ R1 s1 rep1 => ?_
  obtain ⟨a, ws, rfl, h1⟩ := lsAt_ok R1 rep1 e
  refine ⟨.inl ⟨rfl, _, .inl (.inl h1)⟩, q1 σ H1 F1 _ R1 fun us H2 F2 xs δ2 q2 R2 s2 rep2 => ?_⟩
  exact q2 σ H2 F2 _ us QV R2 (rep_keep rep1 (frz_frz _) s2) rep2 fun v' H' F' r δ' q' R' s' => k v' H' F' r δ' q' R' ((s1.trans s2).trans s')
theorem d_BM0x {K : PySem.W.Frag} {f : V → List V → Hp → VK → Prop} {te : TE} (hK : K = g.K) (q : DE c te δ fun x δ1 => LsAt δ1 x.frz ∧ DM c f x.frz [] δ1 Q) : DE c (tBM0 K "list" f te) δ Q := fun σ H F QV R k => by
  subst hK
  refine de_frz (QV := fun x H1 => tyV g.K "list" x H1 ∧ f x [] H1 QV) q R fun v H1 F1 x δ1 ⟨e, q1⟩ R1 s1 rep1 => ?_
  obtain ⟨a, ws, rfl, h1⟩ := lsAt_ok R1 rep1 e
  exact ⟨.inl ⟨rfl, _, .inl (.inl h1)⟩, q1 σ H1 F1 _ [] QV R1 rep1 .nil fun v' H' F' r δ' q' R' s' => k v' H' F' r δ' q' R' (s1.trans s')⟩
theorem d_bm {A : Prop} (h : x.lsL δ = some ds) (q : A) : LsAt δ x ∧ A := ⟨.inl ⟨ds, h⟩, q⟩
theorem d_bmR {A : Prop} {a p : Addr} (hi : δ[i]? = some (Sl.ow (.nl p os))) (hj : os[j]? = some (OD.fl a ds)) (q : A) : LsAt δ (.rf a) ∧ A := ⟨.inr ⟨a, i, p, os, j, ds, rfl, .inl hi, hj⟩, q⟩
theorem d_bmD {A : Prop} {a p : Addr} {ks : List Key} (hi : δ[i]? = some (Sl.ow (.dl p ks os))) (hj : os[j]? = some (OD.fl a ds)) (q : A) : LsAt δ (.rf a) ∧ A := ⟨.inr ⟨a, i, p, os, j, ds, rfl, .inr ⟨ks, hi⟩, hj⟩, q⟩
/-- given out: the lists in it frozen -/
theorem d_retN2 {p : Addr} {M : List Addr} (hi : δ[i]? = some (.ow (.nl p os))) (hM : c.M = M) (n : M = [] ∨ ∃ j oj, j ≠ i ∧ δ[j]? = some (Sl.ow oj) ∧ M = oj.adrs) (q : P.rt (.nw (.fl p (dataL os))) (δ.set i .no)) : DS c (tRet (tVar i)) δ P := by
  refine (d_retO (P := { P with rt := fun r δ' => r = .nw (.nl p os) ∧ δ' = δ.set i .no }) hi hM n ⟨rfl, rfl⟩ : DS c (tRet (tVar i)) δ _) |> fun h => ?_
  intro σ H F E R k
  refine h σ H F E R ⟨k.nx, fun σ' v H' F' r δ' ⟨er, ed⟩ R' s rep => ?_, k.bk, k.ct⟩
  subst er; subst ed
  obtain ⟨w, nd, fa⟩ := rep
  cases w with
  | nl h1 h2 =>
    simp only [OD.adrs, List.cons_append, List.nodup_cons, List.mem_append, not_or] at nd
    have fa' : ∀ a ∈ adrsL os, F' a = none ∧ c.H0 a = none := fun a m => fa a (by simp [OD.adrs, m])
    have fp := fa p (by simp [OD.adrs])
    have s2 : Same F' (ext F' H' (adrsL os)) := fun a u e => by
      by_cases m : a ∈ adrsL os
      · rw [(fa' a m).1] at e; cases e
      · rw [ext_out m]; exact e
    have R2 : Rel c σ' H' (ext F' H' (adrsL os)) (δ.set i .no) := R'.grow s2 (fun a u e => by
      by_cases m : a ∈ adrsL os
      · rw [ext_in m] at e; exact e
      · rw [ext_out m] at e; exact R'.sub a u e) (fun a z => by
      by_cases m : a ∈ adrsL os
      · exact absurd (fa' a m).2 z
      · exact .inl (ext_out m)) (fun a m => by
      have : a ∉ adrsL os := fun z => (List.nodup_append.mp nd.2).2.2 a z a m rfl
      rw [ext_out this]
      exact (R'.fa a m).1)
    refine k.rt σ' _ H' _ _ _ q R2 (s.trans s2) ⟨.fl h1 (h2.frz s2 fun a m => ext_in m), ?_, fun a m => ?_⟩
    · simp only [OD.adrs, List.singleton_append, List.nodup_cons]
      exact ⟨nd.1.2, R2.nd⟩
    · simp only [OD.adrs, List.mem_singleton] at m
      subst m
      exact ⟨by rw [ext_out nd.1.1]; exact fp.1, fp.2⟩
end
end KD

set_option maxHeartbeats 4000000
/-! dicts by data -/
namespace KD
open PySem PySem.Spec PyProof.Rows L2 KB
section
variable {κ : Type} [DecidableEq κ]
def valD (m : List (κ × D)) (k : κ) : Option D := (m.find? fun p => decide (p.1 = k)).map (·.2)
def putD (m : List (κ × D)) (k : κ) (d : D) : List (κ × D) :=
  if (m.any fun p => decide (p.1 = k)) = true then m.map (fun p => if p.1 = k then (p.1, d) else p) else m ++ [(k, d)]
def dropD (m : List (κ × D)) (k : κ) : List (κ × D) := m.filter fun p => decide (p.1 ≠ k)
theorem valD_nil {k : κ} : valD ([] : List (κ × D)) k = none := rfl
theorem valD_cons (p : κ × D) (m : List (κ × D)) (k : κ) : valD (p :: m) k = if p.1 = k then some p.2 else valD m k := by
  unfold valD
  rw [List.find?_cons]
  by_cases h : p.1 = k
  · rw [if_pos h]; simp [h]
  · rw [if_neg h]; simp [h]
theorem valD_any (m : List (κ × D)) (k : κ) : (m.any fun p => decide (p.1 = k)) = (valD m k).isSome := by
  induction m with
  | nil => rfl
  | cons p r ih =>
    rw [List.any_cons, valD_cons]
    by_cases h : p.1 = k
    · rw [if_pos h, decide_eq_true h]; rfl
    · rw [if_neg h, decide_eq_false h, Bool.false_or]; exact ih
theorem valD_map (m : List (κ × D)) (k j : κ) (d : D) : valD (m.map fun p => if p.1 = k then (p.1, d) else p) j = (valD m j).map fun x => if j = k then d else x := by
  induction m with
  | nil => rfl
  | cons p r ih =>
    rw [List.map_cons, valD_cons, valD_cons, ih]
    by_cases h : p.1 = k
    · rw [if_pos h]
      by_cases h2 : p.1 = j
      · rw [if_pos h2, if_pos h2, Option.map_some, if_pos (h2 ▸ h)]
      · rw [if_neg h2, if_neg h2]
    · rw [if_neg h]
      by_cases h2 : p.1 = j
      · rw [if_pos h2, if_pos h2, Option.map_some, if_neg (h2 ▸ h)]
      · rw [if_neg h2, if_neg h2]
theorem valD_snoc (m : List (κ × D)) (k j : κ) (d : D) (h : valD m k = none) : valD (m ++ [(k, d)]) j = if j = k then some d else valD m j := by
  induction m with
  | nil =>
    rw [List.nil_append, valD_cons]
    by_cases e : k = j
    · rw [if_pos e, if_pos e.symm]
    · rw [if_neg e, if_neg fun z => e z.symm]
  | cons p r ih =>
    rw [valD_cons] at h
    by_cases h1 : p.1 = k
    · rw [if_pos h1] at h; cases h
    · rw [if_neg h1] at h
      rw [List.cons_append, valD_cons, valD_cons, ih h]
      by_cases h2 : p.1 = j
      · rw [if_pos h2, if_pos h2, if_neg fun z => h1 (h2.trans z)]
      · rw [if_neg h2, if_neg h2]
theorem valD_put (m : List (κ × D)) (k j : κ) (d : D) : valD (putD m k d) j = if j = k then some d else valD m j := by
  unfold putD
  rw [valD_any]
  cases h : valD m k with
  | none => rw [if_neg (by simp)]; exact valD_snoc m k j d h
  | some x =>
    rw [if_pos (by simp), valD_map]
    by_cases e : j = k
    · rw [if_pos e, e, h, Option.map_some, if_pos rfl]
    · rw [if_neg e]
      cases valD m j with
      | none => rfl
      | some y => rw [Option.map_some, if_neg e]
theorem len_putD (m : List (κ × D)) (k : κ) (d : D) : (putD m k d).length ≤ m.length + 1 := by
  unfold putD
  split
  · rw [List.length_map]; omega
  · rw [List.length_append]; exact Nat.le_refl _
variable {g : Gb} {F : Hp}
/-- the pairs of a dict, in data -/
def KM2 (g : Gb) (F : Hp) (kvs : List (κ × V)) (m : List (κ × D)) : Prop := kvs.map (·.1) = m.map (·.1) ∧ DpL g F (kvs.map (·.2)) (m.map (·.2))
theorem km_val : ∀ {kvs : List (κ × V)} {m : List (κ × D)} {k : κ}, KM2 g F kvs m → (valV kvs k = none ∧ valD m k = none) ∨ ∃ v d, valV kvs k = some v ∧ valD m k = some d ∧ Dp g F v d
  | [], [], k, _ => .inl ⟨rfl, rfl⟩
  | [], _ :: _, k, h => by simp [KM2] at h
  | _ :: _, [], k, h => by simp [KM2] at h
  | p :: r, q :: t, k, ⟨h1, h2⟩ => by
    simp only [List.map_cons, List.cons.injEq] at h1
    simp only [List.map_cons] at h2
    cases h2 with
    | cons h2 h3 =>
      rw [valD_cons]
      by_cases e : q.1 = k
      · rw [if_pos e, valV_pos (h1.1.trans e)]
        exact .inr ⟨_, _, rfl, rfl, h2⟩
      · rw [if_neg e, valV_neg (fun z => e (h1.1.symm.trans z))]
        exact km_val ⟨h1.2, h3⟩
theorem km_some {kvs : List (κ × V)} {m : List (κ × D)} {k : κ} {d : D} (h : KM2 g F kvs m) (e : valD m k = some d) : ∃ v, valV kvs k = some v ∧ Dp g F v d := by
  rcases km_val (k := k) h with ⟨_, z⟩ | ⟨v, d', h1, h2, h3⟩
  · rw [e] at z; cases z
  · rw [e] at h2; cases h2; exact ⟨v, h1, h3⟩
theorem km_is {kvs : List (κ × V)} {m : List (κ × D)} {k : κ} (h : KM2 g F kvs m) : (valV kvs k).isSome = (valD m k).isSome := by
  rcases km_val (k := k) h with ⟨a, b⟩ | ⟨v, d', h1, h2, h3⟩
  · rw [a, b]; rfl
  · rw [h1, h2]; rfl
theorem km_map : ∀ {kvs : List (κ × V)} {m : List (κ × D)} {k : κ} {v : V} {d : D}, KM2 g F kvs m → Dp g F v d → KM2 g F (kvs.map fun p => if p.1 = k then (p.1, v) else p) (m.map fun p => if p.1 = k then (p.1, d) else p)
  | [], [], _, _, _, h, _ => h
  | [], _ :: _, _, _, _, h, _ => by simp [KM2] at h
  | _ :: _, [], _, _, _, h, _ => by simp [KM2] at h
  | p :: r, q :: t, k, v, d, ⟨h1, h2⟩, hd => by
    simp only [List.map_cons, List.cons.injEq] at h1
    simp only [List.map_cons] at h2
    cases h2 with
    | cons h2 h3 =>
      obtain ⟨a, b⟩ := km_map (k := k) ⟨h1.2, h3⟩ hd
      unfold KM2
      simp only [List.map_cons]
      by_cases e : q.1 = k
      · rw [if_pos e, if_pos (h1.1.trans e)]
        exact ⟨by rw [a, h1.1], .cons hd b⟩
      · rw [if_neg e, if_neg (fun z => e (h1.1.symm.trans z))]
        exact ⟨by rw [a, h1.1], .cons h2 b⟩
theorem km_put {kvs : List (κ × V)} {m : List (κ × D)} {k : κ} {v : V} {d : D} (h : KM2 g F kvs m) (hd : Dp g F v d) : KM2 g F (putK kvs k v) (putD m k d) := by
  unfold putK putD
  rw [L2.valV_any, valD_any, km_is h]
  split
  · exact km_map h hd
  · refine ⟨?_, ?_⟩
    · rw [List.map_append, List.map_append, h.1]; rfl
    · rw [List.map_append, List.map_append]; exact h.2.append (.cons hd .nil)
theorem km_drop : ∀ {kvs : List (κ × V)} {m : List (κ × D)} {k : κ}, KM2 g F kvs m → KM2 g F (dropK kvs k) (dropD m k)
  | [], [], _, h => h
  | [], _ :: _, _, h => by simp [KM2] at h
  | _ :: _, [], _, h => by simp [KM2] at h
  | p :: r, q :: t, k, ⟨h1, h2⟩ => by
    simp only [List.map_cons, List.cons.injEq] at h1
    simp only [List.map_cons] at h2
    cases h2 with
    | cons h2 h3 =>
      have ih := km_drop (k := k) (kvs := r) (m := t) ⟨h1.2, h3⟩
      unfold dropK dropD at ih ⊢
      by_cases e : q.1 = k
      · rw [List.filter_cons_of_neg (by simp [h1.1, e]), List.filter_cons_of_neg (by simp [e])]
        exact ih
      · rw [List.filter_cons_of_pos (by simp [h1.1, e]), List.filter_cons_of_pos (by simp [e])]
        exact ⟨by simp only [List.map_cons]; rw [h1.1, ih.1], by simp only [List.map_cons]; exact .cons h2 ih.2⟩
theorem km_len {kvs : List (κ × V)} {m : List (κ × D)} (h : KM2 g F kvs m) : kvs.length = m.length := by
  have := congrArg List.length h.1
  rwa [List.length_map, List.length_map] at this
end
section
variable {g : Gb} {c : Cn g} {σ : L2.St} {H F F' H' : Hp} {δ : List Sl} {v : V} {r x y : R} {ds es : List D} {d e : D} {o o2 : OD} {i j k : Nat} {Q : R → List Sl → Prop} {QB : Bool → List Sl → Prop} {P : PD} {te ta tb td ty tv : TE} {a : Addr}
/-! a new one -/
theorem d_dnewK {t : TE} (ht : ∀ σ H Q, (∀ p, H p = none → Q (.ref p) (upd H p (.dK []))) → t σ H Q) (q : ∀ p, Q (.nw (.dk p [])) δ) : DE c t δ Q := fun σ H F QV R k => ht σ H QV fun p hp => by
  obtain ⟨R2, h1, h2, h3⟩ := R.newO (o := .dK []) hp
  refine k _ _ _ _ _ (q p) R2 (Same.refl F) ⟨.dk upd_same rfl .nil, ?_, fun a m => ?_⟩
  · simp only [OD.adrs, List.singleton_append, List.nodup_cons]; exact ⟨h3, R.nd⟩
  · simp only [OD.adrs, List.mem_singleton] at m; subst m; exact ⟨h1, h2⟩
theorem d_dnewN {t : TE} (ht : ∀ σ H Q, (∀ p, H p = none → Q (.ref p) (upd H p (.dK []))) → t σ H Q) (q : ∀ p, Q (.nw (.dn p [])) δ) : DE c t δ Q := fun σ H F QV R k => ht σ H QV fun p hp => by
  obtain ⟨R2, h1, h2, h3⟩ := R.newO (o := .dK []) hp
  refine k _ _ _ _ _ (q p) R2 (Same.refl F) ⟨.dn (kvs := []) (.inr ⟨rfl, upd_same⟩) rfl .nil, ?_, fun a m => ?_⟩
  · simp only [OD.adrs, List.singleton_append, List.nodup_cons]; exact ⟨h3, R.nd⟩
  · simp only [OD.adrs, List.mem_singleton] at m; subst m; exact ⟨h1, h2⟩
theorem d_dnewT {t : TE} (ht : ∀ σ H Q, (∀ p, H p = none → Q (.ref p) (upd H p (.dT []))) → t σ H Q) (q : ∀ p, Q (.nw (.dt p [])) δ) : DE c t δ Q := fun σ H F QV R k => ht σ H QV fun p hp => by
  obtain ⟨R2, h1, h2, h3⟩ := R.newO (o := .dT []) hp
  refine k _ _ _ _ _ (q p) R2 (Same.refl F) ⟨.dt upd_same rfl .nil, ?_, fun a m => ?_⟩
  · simp only [OD.adrs, List.singleton_append, List.nodup_cons]; exact ⟨h3, R.nd⟩
  · simp only [OD.adrs, List.mem_singleton] at m; subst m; exact ⟨h1, h2⟩
/-! what a dict holds, read -/
def R.dkm (δ : List Sl) : R → Option (List (Key × D))
  | .fz (.dk m) => some m
  | .bw i => match δ[i]? with
    | some (.ow (.dk _ m)) => some m
    | _ => none
  | _ => none
def R.dtm (δ : List Sl) : R → Option (List (List Key × D))
  | .fz (.dt m) => some m
  | .bw i => match δ[i]? with
    | some (.ow (.dt _ m)) => some m
    | _ => none
  | _ => none
def R.dnm (δ : List Sl) : R → Option (List (Option Key × D))
  | .fz (.dn m) => some m
  | .bw i => match δ[i]? with
    | some (.ow (.dn _ m)) => some m
    | _ => none
  | _ => none
theorem dkm_ok {m : List (Key × D)} (R0 : Rel c σ H F δ) (k : RRep c σ H F δ v r) (e : r.dkm δ = some m) : ∃ a kvs, v = .ref a ∧ H a = some (.dK kvs) ∧ KM2 g F kvs m := by
  cases r with
  | fz d =>
    cases d <;> simp only [R.dkm, reduceCtorEq, Option.some.injEq] at e
    subst e
    cases k with
    | dk h1 h2 h3 => exact ⟨_, _, rfl, R0.sub _ _ h1, h2, h3⟩
  | bw i =>
    have k : σ[i]? = some (some v) := k
    simp only [R.dkm] at e
    split at e
    · rename_i a l ho
      cases e
      obtain ⟨v', h1, h2⟩ := R0.ow i _ ho
      rw [k] at h1
      cases h1
      cases h2 with
      | dk h3 h4 h5 => exact ⟨_, _, rfl, h3, h4, h5⟩
    · cases e
  | nw o => simp [R.dkm] at e
  | rf a => simp [R.dkm] at e
theorem dtm_ok {m : List (List Key × D)} (R0 : Rel c σ H F δ) (k : RRep c σ H F δ v r) (e : r.dtm δ = some m) : ∃ a kvs, v = .ref a ∧ H a = some (.dT kvs) ∧ KM2 g F kvs m := by
  cases r with
  | fz d =>
    cases d <;> simp only [R.dtm, reduceCtorEq, Option.some.injEq] at e
    subst e
    cases k with
    | dt h1 h2 h3 => exact ⟨_, _, rfl, R0.sub _ _ h1, h2, h3⟩
  | bw i =>
    have k : σ[i]? = some (some v) := k
    simp only [R.dtm] at e
    split at e
    · rename_i a l ho
      cases e
      obtain ⟨v', h1, h2⟩ := R0.ow i _ ho
      rw [k] at h1
      cases h1
      cases h2 with
      | dt h3 h4 h5 => exact ⟨_, _, rfl, h3, h4, h5⟩
    · cases e
  | nw o => simp [R.dtm] at e
  | rf a => simp [R.dtm] at e
theorem dnm_ok {m : List (Option Key × D)} (R0 : Rel c σ H F δ) (k : RRep c σ H F δ v r) (e : r.dnm δ = some m) : ∃ a kvs, v = .ref a ∧ HasN g.P g.w H a kvs ∧ KM2 g F kvs m := by
  cases r with
  | fz d =>
    cases d <;> simp only [R.dnm, reduceCtorEq, Option.some.injEq] at e
    subst e
    cases k with
    | dn h1 h2 h3 => exact ⟨_, _, rfl, h1.imp (fun q => R0.sub _ _ q) (fun q => ⟨q.1, R0.sub _ _ q.2⟩), h2, h3⟩
  | bw i =>
    have k : σ[i]? = some (some v) := k
    simp only [R.dnm] at e
    split at e
    · rename_i a l ho
      cases e
      obtain ⟨v', h1, h2⟩ := R0.ow i _ ho
      rw [k] at h1
      cases h1
      cases h2 with
      | dn h3 h4 h5 => exact ⟨_, _, rfl, h3, h4, h5⟩
    · cases e
  | nw o => simp [R.dnm] at e
  | rf a => simp [R.dnm] at e
/-! keys -/
theorem kD_v {F : Hp} {v : V} {k : Key} (h : Dp g F v (kD k)) : v = kV k := by
  cases k with
  | inl i => cases h; rfl
  | inr x => cases h; rfl
theorem kO_v {F : Hp} {v : V} {k : Option Key} (h : Dp g F v (kO k)) : v = kN k := by
  cases k with
  | none => cases h; rfl
  | some k => exact kD_v h
theorem kT_v {F : Hp} : ∀ {vs : List V} {ks : List Key}, DpL g F vs (ks.map kD) → vs = ks.map kV
  | [], [], _ => rfl
  | [], _ :: _, h => by cases h
  | _ :: _, [], h => by cases h
  | v :: vs, k :: ks, h => by
    cases h with
    | cons h t => rw [List.map_cons, kD_v h, kT_v t]
/-- an int or a text -/
def D.key : D → Option Key
  | .int i => some (.inl i)
  | .str s => some (.inr s)
  | _ => none
theorem key_kD {d : D} {k : Key} (h : d.key = some k) : d = kD k := by cases d <;> cases h <;> rfl
/-- .. or None -/
def D.keyN : D → Option (Option Key)
  | .non => some none
  | .int i => some (some (.inl i))
  | .str s => some (some (.inr s))
  | _ => none
theorem key_kO {d : D} {k : Option Key} (h : d.keyN = some k) : d = kO k := by cases d <;> cases h <;> rfl
def keysL : List D → Option (List Key)
  | [] => some []
  | d :: r => match d.key, keysL r with
    | some k, some ks => some (k :: ks)
    | _, _ => none
/-- a tuple of them -/
def D.keyT : D → Option (List Key)
  | .tup l => keysL l
  | _ => none
theorem keysL_kD : ∀ {l : List D} {ks : List Key}, keysL l = some ks → l = ks.map kD
  | [], ks, h => by cases h; rfl
  | d :: r, ks, h => by
    simp only [keysL] at h
    split at h
    · rename_i k q h1 h2
      cases h
      rw [List.map_cons, ← key_kD h1, ← keysL_kD h2]
    · cases h
theorem key_kT {d : D} {ks : List Key} (h : d.keyT = some ks) : d = .tup (ks.map kD) := by
  cases d <;> simp only [D.keyT, reduceCtorEq] at h
  rw [keysL_kD h]
/-- a told tuple is a tuple of the heap -/
theorem tup_key {v : V} {ks : List Key} (R0 : Rel c σ H F δ) (h : Dp g F v (.tup (ks.map kD))) : ∃ b, v = .ref b ∧ H b = some (.tup (ks.map kV)) := by
  cases h with
  | tup h1 h2 =>
    have e := kT_v h2
    subst e
    exact ⟨_, rfl, R0.sub _ _ h1⟩
/-! dicts with None -/
theorem d_nget {P0 : Program} {w0 : World} (hP : P0 = g.P) (hw : w0 = g.w) (q : DE c td δ fun x δ1 => DE c ty δ1 fun y δ2 => ∃ m z k d, x.frz.dnm δ2 = some m ∧ y.frz = .fz z ∧ z.keyN = some k ∧ valD m k = some d ∧ Q (.fz d) δ2) : DE c (tNGet P0 w0 td ty) δ Q := fun σ H F QV R kk => by
  subst hP; subst hw
  refine de_frz (QV := fun x H1 => ty σ H1 fun y H2 => ∃ a kvs k v, x = .ref a ∧ HasN g.P g.w H2 a kvs ∧ y = kN k ∧ valV kvs k = some v ∧ QV v H2) q R fun v H1 F1 x δ1 q1 R1 s1 rep1 => ?_
  refine de_frz (QV := fun y H2 => ∃ a kvs k w, v = .ref a ∧ HasN g.P g.w H2 a kvs ∧ y = kN k ∧ valV kvs k = some w ∧ QV w H2) q1 R1 fun w H2 F2 y δ2 ⟨m, z, k, d, hx, hy, hk, hv, q2⟩ R2 s2 rep2 => ?_
  obtain ⟨a, kvs, rfl, h1, h2⟩ := dnm_ok R2 (rep_keep rep1 (frz_frz _) s2) hx
  rw [hy, key_kO hk] at rep2
  obtain ⟨u, h3, h4⟩ := km_some h2 hv
  exact ⟨a, kvs, k, u, rfl, h1, kO_v rep2, h3, kk u H2 F2 _ δ2 q2 R2 (s1.trans s2) h4⟩
theorem d_nin {P0 : Program} {w0 : World} (hP : P0 = g.P) (hw : w0 = g.w) (q : DE c ty δ fun y δ1 => DE c td δ1 fun x δ2 => ∃ m z k, x.frz.dnm δ2 = some m ∧ y.frz = .fz z ∧ z.keyN = some k ∧ Q (.fz (.bl (valD m k).isSome)) δ2) : DE c (tNIn P0 w0 ty td) δ Q := fun σ H F QV R kk => by
  subst hP; subst hw
  refine de_frz (QV := fun y H1 => td σ H1 fun x H2 => ∃ a kvs k, x = .ref a ∧ HasN g.P g.w H2 a kvs ∧ y = kN k ∧ QV (.bl (valV kvs k).isSome) H2) q R fun w H1 F1 y δ1 q1 R1 s1 rep1 => ?_
  refine de_frz (QV := fun x H2 => ∃ a kvs k, x = .ref a ∧ HasN g.P g.w H2 a kvs ∧ w = kN k ∧ QV (.bl (valV kvs k).isSome) H2) q1 R1 fun v H2 F2 x δ2 ⟨m, z, k, hx, hy, hk, q2⟩ R2 s2 rep2 => ?_
  obtain ⟨a, kvs, rfl, h1, h2⟩ := dnm_ok R2 rep2 hx
  rw [hy, key_kO hk] at rep1
  exact ⟨a, kvs, k, rfl, h1, kO_v rep1, by rw [km_is h2]; exact kk _ H2 F2 _ δ2 q2 R2 (s1.trans s2) (.bl _)⟩
theorem d_nget2 {P0 : Program} {w0 : World} (hP : P0 = g.P) (hw : w0 = g.w) (q : DE c td δ fun x δ1 => (∃ m, x.frz.dnm δ1 = some m) ∧ DE c ty δ1 fun y δ2 => DE c tv δ2 fun z δ3 => ∃ m kd k d, x.frz.dnm δ3 = some m ∧ y.frz = .fz kd ∧ kd.keyN = some k ∧ z.frz = .fz d ∧ Q (.fz ((valD m k).getD d)) δ3) : DE c (tNGet2 P0 w0 td ty tv) δ Q := fun σ H F QV R kk => by
  subst hP; subst hw
  refine de_frz (QV := fun x H1 => ∃ a, x = .ref a ∧ (∃ kvs, HasN g.P g.w H1 a kvs) ∧ ty σ H1 fun y H2 => tv σ H2 fun z H3 => ∃ kvs k, HasN g.P g.w H3 a kvs ∧ y = kN k ∧ QV ((valV kvs k).getD z) H3) q R fun v H1 F1 x δ1 ⟨⟨m0, hx0⟩, q1⟩ R1 s1 rep1 => ?_
  obtain ⟨a, kvs0, rfl, h10, _⟩ := dnm_ok R1 rep1 hx0
  refine ⟨a, rfl, ⟨_, h10⟩, ?_⟩
  refine de_frz (QV := fun y H2 => tv σ H2 fun z H3 => ∃ kvs k, HasN g.P g.w H3 a kvs ∧ y = kN k ∧ QV ((valV kvs k).getD z) H3) q1 R1 fun w H2 F2 y δ2 q2 R2 s2 rep2 => ?_
  refine de_frz (QV := fun z H3 => ∃ kvs k, HasN g.P g.w H3 a kvs ∧ w = kN k ∧ QV ((valV kvs k).getD z) H3) q2 R2 fun u H3 F3 z δ3 ⟨m, kd, k, d, hx, hy, hk, hz, q3⟩ R3 s3 rep3 => ?_
  obtain ⟨a', kvs, ea, h1, h2⟩ := dnm_ok R3 (rep_keep rep1 (frz_frz _) (s2.trans s3)) hx
  cases ea
  have rep2' := rep_keep (δ' := δ3) (H' := H3) rep2 (frz_frz _) s3
  rw [hy, key_kO hk] at rep2'
  rw [hz] at rep3
  refine ⟨kvs, k, h1, kO_v rep2', ?_⟩
  rcases km_val (k := k) h2 with ⟨z1, z2⟩ | ⟨v', d', z1, z2, z3⟩
  · rw [z1]
    rw [z2] at q3
    exact kk u H3 F3 _ δ3 q3 R3 ((s1.trans s2).trans s3) rep3
  · rw [z1]
    rw [z2] at q3
    exact kk v' H3 F3 _ δ3 q3 R3 ((s1.trans s2).trans s3) z3
theorem dn_chg {m : List (Option Key × D)} {kvs : List (Option Key × V)} (R : Rel c σ H F δ) (hi : δ[i]? = some (.ow (.dn a m))) {m2 : List (Option Key × D)} (h : KM2 g F kvs m2) : Rel c σ (upd H a (DNo g.P g.w a kvs)) F (δ.set i (.ow (.dn a m2))) := by
  refine R.chg1 hi (by simp [OD.adrs]) rfl fun v hv => ?_
  cases hv with
  | dn _ _ _ => exact .dn (.inl upd_same) h.1 h.2
theorem d_nput {P0 : Program} {w0 : World} (hP : P0 = g.P) (hw : w0 = g.w) (q : DE c tv δ fun v δ1 => DE c td δ1 fun x δ2 => DE c ty δ2 fun y δ3 => ∃ i a m z k d, v.frz = .fz d ∧ x = .bw i ∧ δ3[i]? = some (Sl.ow (.dn a m)) ∧ y.frz = .fz z ∧ z.keyN = some k ∧ m.length < sizeLine ∧ P.nx (δ3.set i (.ow (.dn a (putD m k d))))) : DS c (sNPut P0 w0 td ty tv) δ P := fun σ H F E R kk => by
  subst hP; subst hw
  refine de_frz (QV := fun v H1 => td σ H1 fun x H2 => ty σ H2 fun y H3 => ∃ a kvs k, x = .ref a ∧ HasN g.P g.w H3 a kvs ∧ y = kN k ∧ kvs.length < sizeLine ∧ E.nx σ (L2.upd H3 a (DNo g.P g.w a (putK kvs k v)))) q R fun v H1 F1 dv δ1 q1 R1 s1 rep1 => ?_
  refine q1 σ H1 F1 _ R1 fun x' H2 F2 x δ2 q2 R2 s2 rep2 => ?_
  refine de_frz (QV := fun y H3 => ∃ a kvs k, x' = .ref a ∧ HasN g.P g.w H3 a kvs ∧ y = kN k ∧ kvs.length < sizeLine ∧ E.nx σ (L2.upd H3 a (DNo g.P g.w a (putK kvs k v)))) q2 R2 fun w H3 F3 y δ3 ⟨i, a, m, z, k, d, hv, hx, hi, hy, hk, hl, q3⟩ R3 s3 rep3 => ?_
  subst hx
  rw [hy, key_kO hk] at rep3
  rw [hv] at rep1
  obtain ⟨a', kvs, ea, h1, h2⟩ := dnm_ok (r := .bw i) (m := m) R3 rep2 (by simp only [KD.R.dnm, hi])
  have ea2 : a' = a := by
    obtain ⟨v', h3, h4⟩ := R3.ow i _ hi
    have rep2 : σ[i]? = some (some x') := rep2
    rw [rep2] at h3
    cases h3
    rw [ea] at h4
    cases h4; rfl
  subst ea2
  exact ⟨a', kvs, k, ea, h1, kO_v rep3, by rw [km_len h2]; exact hl, kk.nx σ _ F3 _ q3 (dn_chg R3 hi (km_put h2 (Dp.mono (s2.trans s3) rep1))) ((s1.trans s2).trans s3)⟩
/-! dicts by ints and texts -/
theorem d_kget (q : DE c td δ fun x δ1 => DE c ty δ1 fun y δ2 => ∃ m z k d, x.frz.dkm δ2 = some m ∧ y.frz = .fz z ∧ z.key = some k ∧ valD m k = some d ∧ Q (.fz d) δ2) : DE c (tDGet td ty) δ Q := fun σ H F QV R kk => by
  refine de_frz (QV := fun x H1 => ty σ H1 fun y H2 => ∃ a v, x = .ref a ∧ DGet H2 a y (some v) ∧ QV v H2) q R fun v H1 F1 x δ1 q1 R1 s1 rep1 => ?_
  refine de_frz (QV := fun y H2 => ∃ a w, v = .ref a ∧ DGet H2 a y (some w) ∧ QV w H2) q1 R1 fun w H2 F2 y δ2 ⟨m, z, k, d, hx, hy, hk, hv, q2⟩ R2 s2 rep2 => ?_
  obtain ⟨a, kvs, rfl, h1, h2⟩ := dkm_ok R2 (rep_keep rep1 (frz_frz _) s2) hx
  rw [hy, key_kD hk] at rep2
  obtain ⟨u, h3, h4⟩ := km_some h2 hv
  have ew := kD_v rep2
  subst ew
  exact ⟨a, u, rfl, by rw [← h3]; exact DGet.k h1, kk u H2 F2 _ δ2 q2 R2 (s1.trans s2) h4⟩
theorem d_kin (q : DE c ty δ fun y δ1 => DE c td δ1 fun x δ2 => ∃ m z k, x.frz.dkm δ2 = some m ∧ y.frz = .fz z ∧ z.key = some k ∧ Q (.fz (.bl (valD m k).isSome)) δ2) : DE c (tDIn ty td) δ Q := fun σ H F QV R kk => by
  refine de_frz (QV := fun y H1 => td σ H1 fun x H2 => ∃ a o, x = .ref a ∧ DGet H2 a y o ∧ QV (.bl o.isSome) H2) q R fun w H1 F1 y δ1 q1 R1 s1 rep1 => ?_
  refine de_frz (QV := fun x H2 => ∃ a o, x = .ref a ∧ DGet H2 a w o ∧ QV (.bl o.isSome) H2) q1 R1 fun v H2 F2 x δ2 ⟨m, z, k, hx, hy, hk, q2⟩ R2 s2 rep2 => ?_
  obtain ⟨a, kvs, rfl, h1, h2⟩ := dkm_ok R2 rep2 hx
  rw [hy, key_kD hk] at rep1
  have ew := kD_v rep1
  subst ew
  exact ⟨a, _, rfl, DGet.k h1, by rw [km_is h2]; exact kk _ H2 F2 _ δ2 q2 R2 (s1.trans s2) (.bl _)⟩
theorem d_knotin (q : DE c ty δ fun y δ1 => DE c td δ1 fun x δ2 => ∃ m z k, x.frz.dkm δ2 = some m ∧ y.frz = .fz z ∧ z.key = some k ∧ Q (.fz (.bl (!(valD m k).isSome))) δ2) : DE c (tDNotIn ty td) δ Q := fun σ H F QV R kk => by
  refine de_frz (QV := fun y H1 => td σ H1 fun x H2 => ∃ a o, x = .ref a ∧ DGet H2 a y o ∧ QV (.bl (!o.isSome)) H2) q R fun w H1 F1 y δ1 q1 R1 s1 rep1 => ?_
  refine de_frz (QV := fun x H2 => ∃ a o, x = .ref a ∧ DGet H2 a w o ∧ QV (.bl (!o.isSome)) H2) q1 R1 fun v H2 F2 x δ2 ⟨m, z, k, hx, hy, hk, q2⟩ R2 s2 rep2 => ?_
  obtain ⟨a, kvs, rfl, h1, h2⟩ := dkm_ok R2 rep2 hx
  rw [hy, key_kD hk] at rep1
  have ew := kD_v rep1
  subst ew
  exact ⟨a, _, rfl, DGet.k h1, by rw [km_is h2]; exact kk _ H2 F2 _ δ2 q2 R2 (s1.trans s2) (.bl _)⟩
theorem d_kget2 (q : DE c td δ fun x δ1 => (∃ m, x.frz.dkm δ1 = some m) ∧ DE c ty δ1 fun y δ2 => DE c tv δ2 fun z δ3 => ∃ m kd k d, x.frz.dkm δ3 = some m ∧ y.frz = .fz kd ∧ kd.key = some k ∧ z.frz = .fz d ∧ Q (.fz ((valD m k).getD d)) δ3) : DE c (tDGet2 td ty tv) δ Q := fun σ H F QV R kk => by
  refine de_frz (QV := fun x H1 => ∃ a, x = .ref a ∧ IsD H1 a ∧ ty σ H1 fun y H2 => tv σ H2 fun z H3 => ∃ o, DGet H3 a y o ∧ QV (o.getD z) H3) q R fun v H1 F1 x δ1 ⟨⟨m0, hx0⟩, q1⟩ R1 s1 rep1 => ?_
  obtain ⟨a, kvs0, rfl, h10, _⟩ := dkm_ok R1 rep1 hx0
  refine ⟨a, rfl, .inl ⟨_, .inl h10⟩, ?_⟩
  refine de_frz (QV := fun y H2 => tv σ H2 fun z H3 => ∃ o, DGet H3 a y o ∧ QV (o.getD z) H3) q1 R1 fun w H2 F2 y δ2 q2 R2 s2 rep2 => ?_
  refine de_frz (QV := fun z H3 => ∃ o, DGet H3 a w o ∧ QV (o.getD z) H3) q2 R2 fun u H3 F3 z δ3 ⟨m, kd, k, d, hx, hy, hk, hz, q3⟩ R3 s3 rep3 => ?_
  obtain ⟨a', kvs, ea, h1, h2⟩ := dkm_ok R3 (rep_keep rep1 (frz_frz _) (s2.trans s3)) hx
  cases ea
  have rep2' := rep_keep (δ' := δ3) (H' := H3) rep2 (frz_frz _) s3
  rw [hy, key_kD hk] at rep2'
  rw [hz] at rep3
  have ew := kD_v rep2'
  subst ew
  refine ⟨_, DGet.k h1, ?_⟩
  rcases km_val (k := k) h2 with ⟨z1, z2⟩ | ⟨v', d', z1, z2, z3⟩
  · rw [z1]
    rw [z2] at q3
    exact kk u H3 F3 _ δ3 q3 R3 ((s1.trans s2).trans s3) rep3
  · rw [z1]
    rw [z2] at q3
    exact kk v' H3 F3 _ δ3 q3 R3 ((s1.trans s2).trans s3) z3
theorem dk_chg {m : List (Key × D)} {kvs : List (Key × V)} (R : Rel c σ H F δ) (hi : δ[i]? = some (.ow (.dk a m))) {m2 : List (Key × D)} (h : KM2 g F kvs m2) : Rel c σ (upd H a (.dK kvs)) F (δ.set i (.ow (.dk a m2))) := by
  refine R.chg1 hi (by simp [OD.adrs]) rfl fun v hv => ?_
  cases hv with
  | dk _ _ _ => exact .dk upd_same h.1 h.2
theorem dk_at {m : List (Key × D)} (R : Rel c σ H F δ) (hi : δ[i]? = some (.ow (.dk a m))) (hv : σ[i]? = some (some v)) : ∃ kvs, v = .ref a ∧ H a = some (.dK kvs) ∧ KM2 g F kvs m := by
  obtain ⟨w, h1, h2⟩ := R.ow i _ hi
  rw [hv] at h1
  cases h1
  cases h2 with
  | dk h3 h4 h5 => exact ⟨_, rfl, h3, h4, h5⟩
theorem d_kput (q : DE c tv δ fun v δ1 => DE c td δ1 fun x δ2 => DE c ty δ2 fun y δ3 => ∃ i a m z k d, v.frz = .fz d ∧ x = .bw i ∧ δ3[i]? = some (Sl.ow (.dk a m)) ∧ y.frz = .fz z ∧ z.key = some k ∧ m.length < sizeLine ∧ P.nx (δ3.set i (.ow (.dk a (putD m k d))))) : DS c (sDPut td ty tv) δ P := fun σ H F E R kk => by
  refine de_frz (QV := fun v H1 => td σ H1 fun x H2 => ty σ H2 fun y H3 => ∃ a H4, x = .ref a ∧ DPut H3 a y v H4 ∧ E.nx σ H4) q R fun v H1 F1 dv δ1 q1 R1 s1 rep1 => ?_
  refine q1 σ H1 F1 _ R1 fun x' H2 F2 x δ2 q2 R2 s2 rep2 => ?_
  refine de_frz (QV := fun y H3 => ∃ a H4, x' = .ref a ∧ DPut H3 a y v H4 ∧ E.nx σ H4) q2 R2 fun w H3 F3 y δ3 ⟨i, a, m, z, k, d, hv, hx, hi, hy, hk, hl, q3⟩ R3 s3 rep3 => ?_
  subst hx
  rw [hy, key_kD hk] at rep3
  rw [hv] at rep1
  obtain ⟨kvs, rfl, h1, h2⟩ := dk_at R3 hi rep2
  have ew := kD_v rep3
  subst ew
  exact ⟨a, _, rfl, DPut.k h1 (by rw [km_len h2]; exact hl), kk.nx σ _ F3 _ q3 (dk_chg R3 hi (km_put h2 (Dp.mono (s2.trans s3) rep1))) ((s1.trans s2).trans s3)⟩
/-! dicts by tuples of ints and texts -/
theorem d_tget (q : DE c td δ fun x δ1 => DE c ty δ1 fun y δ2 => ∃ m z k d, x.frz.dtm δ2 = some m ∧ y.frz = .fz z ∧ z.keyT = some k ∧ valD m k = some d ∧ Q (.fz d) δ2) : DE c (tDGet td ty) δ Q := fun σ H F QV R kk => by
  refine de_frz (QV := fun x H1 => ty σ H1 fun y H2 => ∃ a v, x = .ref a ∧ DGet H2 a y (some v) ∧ QV v H2) q R fun v H1 F1 x δ1 q1 R1 s1 rep1 => ?_
  refine de_frz (QV := fun y H2 => ∃ a w, v = .ref a ∧ DGet H2 a y (some w) ∧ QV w H2) q1 R1 fun w H2 F2 y δ2 ⟨m, z, k, d, hx, hy, hk, hv, q2⟩ R2 s2 rep2 => ?_
  obtain ⟨a, kvs, rfl, h1, h2⟩ := dtm_ok R2 (rep_keep rep1 (frz_frz _) s2) hx
  rw [hy, key_kT hk] at rep2
  obtain ⟨u, h3, h4⟩ := km_some h2 hv
  obtain ⟨b, rfl, hb⟩ := tup_key R2 rep2
  exact ⟨a, u, rfl, by rw [← h3]; exact DGet.t h1 hb, kk u H2 F2 _ δ2 q2 R2 (s1.trans s2) h4⟩
theorem d_tin (q : DE c ty δ fun y δ1 => DE c td δ1 fun x δ2 => ∃ m z k, x.frz.dtm δ2 = some m ∧ y.frz = .fz z ∧ z.keyT = some k ∧ Q (.fz (.bl (valD m k).isSome)) δ2) : DE c (tDIn ty td) δ Q := fun σ H F QV R kk => by
  refine de_frz (QV := fun y H1 => td σ H1 fun x H2 => ∃ a o, x = .ref a ∧ DGet H2 a y o ∧ QV (.bl o.isSome) H2) q R fun w H1 F1 y δ1 q1 R1 s1 rep1 => ?_
  refine de_frz (QV := fun x H2 => ∃ a o, x = .ref a ∧ DGet H2 a w o ∧ QV (.bl o.isSome) H2) q1 R1 fun v H2 F2 x δ2 ⟨m, z, k, hx, hy, hk, q2⟩ R2 s2 rep2 => ?_
  obtain ⟨a, kvs, rfl, h1, h2⟩ := dtm_ok R2 rep2 hx
  rw [hy, key_kT hk] at rep1
  obtain ⟨b, rfl, hb⟩ := tup_key R2 (rep_keep (δ' := δ2) (H' := H2) rep1 rfl s2)
  exact ⟨a, _, rfl, DGet.t h1 hb, by rw [km_is h2]; exact kk _ H2 F2 _ δ2 q2 R2 (s1.trans s2) (.bl _)⟩
theorem d_tget2 (q : DE c td δ fun x δ1 => (∃ m, x.frz.dtm δ1 = some m) ∧ DE c ty δ1 fun y δ2 => DE c tv δ2 fun z δ3 => ∃ m kd k d, x.frz.dtm δ3 = some m ∧ y.frz = .fz kd ∧ kd.keyT = some k ∧ z.frz = .fz d ∧ Q (.fz ((valD m k).getD d)) δ3) : DE c (tDGet2 td ty tv) δ Q := fun σ H F QV R kk => by
  refine de_frz (QV := fun x H1 => ∃ a, x = .ref a ∧ IsD H1 a ∧ ty σ H1 fun y H2 => tv σ H2 fun z H3 => ∃ o, DGet H3 a y o ∧ QV (o.getD z) H3) q R fun v H1 F1 x δ1 ⟨⟨m0, hx0⟩, q1⟩ R1 s1 rep1 => ?_
  obtain ⟨a, kvs0, rfl, h10, _⟩ := dtm_ok R1 rep1 hx0
  refine ⟨a, rfl, .inr ⟨_, .inl h10⟩, ?_⟩
  refine de_frz (QV := fun y H2 => tv σ H2 fun z H3 => ∃ o, DGet H3 a y o ∧ QV (o.getD z) H3) q1 R1 fun w H2 F2 y δ2 q2 R2 s2 rep2 => ?_
  refine de_frz (QV := fun z H3 => ∃ o, DGet H3 a w o ∧ QV (o.getD z) H3) q2 R2 fun u H3 F3 z δ3 ⟨m, kd, k, d, hx, hy, hk, hz, q3⟩ R3 s3 rep3 => ?_
  obtain ⟨a', kvs, ea, h1, h2⟩ := dtm_ok R3 (rep_keep rep1 (frz_frz _) (s2.trans s3)) hx
  cases ea
  have rep2' := rep_keep (δ' := δ3) (H' := H3) rep2 (frz_frz _) s3
  rw [hy, key_kT hk] at rep2'
  rw [hz] at rep3
  obtain ⟨b, rfl, hb⟩ := tup_key R3 rep2'
  refine ⟨_, DGet.t h1 hb, ?_⟩
  rcases km_val (k := k) h2 with ⟨z1, z2⟩ | ⟨v', d', z1, z2, z3⟩
  · rw [z1]
    rw [z2] at q3
    exact kk u H3 F3 _ δ3 q3 R3 ((s1.trans s2).trans s3) rep3
  · rw [z1]
    rw [z2] at q3
    exact kk v' H3 F3 _ δ3 q3 R3 ((s1.trans s2).trans s3) z3
theorem dt_chg {m : List (List Key × D)} {kvs : List (List Key × V)} (R : Rel c σ H F δ) (hi : δ[i]? = some (.ow (.dt a m))) {m2 : List (List Key × D)} (h : KM2 g F kvs m2) : Rel c σ (upd H a (.dT kvs)) F (δ.set i (.ow (.dt a m2))) := by
  refine R.chg1 hi (by simp [OD.adrs]) rfl fun v hv => ?_
  cases hv with
  | dt _ _ _ => exact .dt upd_same h.1 h.2
theorem dt_at {m : List (List Key × D)} (R : Rel c σ H F δ) (hi : δ[i]? = some (.ow (.dt a m))) (hv : σ[i]? = some (some v)) : ∃ kvs, v = .ref a ∧ H a = some (.dT kvs) ∧ KM2 g F kvs m := by
  obtain ⟨w, h1, h2⟩ := R.ow i _ hi
  rw [hv] at h1
  cases h1
  cases h2 with
  | dt h3 h4 h5 => exact ⟨_, rfl, h3, h4, h5⟩
theorem d_tput (q : DE c tv δ fun v δ1 => DE c td δ1 fun x δ2 => DE c ty δ2 fun y δ3 => ∃ i a m z k d, v.frz = .fz d ∧ x = .bw i ∧ δ3[i]? = some (Sl.ow (.dt a m)) ∧ y.frz = .fz z ∧ z.keyT = some k ∧ m.length < sizeLine ∧ P.nx (δ3.set i (.ow (.dt a (putD m k d))))) : DS c (sDPut td ty tv) δ P := fun σ H F E R kk => by
  refine de_frz (QV := fun v H1 => td σ H1 fun x H2 => ty σ H2 fun y H3 => ∃ a H4, x = .ref a ∧ DPut H3 a y v H4 ∧ E.nx σ H4) q R fun v H1 F1 dv δ1 q1 R1 s1 rep1 => ?_
  refine q1 σ H1 F1 _ R1 fun x' H2 F2 x δ2 q2 R2 s2 rep2 => ?_
  refine de_frz (QV := fun y H3 => ∃ a H4, x' = .ref a ∧ DPut H3 a y v H4 ∧ E.nx σ H4) q2 R2 fun w H3 F3 y δ3 ⟨i, a, m, z, k, d, hv, hx, hi, hy, hk, hl, q3⟩ R3 s3 rep3 => ?_
  subst hx
  rw [hy, key_kT hk] at rep3
  rw [hv] at rep1
  obtain ⟨kvs, rfl, h1, h2⟩ := dt_at R3 hi rep2
  obtain ⟨b, rfl, hb⟩ := tup_key R3 rep3
  exact ⟨a, _, rfl, DPut.t h1 hb (by rw [km_len h2]; exact hl), kk.nx σ _ F3 _ q3 (dt_chg R3 hi (km_put h2 (Dp.mono (s2.trans s3) rep1))) ((s1.trans s2).trans s3)⟩
/-! max(ints, default=d) -/
def maxI (d : Int) : List Int → Int
  | [] => d
  | n :: r => r.foldl max n
theorem foldl_max (r : List Int) : ∀ n : Int, (r.foldl max n ∈ n :: r) ∧ ∀ y ∈ n :: r, y ≤ r.foldl max n := by
  induction r with
  | nil => intro n; simp
  | cons m r ih =>
    intro n
    obtain ⟨h1, h2⟩ := ih (max n m)
    simp only [List.foldl_cons]
    constructor
    · rcases List.mem_cons.mp h1 with e | e
      · rcases Int.le_total n m with z | z
        · rw [e, show max n m = m by omega]; simp
        · rw [e, show max n m = n by omega]; simp
      · simp [e]
    · intro y hy
      have hb := h2 (max n m) (by simp)
      simp only [List.mem_cons] at hy
      rcases hy with e | e | e
      · omega
      · omega
      · exact h2 y (by simp [e])
theorem maxI_is {d m : Int} {ns : List Int} (n : ns ≠ []) (h1 : m ∈ ns) (h2 : ∀ y ∈ ns, y ≤ m) : m = maxI d ns := by
  cases ns with
  | nil => exact absurd rfl n
  | cons k r =>
    obtain ⟨a, b⟩ := foldl_max r k
    have := b m h1
    have := h2 _ a
    show m = r.foldl max k
    omega
theorem d_CKw {f : List V → List V → Hp → VK → Prop} {t tk : TA} (q : DA c t δ fun rs δ1 => DA c tk δ1 fun ws δ2 => ∀ σ H F vs us QV, Rel c σ H F δ2 → RepL c σ H F δ2 vs rs → RepL c σ H F δ2 us ws → PstE c σ F Q QV → f vs us H QV) : DE c (tCKw f t tk) δ Q := fun σ H F QV R k =>
  q σ H F _ R fun vs H1 F1 rs δ1 q1 R1 s1 rep1 => q1 σ H1 F1 _ R1 fun us H2 F2 ws δ2 q2 R2 s2 rep2 => by
    have rep1' : RepL c σ H2 F2 δ2 vs rs := by
      clear q1 q2
      induction rep1 with
      | nil => exact .nil
      | cons h1 h2 _ ih => exact .cons h1 (rep_keep h2 h1 s2) ih
    exact q2 σ H2 F2 vs us QV R2 rep1' rep2 fun v' H' F' r δ' q' R' s' => k v' H' F' r δ' q' R' ((s1.trans s2).trans s')
theorem d_maxDef {K : PySem.W.Frag} {n : Int} {ns : List Int} (hK : K = g.K) (hx : x.lsR δ = some ds) (hn : ds = ns.map D.int) (hy : y = .fz (.int n)) (q : Q (.fz (.int (maxI n ns))) δ) :
    ∀ σ H F vs us QV, Rel c σ H F δ → RepL c σ H F δ vs [x] → RepL c σ H F δ us [y] → PstE c σ F Q QV → rMaxDef K vs us H QV := fun σ H F vs us QV R k1 k2 k => by
  subst hK; subst hy; subst hn
  obtain ⟨v, rfl, h⟩ := one_rep k1
  obtain ⟨u, rfl, h'⟩ := one_rep k2
  cases h'
  obtain ⟨a, ws, rfl, hs, hd⟩ := lsR_ok R h hx
  rw [dp_ints hd] at hs
  have kk := k (.int (maxI n ns)) H F _ δ q R (Same.refl F) (.int _)
  exact ⟨a, ns, n, rfl, rfl, hs, fun e => by subst e; exact kk, fun e m h1 h2 => by rw [maxI_is e h1 h2 (d := n)]; exact kk⟩
end
end KD

set_option maxHeartbeats 4000000
/-! defs that draw out of a feed; defs whose result is told in part -/
namespace KD
open PySem PySem.Spec PyProof.Rows L2 KB
/-- what a feed holds behind at most n stirred draws -/
def FdD (n : Nat) (ds : List D) : Prop := ∃ a b c : Int, ds = [.int a, .int b, .int c] ∧ 0 ≤ a ∧ Builtin.Int.intBits a ≤ 1048576 ∧ 0 ≤ b ∧ b < 10 ^ 40 ∧ 0 ≤ c ∧ c ≤ n
theorem FdD.mono {n m : Nat} {xs : List D} (h : FdD n xs) (l : n ≤ m) : FdD m xs := by
  obtain ⟨a, b, c, e, h1, h2, h3, h4, h5, h6⟩ := h
  exact ⟨a, b, c, e, h1, h2, h3, h4, h5, by omega⟩
/-- f(feed, ..): at most k draws more, a result of which T holds -/
def spFd (S : List D → Nat → (R → Prop) → Prop) : DSp := fun as P => ∃ fd xs n ds k T, as = .mu (.fl fd xs) :: ds.map Ar.fz ∧ FdD n xs ∧ n + k ≤ 1000000 ∧ S ds k T ∧ P = ⟨fun r os => ∃ ys, os = [.fl fd ys] ∧ FdD (n + k) ys ∧ T r, fun _ _ => False⟩
/-- f(..): a result of which T holds -/
def spN (S : List D → (R → Prop) → Prop) : DSp := fun as P => ∃ ds T, as = ds.map Ar.fz ∧ S ds T ∧ P = ⟨fun r os => os = [] ∧ T r, fun _ _ => False⟩
section
variable {g : Gb} {c : Cn g} {σ : L2.St} {H F F' H' : Hp} {δ : List Sl} {v : V} {r x y : R} {ds es : List D} {d e : D} {o o2 : OD} {i j : Nat} {Q : R → List Sl → Prop} {P : PD} {tr : TA} {ta tb tc te : TE}
theorem len_spFd {S : List D → Nat → (R → Prop) → Prop} {n : Nat} (h : ∀ ds k T, S ds k T → ds.length + 1 = n) : ∀ vs H Q E, toSp g (spFd S) vs H Q E → vs.length = n := len_toSp fun as P ⟨fd, xs, m, ds, k, T, e, _, _, s, _⟩ => by rw [e, List.length_cons, List.length_map]; exact h ds k T s
theorem len_spN {S : List D → (R → Prop) → Prop} {n : Nat} (h : ∀ ds T, S ds T → ds.length = n) : ∀ vs H Q E, toSp g (spN S) vs H Q E → vs.length = n := len_toSp fun as P ⟨ds, T, e, s, _⟩ => by rw [e, List.length_map]; exact h ds T s
theorem muI_fz : ∀ {rs : List R} {ds : List D}, fzs rs = some ds → muI rs = []
  | [], _, _ => rfl
  | .fz d :: rs, ds, e => by
    simp only [fzs, Option.map_eq_some_iff] at e
    obtain ⟨q, e1, e2⟩ := e
    exact muI_fz (rs := rs) e1
  | .bw _ :: _, _, e => by simp [fzs] at e
  | .nw _ :: _, _, e => by simp [fzs] at e
  | .rf _ :: _, _, e => by simp [fzs] at e
theorem d_callF {S : List D → Nat → (R → Prop) → Prop} {W : WX} {Ex : Addr → List Sl → Prop} (hx : XOk c W Ex) (q : DA c tr δ fun rs δ1 => ∃ i rs' fd xs n ds k T, rs = .bw i :: rs' ∧ fzs rs' = some ds ∧ δ1[i]? = some (Sl.ow (.fl fd xs)) ∧ FdD n xs ∧ n + k ≤ 1000000 ∧ S ds k T ∧ ∀ r ys, FdD (n + k) ys → T r → Q r (δ1.set i (.ow (.fl fd ys)))) :
    DE c (tCallS (toSp g (spFd S)) (WE W) tr) δ Q := by
  refine d_call1 hx fun σ H F QV R k => q σ H F QV R fun vs H' F' rs δ' ⟨i, rs', fd, xs, n, ds, kk, T, e, e2, hi, hf, hn, s, k1⟩ R' s' rep => ?_
  subst e
  obtain ⟨h1, h2⟩ := args_fz (δ := δ') (rs := rs') e2
  refine k vs H' F' _ δ' ⟨.mu (.fl fd xs) :: ds.map Ar.fz, _, i, ?_, by simp only [muI, muI_fz e2], ⟨fd, xs, n, ds, kk, T, rfl, hf, hn, s, rfl⟩, fun r o ⟨ys, eo, hy, ht⟩ => ?_, fun C o z => z.elim⟩ R' s' rep
  · simp only [argsOf, hi, h1, Option.map_some]
  · cases eo
    exact k1 r ys hy ht
/-- its body -/
theorem d_startF {t : TS} {N : List Str} {Q : VK} {E : XK} {vs : List V} {S : List D → Nat → (R → Prop) → Prop} (h : toSp g (spFd S) vs H Q E)
    (q : ∀ fd xs n ds k T, FdD n xs → n + k ≤ 1000000 → S ds k T → ∀ (c : Cn g), XOk c (WF E) (fun _ _ => False) → c.M = [fd] →
      DS c t (.ow (.fl fd xs) :: ds.map Sl.fz ++ List.replicate (N.length - (ds.length + 1)) .no) { nx := fun δ => ∃ ys, δ.head? = some (.ow (.fl fd ys)) ∧ FdD (n + k) ys ∧ T (.fz .non), rt := fun r δ => r.out = true ∧ ∃ ys, δ.head? = some (.ow (.fl fd ys)) ∧ FdD (n + k) ys ∧ T r }) :
    t { nx := fun _ H' => Q .non H', rt := Q } (L2.start N vs) H := by
  refine d_start h fun as P ⟨fd, xs, n, ds, k, T, e, hf, hn, s, eP⟩ c hx hM => ?_
  subst e; subst eP
  have eM : c.M = [fd] := by rw [hM]; simp only [muA, muO, adrsL]; have := muA_fz ds; unfold muA at this; rw [this]; rfl
  have es : ((Ar.mu (.fl fd xs) :: ds.map Ar.fz).map Ar.sl) = .ow (.fl fd xs) :: ds.map Sl.fz := by rw [List.map_cons, sl_fz]; rfl
  rw [es, List.length_cons, List.length_map]
  have mk : ∀ {δ : List Sl} {ys : List D}, δ.head? = some (.ow (.fl fd ys)) → MuAt (.mu (.fl fd xs) :: ds.map Ar.fz) δ [.fl fd ys] := fun {δ ys} e => ⟨.fl fd ys, fd, [], e, rfl, rfl, rfl, muAt_fz ds δ.tail⟩
  exact (q fd xs n ds k T hf hn s c (fun C σ H F δ R z => z.elim) eM).imp (fun δ ⟨ys, e, hy, ht⟩ => ⟨[.fl fd ys], mk e, ys, rfl, hy, ht⟩) (fun r δ ⟨ho, ys, e, hy, ht⟩ => ⟨ho, [.fl fd ys], mk e, ys, rfl, hy, ht⟩) (fun _ z => z) (fun _ z => z)
theorem d_callN {S : List D → (R → Prop) → Prop} {W : WX} {Ex : Addr → List Sl → Prop} (hx : XOk c W Ex) (q : DA c tr δ fun rs δ1 => ∃ ds T, fzs rs = some ds ∧ S ds T ∧ ∀ r, T r → Q r δ1) : DE c (tCallS (toSp g (spN S)) (WE W) tr) δ Q := by
  refine d_call hx fun σ H F QV R k => q σ H F QV R fun vs H' F' rs δ' ⟨ds, T, e, s, k1⟩ R' s' rep => ?_
  obtain ⟨h1, h2⟩ := args_fz (δ := δ') (rs := rs) e
  exact k vs H' F' rs δ' ⟨_, _, h1, h2, ⟨ds, T, rfl, s, rfl⟩, fun r z => k1 r z.2, fun C z => z.elim⟩ R' s' rep
theorem d_startN {t : TS} {N : List Str} {Q : VK} {E : XK} {vs : List V} {S : List D → (R → Prop) → Prop} (h : toSp g (spN S) vs H Q E)
    (q : ∀ ds T, S ds T → ∀ (c : Cn g), XOk c (WF E) (fun _ _ => False) → c.M = [] →
      DS c t (ds.map Sl.fz ++ List.replicate (N.length - ds.length) .no) { nx := fun _ => T (.fz .non), rt := fun r _ => r.out = true ∧ T r }) :
    t { nx := fun _ H' => Q .non H', rt := Q } (L2.start N vs) H := by
  refine d_start h fun as P ⟨ds, T, e, s, eP⟩ c hx hM => ?_
  subst e; subst eP
  rw [sl_fz, List.length_map]
  exact (q ds T s c (fun C σ H F δ R z => z.elim) (by rw [hM, muA_fz])).imp (fun δ z => ⟨[], muAt_fz ds δ, rfl, z⟩) (fun r δ ⟨ho, z⟩ => ⟨ho, [], muAt_fz ds δ, rfl, z⟩) (fun _ z => z) (fun _ z => z)
/-! from old promises -/
theorem old_args {vs : List V} {ds : List D} (h : Ent g H F vs (ds.map Ar.fz)) : DpL g F vs ds := by
  have key : ∀ {vs : List V} {ds : List D}, ArgR g H F vs (ds.map Ar.fz) → DpL g F vs ds := by
    intro vs ds
    induction ds generalizing vs with
    | nil => intro h; cases h; exact .nil
    | cons d r ih =>
      intro h
      cases h with
      | fz h t => exact .cons h (ih t)
  exact key h.args
theorem muR_old : ∀ {vs : List V} {ds : List D}, ArgR g H F vs (ds.map Ar.fz) → MuR g H' F' vs (ds.map Ar.fz) []
  | _, [], h => by cases h; exact .nil
  | _, d :: r, h => by cases h with | fz h t => exact .fz (muR_old t)
theorem old_aft {vs : List V} {ds : List D} (h : Ent g H F vs (ds.map Ar.fz)) (s : Same H H') (sF : Same F' H') (n : ∀ a, H a ≠ none → F' a = F a) : Aft g H F vs (ds.map Ar.fz) [] H' F' := by
  refine ⟨sF, fun a o e _ => s _ _ e, fun a z => ?_, fun a z => .inl (n a z), muR_old h.args, List.nodup_nil, fun a m => nomatch m⟩
  cases q : H a with
  | none => exact absurd q z
  | some u => rw [s _ _ q]; exact fun z => nomatch z
/-- a feed alone is changed -/
theorem old_aftF {vs : List V} {ds : List D} {fd : Addr} {xs ys : List D} {ws : List V} (h : Ent g H F (.ref fd :: vs) (.mu (.fl fd xs) :: ds.map Ar.fz)) (hy : DpL g F ws ys) : Aft g H F (.ref fd :: vs) (.mu (.fl fd xs) :: ds.map Ar.fz) [.fl fd ys] (upd H fd (.lst ws)) F := by
  have eM : muA (.mu (.fl fd xs) :: ds.map Ar.fz) = [fd] := by simp only [muA, muO, adrsL]; have := muA_fz ds; unfold muA at this; rw [this]; rfl
  have hF : F fd = none := h.fa fd (by rw [eM]; exact List.mem_singleton.mpr rfl)
  cases h.args with
  | mu ho ht =>
    cases ho with
    | fl h1 h2 =>
      refine ⟨fun a u e => ?_, fun a u e n => ?_, fun a z => ?_, fun _ _ => .inl rfl, .mu (.fl upd_same hy) (muR_old ht), by simp [adrsL, OD.adrs], fun a m => ?_⟩
      · have : a ≠ fd := fun z => by subst z; rw [hF] at e; cases e
        rw [upd_ne this]; exact h.sub a u e
      · rw [eM] at n
        rw [upd_ne (fun z => n (List.mem_singleton.mpr z))]; exact e
      · by_cases e : a = fd
        · subst e; rw [upd_same]; exact fun z => nomatch z
        · rw [upd_ne e]; exact z
      · simp only [adrsL, OD.adrs, List.append_nil, List.mem_singleton] at m
        subst m
        exact ⟨hF, .inr (by rw [eM]; exact List.mem_singleton.mpr rfl)⟩
/-- to an old promise: a def that gives a flat thing for the script -/
theorem to_old {sp : DSp} {vs : List V} {Q : VK} {E : XK} {as : List Ar} {P : DPst} (F : Hp) (ent : Ent g H F vs as) (s : sp as P) (m : muO as = []) (kr : ∀ r os v H' F', P.rt r os → Same H H' → RepN g H os v H' F' r → Q v H') (ke : ∀ C os, ¬ P.ex C os) : toSp g sp vs H Q E :=
  ⟨F, as, P, ent, s, fun r os v H' F' h A rn => kr r os v H' F' h (fun a u e => A.fr a u e (by unfold muA; rw [m]; exact fun z => nomatch z)) rn, fun C os H' F' h _ => absurd h (ke C os)⟩
/-- the script, for a def told by data -/
theorem script_ent {a : Addr} {ns : List Int} (hs : SqL g.K H a (ns.map V.int)) : ∃ F, Ent g H F [.ref a] [.fz (.ro (ns.map D.int))] := by
  have allI : ∀ (F : Hp) (ns : List Int), DpL g F (ns.map V.int) (ns.map D.int) := by
    intro F ns
    induction ns with
    | nil => exact .nil
    | cons n r ih => exact .cons (.int n) ih
  refine ⟨fun b => if b = a then H a else none, fun b u e => ?_, .fz ?_ .nil, List.nodup_nil, fun b m => nomatch m⟩
  · by_cases h : b = a
    · subst h; simpa using e
    · simp [h] at e
  · refine (.ro ?_ (allI _ ns))
    rcases hs with (h | ⟨o, h⟩) | h
    · exact .inl (.inl (by simp [h]))
    · exact .inl (.inr ⟨o, by simp [h]⟩)
    · exact .inr h
end
end KD

set_option maxHeartbeats 4000000
/-! a, b = [], x: new things kept while what stands behind them is asked -/
namespace KD
open PySem PySem.Spec PyProof.Rows L2 KB
section
variable {g : Gb} {c : Cn g} {σ : L2.St} {H F F' H' : Hp} {δ : List Sl} {v : V} {r x y : R} {ds es : List D} {d e : D} {o o2 : OD} {i j l : Nat} {Q : R → List Sl → Prop} {P : PD} {tr : TA} {ta tb tc te : TE}
/-- within: all that is raised is looked for there, too -/
def Up (c c' : Cn g) : Prop := ∀ W Ex, XOk c W Ex → XOk c' W Ex
theorem Up.refl (c : Cn g) : Up c c := fun _ _ h => h
theorem rel_in0 (R : Rel c σ H F δ) : Rel (⟨H, F, F, adS δ⟩ : Cn g) σ H F δ :=
  ⟨R.sub, fun _ _ e _ => e, fun _ z => z, fun _ _ => .inl rfl, R.len, R.fz, R.ow, R.nd, fun a m => ⟨(R.fa a m).1, .inr m⟩, Same.refl F, R.rf⟩
theorem rel_out0 {σ2 : L2.St} {δ' : List Sl} (R : Rel c σ H F δ) (R' : Rel (⟨H, F, F, adS δ⟩ : Cn g) σ2 H' F' δ') : Rel c σ2 H' F' δ' := by
  refine ⟨R'.sub, fun a u e1 e2 => R'.fr a u (R.fr a u e1 e2) fun m => ?_, fun a z => R'.fr2 a (R.fr2 a z), fun a z => (R'.ff a (R.fr2 a z)).trans (R.ff a z), R'.len, R'.fz, R'.ow, R'.nd, fun a m => ?_, R.lb.trans R'.lb, R'.rf⟩
  · rcases (R.fa a m).2 with z | z
    · rw [e1] at z; cases z
    · exact e2 z
  · obtain ⟨h1, h2⟩ := R'.fa a m
    refine ⟨h1, ?_⟩
    rcases h2 with z | z
    · left
      cases q : c.H0 a with
      | none => rfl
      | some u => exact absurd z (R.fr2 a (by rw [q]; exact fun z => nomatch z))
    · exact (R.fa a z).2
theorem up_in (R : Rel c σ H F δ) : Up c (⟨H, F, F, adS δ⟩ : Cn g) := fun W Ex hx C σ' H' F' δ' R' e => hx C σ' H' F' δ' (rel_out0 R R') e
/-- the addresses of new things -/
def adX : List R → List Addr
  | [] => []
  | .nw o :: rs => o.adrs ++ adX rs
  | _ :: rs => adX rs
inductive RepX (c : Cn g) (σ : L2.St) (H F : Hp) (δ : List Sl) : List V → List R → Prop where
  | nil : RepX c σ H F δ [] []
  | fz {v : V} {d : D} {vs : List V} {rs : List R} : Dp g F v d → RepX c σ H F δ vs rs → RepX c σ H F δ (v :: vs) (.fz d :: rs)
  | nw {v : V} {o : OD} {vs : List V} {rs : List R} : Ow g H F v o → RepX c σ H F δ vs rs → RepX c σ H F δ (v :: vs) (.nw o :: rs)
  | rf {a : Addr} {vs : List V} {rs : List R} : RepX c σ H F δ vs rs → RepX c σ H F δ (.ref a :: vs) (.rf a :: rs)
def DAx (c : Cn g) (ta : TA) (δ : List Sl) (Q : List R → List Sl → Prop) : Prop := ∀ σ H F (QA : List V → Hp → Prop), Rel c σ H F δ → (∀ vs H' F' rs δ', Q rs δ' → Rel c σ H' F' δ' → Same F F' → RepX c σ H' F' δ' vs rs → (adX rs ++ adS δ').Nodup → (∀ a ∈ adX rs, F' a = none ∧ c.H0 a = none) → QA vs H') → ta σ H QA
def ContX (c : Cn g) (x : R) (tr : TA) (δ : List Sl) (Q : List R → List Sl → Prop) : Prop := match x with
  | .fz d => DAx c tr δ fun xs δ2 => Q (.fz d :: xs) δ2
  | .rf a => DAx c tr δ fun xs δ2 => Q (.rf a :: xs) δ2
  | .nw o => ∀ c' : Cn g, Up c c' → DAx c' tr δ fun xs δ2 => Q (.nw o :: xs) δ2
  | .bw _ => False
theorem d_nilX {QA : List R → List Sl → Prop} (q : QA [] δ) : DAx c tNil δ QA := fun σ H F QV R k => k [] H F _ _ q R (Same.refl F) .nil R.nd fun a m => nomatch m
theorem d_consX {QA : List R → List Sl → Prop} (q : DE c te δ fun x δ1 => ContX c x tr δ1 QA) : DAx c (tCons te tr) δ QA := fun σ H F QV R k =>
  q σ H F _ R fun v H1 F1 x δ1 q1 R1 s1 rep1 => by
    cases x with
    | fz d => exact q1 σ H1 F1 _ R1 fun vs H2 F2 xs δ2 q2 R2 s2 rep2 nd fa => k _ H2 F2 _ _ q2 R2 (s1.trans s2) (.fz (Dp.mono s2 rep1) rep2) nd fa
    | bw i => exact q1.elim
    | rf a =>
      have rep1 : v = .ref a := rep1
      subst rep1
      exact q1 σ H1 F1 _ R1 fun vs H2 F2 xs δ2 q2 R2 s2 rep2 nd fa => k _ H2 F2 _ _ q2 R2 (s1.trans s2) (.rf rep2) nd fa
    | nw o =>
      obtain ⟨ow, ond, ofa⟩ := rep1
      refine q1 ⟨H1, F1, F1, adS δ1⟩ (up_in R1) σ H1 F1 _ (rel_in0 R1) fun vs H2 F2 xs δ2 q2 R2 s2 rep2 nd fa => ?_
      have oH : ∀ a ∈ o.adrs, H1 a ≠ none := ow.has
      have oM : ∀ a ∈ o.adrs, a ∉ adS δ1 := fun a m z => (List.nodup_append.mp ond).2.2 a m a z rfl
      have same : ∀ a ∈ o.adrs, H2 a = H1 a := fun a m => by
        cases q : H1 a with
        | none => exact absurd q (oH a m)
        | some u => exact R2.fr a u q (oM a m)
      have nS : ∀ a ∈ o.adrs, a ∉ adS δ2 := fun a m z => by
        rcases (R2.fa a z).2 with q | q
        · exact oH a m q
        · exact oM a m q
      have nX : ∀ a ∈ o.adrs, a ∉ adX xs := fun a m z => oH a m (fa a z).2
      have Ro := rel_out0 R1 R2
      have rep2' : RepX c σ H2 F2 δ2 vs xs := by
        clear q2 nd fa nX
        induction rep2 with
        | nil => exact .nil
        | fz h _ ih => exact .fz h ih
        | nw h _ ih => exact .nw h ih
        | rf _ ih => exact .rf ih
      refine k _ H2 F2 _ _ q2 Ro (s1.trans R2.lb) (.nw (ow.move R2.lb same) rep2') ?_ fun a m => ?_
      · simp only [adX, List.append_assoc]
        refine List.nodup_append.mpr ⟨(List.nodup_append.mp ond).1, nd, fun a m1 b m2 z => ?_⟩
        subst z
        rcases List.mem_append.mp m2 with q | q
        · exact nX a m1 q
        · exact nS a m1 q
      · simp only [adX, List.mem_append] at m
        rcases m with m | m
        · exact ⟨fx_none (R2.ff a (oH a m)) (ofa a m).1 R2.sub ((ow.move R2.lb same).nt a m), (ofa a m).2⟩
        · refine ⟨(fa a m).1, ?_⟩
          have : H1 a = none := (fa a m).2
          cases q : c.H0 a with
          | none => rfl
          | some u => exact absurd this (R1.fr2 a (by rw [q]; exact fun z => nomatch z))
theorem d_cxF {QA : List R → List Sl → Prop} (q : DAx c tr δ fun xs δ2 => QA (.fz d :: xs) δ2) : ContX c (.fz d) tr δ QA := q
theorem d_cxN {QA : List R → List Sl → Prop} (q : ∀ c' : Cn g, Up c c' → DAx c' tr δ fun xs δ2 => QA (.nw o :: xs) δ2) : ContX c (.nw o) tr δ QA := q
/-- what a slot makes of it -/
inductive SlOf : R → Sl → Prop where
  | fz {d : D} : SlOf (.fz d) (.fz d)
  | rf {a : Addr} : SlOf (.rf a) (.rf a)
  | ow {o : OD} : SlOf (.nw o) (.ow o)
  | fr {o : OD} : SlOf (.nw o) (.fz o.data)
/-- the first one is stored -/
theorem setX {vs : List V} {rs : List R} {s : Sl} (R0 : Rel c σ H F δ) (rep : RepX c σ H F δ (v :: vs) (r :: rs)) (nd : (adX (r :: rs) ++ adS δ).Nodup) (fa : ∀ a ∈ adX (r :: rs), F a = none ∧ c.H0 a = none) (hs : SlOf r s) :
    ∃ F', Same F F' ∧ Rel c (σ.set i (some v)) H F' (δ.set i s) ∧ RepX c (σ.set i (some v)) H F' (δ.set i s) vs rs ∧ (adX rs ++ adS (δ.set i s)).Nodup ∧ ∀ a ∈ adX rs, F' a = none ∧ c.H0 a = none := by
  have tail : ∀ {σ2 : L2.St} {F2 : Hp} {δ2 : List Sl} {vs : List V} {rs : List R}, Same F F2 → RepX c σ H F δ vs rs → RepX c σ2 H F2 δ2 vs rs := by
    intro σ2 F2 δ2 vs rs s h
    induction h with
    | nil => exact .nil
    | fz h _ ih => exact .fz (Dp.mono s h) ih
    | nw h _ ih => exact .nw (h.move s fun _ _ => rfl) ih
    | rf _ ih => exact .rf ih
  have setSub : ∀ {s : Sl}, s.adrs = [] → (adS (δ.set i s)).Sublist (adS δ) := fun h => set_sub h
  cases hs with
  | fz =>
    cases rep with
    | fz h t => exact ⟨F, Same.refl F, R0.setFz h, tail (Same.refl F) t, nd.sublist ((List.Sublist.refl _).append (setSub rfl)), fa⟩
  | rf =>
    cases rep with
    | rf t => exact ⟨F, Same.refl F, R0.setRf, tail (Same.refl F) t, nd.sublist ((List.Sublist.refl _).append (setSub rfl)), fa⟩
  | ow =>
    rename_i o
    cases rep with
    | nw h t =>
      simp only [adX, List.append_assoc] at nd
      have nd1 := List.nodup_append.mp nd
      have nd2 := List.nodup_append.mp nd1.2.1
      have ndo : (o.adrs ++ adS (δ.set i .no)).Nodup := List.nodup_append.mpr ⟨nd1.1, R0.nd.sublist (sub_no δ i), fun a m1 b m2 => nd1.2.2 a m1 b (List.mem_append.mpr (.inr ((sub_no δ i).subset m2)))⟩
      refine ⟨F, Same.refl F, R0.setOw h ndo fun a m => ⟨(fa a (by simp [adX, m])).1, .inl (fa a (by simp [adX, m])).2⟩, tail (Same.refl F) t, ?_, fun a m => fa a (by simp [adX, m])⟩
      refine List.nodup_append.mpr ⟨nd2.1, ?_, fun a m1 b m2 z => ?_⟩
      · by_cases hi : i < δ.length
        · exact (perm_adS (s := .ow o) hi).nodup_iff.mpr ndo
        · rw [List.set_eq_of_length_le (by omega)]; exact R0.nd
      · subst z
        by_cases hi : i < δ.length
        · rcases List.mem_append.mp ((perm_adS (s := .ow o) hi).subset m2) with q | q
          · exact nd1.2.2 a q a (List.mem_append.mpr (.inl m1)) rfl
          · exact nd2.2.2 a m1 a ((sub_no δ i).subset q) rfl
        · rw [List.set_eq_of_length_le (by omega)] at m2
          exact nd2.2.2 a m1 a m2 rfl
  | fr =>
    rename_i o
    cases rep with
    | nw h t =>
      simp only [adX, List.append_assoc] at nd
      have nd1 := List.nodup_append.mp nd
      have nd2 := List.nodup_append.mp nd1.2.1
      have rp : RRep c σ H F δ v (.nw o) := ⟨h, List.nodup_append.mpr ⟨nd1.1, R0.nd, fun a m1 b m2 => nd1.2.2 a m1 b (List.mem_append.mpr (.inr m2))⟩, fun a m => fa a (by simp [adX, m])⟩
      have sF : Same F (ext F H o.adrs) := fun a u e => by
        by_cases m : a ∈ o.adrs
        · rw [(fa a (by simp [adX, m])).1] at e; cases e
        · rw [ext_out m]; exact e
      have R2 : Rel c σ H (ext F H o.adrs) δ := R0.grow sF (fun a u e => by
        by_cases m : a ∈ o.adrs
        · rw [ext_in m] at e; exact e
        · rw [ext_out m] at e; exact R0.sub a u e) (fun a z => by
        by_cases m : a ∈ o.adrs
        · exact absurd (fa a (by simp [adX, m])).2 z
        · exact .inl (ext_out m)) (fun a m => by
        have : a ∉ o.adrs := fun z => nd1.2.2 a z a (List.mem_append.mpr (.inr m)) rfl
        rw [ext_out this]
        exact (R0.fa a m).1)
      refine ⟨ext F H o.adrs, sF, R2.setFz (h.frz sF fun a m => ext_in m), tail sF t, nd1.2.1.sublist ((List.Sublist.refl _).append (setSub rfl)), fun a m => ?_⟩
      have : a ∉ o.adrs := fun z => nd1.2.2 a z a (List.mem_append.mpr (.inl m)) rfl
      rw [ext_out this]
      exact fa a (by simp [adX, m])
def tParX (i j : Nat) (ta : TA) : TS := tPar i j ta
def tPar3X (i j l : Nat) (ta : TA) : TS := tPar3 i j l ta
theorem d_parX (q : DAx c tr δ fun rs δ1 => ∃ a b s1 s2, rs = [a, b] ∧ SlOf a s1 ∧ SlOf b s2 ∧ P.nx ((δ1.set i s1).set j s2)) : DS c (tParX i j tr) δ P := fun σ H F E R k =>
  q σ H F _ R fun vs H1 F1 rs δ1 ⟨a, b, s1, s2, er, h1, h2, q1⟩ R1 sF rep nd fa => by
    subst er
    obtain ⟨v, w, rfl⟩ : ∃ v w, vs = [v, w] := by
      cases rep with
      | fz _ t => cases t <;> (rename_i t; cases t; exact ⟨_, _, rfl⟩)
      | nw _ t => cases t <;> (rename_i t; cases t; exact ⟨_, _, rfl⟩)
      | rf t => cases t <;> (rename_i t; cases t; exact ⟨_, _, rfl⟩)
    obtain ⟨F2, s2', R2, rep2, nd2, fa2⟩ := setX (i := i) R1 rep nd fa h1
    obtain ⟨F3, s3', R3, _, _, _⟩ := setX (i := j) R2 rep2 nd2 fa2 h2
    exact ⟨v, w, rfl, k.nx _ H1 F3 _ q1 R3 ((sF.trans s2').trans s3')⟩
theorem d_par3X (q : DAx c tr δ fun rs δ1 => ∃ a b e s1 s2 s3, rs = [a, b, e] ∧ SlOf a s1 ∧ SlOf b s2 ∧ SlOf e s3 ∧ P.nx (((δ1.set i s1).set j s2).set l s3)) : DS c (tPar3X i j l tr) δ P := fun σ H F E R k =>
  q σ H F _ R fun vs H1 F1 rs δ1 ⟨a, b, e, s1, s2, s3, er, h1, h2, h3, q1⟩ R1 sF rep nd fa => by
    subst er
    obtain ⟨u, v, w, rfl⟩ : ∃ u v w, vs = [u, v, w] := by
      cases rep with
      | fz _ t => cases t <;> (rename_i t; cases t <;> (rename_i t; cases t; exact ⟨_, _, _, rfl⟩))
      | nw _ t => cases t <;> (rename_i t; cases t <;> (rename_i t; cases t; exact ⟨_, _, _, rfl⟩))
      | rf t => cases t <;> (rename_i t; cases t <;> (rename_i t; cases t; exact ⟨_, _, _, rfl⟩))
    obtain ⟨F2, s2', R2, rep2, nd2, fa2⟩ := setX (i := i) R1 rep nd fa h1
    obtain ⟨F3, s3', R3, rep3, nd3, fa3⟩ := setX (i := j) R2 rep2 nd2 fa2 h2
    obtain ⟨F4, s4', R4, _, _, _⟩ := setX (i := l) R3 rep3 nd3 fa3 h3
    exact ⟨u, v, w, rfl, k.nx _ H1 F4 _ q1 R4 (((sF.trans s2').trans s3').trans s4')⟩
theorem ps_x {X : Cx} {st : Stmt} {i j : Nat} {ta : TA} (h : PS X st (tPar i j ta)) : PS X st (tParX i j ta) := h
theorem ps_x3 {X : Cx} {st : Stmt} {i j l : Nat} {ta : TA} (h : PS X st (tPar3 i j l ta)) : PS X st (tPar3X i j l ta) := h
/-- the same over a tuple that is laid and unpacked -/
def tAsg2X (K : PySem.W.Frag) (i j : Nat) (ta : TA) : TS := tAsg (tTup ta) (gTup K 2 (gCons (gName i) (gCons (gName j) gNil)))
def tAsg3X (K : PySem.W.Frag) (i j l : Nat) (ta : TA) : TS := tAsg (tTup ta) (gTup K 3 (gCons (gName i) (gCons (gName j) (gCons (gName l) gNil))))
theorem repX_new {p : Addr} {u : HO} {vs : List V} {rs : List R} (hp : H p = none) (h : RepX c σ H F δ vs rs) : RepX c σ (upd H p u) F δ vs rs := by
  induction h with
  | nil => exact .nil
  | fz h _ ih => exact .fz h ih
  | nw h _ ih => exact .nw (h.move (Same.refl F) fun a m => upd_ne fun z => h.has a m (by rw [z]; exact hp)) ih
  | rf _ ih => exact .rf ih
theorem d_asg2X {K : PySem.W.Frag} (hK : K = g.K) (q : DAx c tr δ fun rs δ1 => ∃ a b s1 s2, rs = [a, b] ∧ SlOf a s1 ∧ SlOf b s2 ∧ P.nx ((δ1.set i s1).set j s2)) : DS c (tAsg2X K i j tr) δ P := fun σ H F E R k => by
  subst hK
  refine q σ H F _ R fun vs H1 F1 rs δ1 ⟨a, b, s1, s2, er, h1, h2, q1⟩ R1 sF rep nd fa => ?_
  subst er
  obtain ⟨v, w, rfl⟩ : ∃ v w, vs = [v, w] := by
    cases rep with
    | fz _ t => cases t <;> (rename_i t; cases t; exact ⟨_, _, rfl⟩)
    | nw _ t => cases t <;> (rename_i t; cases t; exact ⟨_, _, rfl⟩)
    | rf t => cases t <;> (rename_i t; cases t; exact ⟨_, _, rfl⟩)
  refine ⟨by show 2 ≤ sizeLine; decide, fun p hp => ?_⟩
  obtain ⟨R1', n1, n2, n3⟩ := R1.newO (o := .tup [v, w]) hp
  obtain ⟨F2, s2', R2, rep2, nd2, fa2⟩ := setX (i := i) R1' (repX_new hp rep) nd fa h1
  obtain ⟨F3, s3', R3, _, _, _⟩ := setX (i := j) R2 rep2 nd2 fa2 h2
  exact ⟨p, _, rfl, .inl (.inl upd_same), rfl, _, _, rfl, _, _, rfl, rfl, k.nx _ _ F3 _ q1 R3 ((sF.trans s2').trans s3')⟩
theorem d_asg3X {K : PySem.W.Frag} (hK : K = g.K) (q : DAx c tr δ fun rs δ1 => ∃ a b e s1 s2 s3, rs = [a, b, e] ∧ SlOf a s1 ∧ SlOf b s2 ∧ SlOf e s3 ∧ P.nx (((δ1.set i s1).set j s2).set l s3)) : DS c (tAsg3X K i j l tr) δ P := fun σ H F E R k => by
  subst hK
  refine q σ H F _ R fun vs H1 F1 rs δ1 ⟨a, b, e, s1, s2, s3, er, h1, h2, h3, q1⟩ R1 sF rep nd fa => ?_
  subst er
  obtain ⟨u, v, w, rfl⟩ : ∃ u v w, vs = [u, v, w] := by
    cases rep with
    | fz _ t => cases t <;> (rename_i t; cases t <;> (rename_i t; cases t; exact ⟨_, _, _, rfl⟩))
    | nw _ t => cases t <;> (rename_i t; cases t <;> (rename_i t; cases t; exact ⟨_, _, _, rfl⟩))
    | rf t => cases t <;> (rename_i t; cases t <;> (rename_i t; cases t; exact ⟨_, _, _, rfl⟩))
  refine ⟨by show 3 ≤ sizeLine; decide, fun p hp => ?_⟩
  obtain ⟨R1', n1, n2, n3⟩ := R1.newO (o := .tup [u, v, w]) hp
  obtain ⟨F2, s2', R2, rep2, nd2, fa2⟩ := setX (i := i) R1' (repX_new hp rep) nd fa h1
  obtain ⟨F3, s3', R3, rep3, nd3, fa3⟩ := setX (i := j) R2 rep2 nd2 fa2 h2
  obtain ⟨F4, s4', R4, _, _, _⟩ := setX (i := l) R3 rep3 nd3 fa3 h3
  exact ⟨p, _, rfl, .inl (.inl upd_same), rfl, _, _, rfl, _, _, rfl, _, _, rfl, rfl, k.nx _ _ F4 _ q1 R4 (((sF.trans s2').trans s3').trans s4')⟩
theorem ps_y2 {X : Cx} {st : Stmt} {i j : Nat} {ta : TA} (h : PS X st (tAsg (tTup ta) (gTup X.K 2 (gCons (gName i) (gCons (gName j) gNil))))) : PS X st (tAsg2X X.K i j ta) := h
theorem ps_y3 {X : Cx} {st : Stmt} {i j l : Nat} {ta : TA} (h : PS X st (tAsg (tTup ta) (gTup X.K 3 (gCons (gName i) (gCons (gName j) (gCons (gName l) gNil)))))) : PS X st (tAsg3X X.K i j l ta) := h
theorem d_x2F {d1 d2 : D} {S : Sl → Sl → Prop} (q : S (.fz d1) (.fz d2)) : ∃ a b s1 s2, [R.fz d1, R.fz d2] = [a, b] ∧ SlOf a s1 ∧ SlOf b s2 ∧ S s1 s2 := ⟨_, _, _, _, rfl, .fz, .fz, q⟩
theorem d_x3F {d1 d2 d3 : D} {S : Sl → Sl → Sl → Prop} (q : S (.fz d1) (.fz d2) (.fz d3)) : ∃ a b e s1 s2 s3, [R.fz d1, R.fz d2, R.fz d3] = [a, b, e] ∧ SlOf a s1 ∧ SlOf b s2 ∧ SlOf e s3 ∧ S s1 s2 s3 := ⟨_, _, _, _, _, _, rfl, .fz, .fz, .fz, q⟩
/-! tuples: +, slices -/
theorem d_catA {K : PySem.W.Frag} (hK : K = g.K) (hx : x = .fz (.tup ds)) (hy : y = .fz (.tup es)) (hl : ds.length + es.length ≤ sizeLine) (q : Q (.fz (.tup (ds ++ es))) δ) : DO c (rCatA K) x y δ Q := fun σ H F v w QV R k1 k2 k => by
  subst hK; subst hx; subst hy
  obtain ⟨a, vs, rfl, h1, h2⟩ := tup_ok R k1
  obtain ⟨b, ws, rfl, h3, h4⟩ := tup_ok R k2
  refine ⟨a, b, vs, ws, rfl, rfl, h1, h3, by rw [h2.length, h4.length]; exact hl, fun e => ?_, fun _ e => ?_, fun _ _ p hp => ?_⟩
  · subst e
    cases h2
    exact k _ H F _ δ q R (Same.refl F) k2
  · subst e
    cases h4
    rw [List.append_nil] at q
    exact k _ H F _ δ q R (Same.refl F) k1
  · obtain ⟨R2, s2, _⟩ := R.new (o := .tup (vs ++ ws)) hp
    exact k _ _ _ _ δ q R2 s2 (.tup upd_same ((h2.append h4).mono s2))
/-- what a slice leaves -/
def cutD (ds : List D) (lo hi : Option Int) : List D := (ds.drop (HT.sIx ds.length 0 lo)).take (HT.sIx ds.length ds.length hi - HT.sIx ds.length 0 lo)
theorem cut_dp {vs : List V} {lo hi : Option Int} (h : DpL g F vs ds) : DpL g F (cutV vs lo hi) (cutD ds lo hi) := by
  unfold cutV cutD
  rw [h.length]
  exact (h.drop _).take _
theorem cutD_nat (ds : List D) {a b : Nat} (h1 : a ≤ b) (h2 : b ≤ ds.length) : cutD ds (some a) (some b) = (ds.drop a).take (b - a) := by
  unfold cutD
  rw [HT.sIx_nat, HT.sIx_nat, Nat.min_eq_left h2, Nat.min_eq_left (show a ≤ ds.length by omega)]
theorem cutD_to (ds : List D) {b : Nat} (h2 : b ≤ ds.length) : cutD ds none (some b) = ds.take b := by
  unfold cutD
  rw [HT.sIx_nat, HT.sIx_none, Nat.min_eq_left h2, List.drop_zero, Nat.sub_zero]
theorem cutD_from (ds : List D) {a : Nat} (h2 : a ≤ ds.length) : cutD ds (some a) none = ds.drop a := by
  unfold cutD
  rw [HT.sIx_nat, HT.sIx_none, Nat.min_eq_left h2]
  exact List.take_of_length_le (by rw [List.length_drop]; exact Nat.le_refl _)
/-- a part of a slice -/
def DPo (c : Cn g) (t : TO) (δ : List Sl) (Qo : Option Int → List Sl → Prop) : Prop := ∀ σ H F (S : Option Int → Hp → Prop), Rel c σ H F δ → (∀ lo H' F' δ', Qo lo δ' → Rel c σ H' F' δ' → Same F F' → S lo H') → t σ H S
theorem d_nopart {Qo : Option Int → List Sl → Prop} (q : Qo none δ) : DPo c tNoPart δ Qo := fun σ H F S R k => k none H F δ q R (Same.refl F)
theorem d_part {Qo : Option Int → List Sl → Prop} (q : DE c te δ fun x δ1 => ∃ n : Int, x = .fz (.int n) ∧ Qo (some n) δ1) : DPo c (tPart te) δ Qo := fun σ H F S R k =>
  q σ H F _ R fun v H1 F1 x δ1 ⟨n, e, q1⟩ R1 s1 rep => by
    subst e
    cases rep
    exact ⟨n, rfl, k (some n) H1 F1 δ1 q1 R1 s1⟩
def DSv (c : Cn g) (f : V → Option Int → Option Int → Hp → VK → Prop) (x : R) (lo hi : Option Int) (δ : List Sl) (Q : R → List Sl → Prop) : Prop := ∀ σ H F v QV, Rel c σ H F δ → RRep c σ H F δ v x → PstE c σ F Q QV → f v lo hi H QV
theorem d_sl {f : V → Option Int → Option Int → Hp → VK → Prop} {tl th : TO} (q : DE c te δ fun x δ1 => DPo c tl δ1 fun lo δ2 => DPo c th δ2 fun hi δ3 => DSv c f x.frz lo hi δ3 Q) : DE c (L2.tSl f te tl th) δ Q := fun σ H F QV R k =>
  de_frz (QV := fun x H1 => tl σ H1 fun l H2 => th σ H2 fun u H3 => f x l u H3 QV) q R fun v H1 F1 x δ1 q1 R1 s1 rep1 => q1 σ H1 F1 _ R1 fun lo H2 F2 δ2 q2 R2 s2 => q2 σ H2 F2 _ R2 fun hi H3 F3 δ3 q3 R3 s3 =>
    q3 σ H3 F3 v QV R3 (rep_keep rep1 (frz_frz _) (s2.trans s3)) fun v' H' F' r δ' q' R' s' => k v' H' F' r δ' q' R' (((s1.trans s2).trans s3).trans s')
theorem d_slL {K : PySem.W.Frag} {lo hi : Option Int} (hK : K = g.K) (hx : x.lsR δ = some ds) (q : ∀ p, Q (.nw (.fl p (cutD ds lo hi))) δ) : DSv c (rSlL K) x lo hi δ Q := fun σ H F v QV R k1 k => by
  subst hK
  obtain ⟨a, vs, rfl, hs, hd⟩ := lsR_ok R k1 hx
  refine ⟨a, vs, rfl, hs, fun p hp => ?_⟩
  obtain ⟨R2, rep2⟩ := nw_ok R hp (cut_dp (lo := lo) (hi := hi) hd)
  exact k _ _ _ _ δ (q p) R2 (Same.refl F) rep2
theorem d_slT {K : PySem.W.Frag} {lo hi : Option Int} (hK : K = g.K) (hx : x = .fz (.tup ds)) (q : Q (.fz (.tup (cutD ds lo hi))) δ) : DSv c (rSlA K) x lo hi δ Q := fun σ H F v QV R k1 k => by
  subst hK; subst hx
  obtain ⟨a, vs, rfl, h1, h2⟩ := tup_ok R k1
  refine ⟨a, vs, rfl, h1, fun ⟨e1, e2⟩ => ?_, fun _ p hp => ?_⟩
  · have : cutD ds lo hi = ds := by
      unfold cutD
      rw [← h2.length, e1, e2, List.drop_zero, Nat.sub_zero, h2.length, List.take_length]
    rw [this] at q
    exact k _ H F _ δ q R (Same.refl F) k1
  · obtain ⟨R2, s2, _⟩ := R.new (o := .tup (cutV vs lo hi)) hp
    exact k _ _ _ _ δ q R2 s2 (.tup upd_same ((cut_dp h2).mono s2))
/-! lists: +, * -/
theorem d_cat (hx : x.lsL δ = some ds) (hy : y.lsL δ = some es) (hl : ds.length + es.length ≤ sizeLine) (q : ∀ p, Q (.nw (.fl p (ds ++ es))) δ) : DO c rCat x y δ Q := fun σ H F v w QV R k1 k2 k => by
  obtain ⟨a, vs, rfl, h1, h2⟩ := lsL_ok R k1 hx
  obtain ⟨b, ws, rfl, h3, h4⟩ := lsL_ok R k2 hy
  refine ⟨a, b, vs, ws, rfl, rfl, h1, h3, by rw [h2.length, h4.length]; exact hl, fun p hp => ?_⟩
  obtain ⟨R2, rep2⟩ := nw_ok R hp (h2.append h4)
  exact k _ _ _ _ δ (q p) R2 (Same.refl F) rep2
/-! plain comprehensions -/
theorem d_lcP {wi : TI} {tg : TG} {vs : List Nat} (hg : Only tg vs) (q : DI c wi δ fun n it ok δ1 => n ≤ sizeLine ∧ ok δ1 ∧ NoOw δ1 vs = true ∧ ∃ f : Nat → D, (∀ (c' : Cn g) i, i < n → DG c' tg (.fz (it i)) (wipeD δ1 vs) fun δ2 => DE c' te δ2 fun r δ3 => r.frz = .fz (f i) ∧ back δ1 δ3 vs = δ1) ∧
    ∀ p, Q (.nw (.fl p ((List.range n).map f))) δ1) : DE c (tLc wi tg tYes te vs) δ Q :=
  d_lc hg fun σ H F S R k => q σ H F S R fun J H' F' n it ok δ1 ⟨hn, hok, hno, f, hs, hd⟩ => k J H' F' n it ok δ1 ⟨hn, fun i acc δ2 => δ2 = δ1 ∧ acc = (List.range i).map f, ⟨rfl, rfl⟩, fun i acc δ2 e => by rw [e.1]; exact ⟨hok, hno⟩,
    fun c' i acc δ2 hi ⟨e1, e2⟩ => by
      subst e1; subst e2
      refine fun σ H F v S R rep k => hs c' i hi σ H F v S R rep fun σ' H' F' δ' q' R' s' => k σ' H' F' δ' (d_yes ?_) R' s'
      refine (show DE c' te δ' _ from DE.imp q' fun r δ3 ⟨h1, h2⟩ => ⟨f i, h1, h2, ?_⟩)
      rw [List.range_succ, List.map_append]; rfl,
    fun p acc δ' ⟨e1, e2⟩ => by subst e1; subst e2; exact hd p⟩
theorem d_lcPF {wi : TI} {tg : TG} {tt : TT} {vs : List Nat} (hg : Only tg vs) (q : DI c wi δ fun n it ok δ1 => n ≤ sizeLine ∧ ok δ1 ∧ NoOw δ1 vs = true ∧ ∃ (f : Nat → D) (p : Nat → Bool), (∀ (c' : Cn g) i, i < n → DG c' tg (.fz (it i)) (wipeD δ1 vs) fun δ2 => DT c' tt δ2 fun b δ3 => b = p i ∧ if b = true then DE c' te δ3 fun r δ4 => r.frz = .fz (f i) ∧ back δ1 δ4 vs = δ1 else back δ1 δ3 vs = δ1) ∧
    ∀ a, Q (.nw (.fl a (((List.range n).filter p).map f))) δ1) : DE c (tLc wi tg tt te vs) δ Q :=
  d_lc hg fun σ H F S R k => q σ H F S R fun J H' F' n it ok δ1 ⟨hn, hok, hno, f, p, hs, hd⟩ => k J H' F' n it ok δ1 ⟨hn, fun i acc δ2 => δ2 = δ1 ∧ acc = ((List.range i).filter p).map f, ⟨rfl, rfl⟩, fun i acc δ2 e => by rw [e.1]; exact ⟨hok, hno⟩,
    fun c' i acc δ2 hi ⟨e1, e2⟩ => by
      subst e1; subst e2
      refine fun σ H F v S R rep k => hs c' i hi σ H F v S R rep fun σ' H' F' δ' q' R' s' => k σ' H' F' δ' ?_ R' s'
      refine (show DT c' tt δ' _ from DT.imp q' fun b δ3 ⟨h0, h1⟩ => ?_)
      subst h0
      cases hp : p i with
      | true =>
        rw [hp, if_pos rfl] at h1
        rw [if_pos rfl]
        refine DE.imp h1 fun r δ4 ⟨h2, h3⟩ => ⟨f i, h2, h3, ?_⟩
        rw [List.range_succ, List.filter_append, List.map_append, List.filter_cons_of_pos hp]; rfl
      | false =>
        rw [hp, if_neg (by decide)] at h1
        rw [if_neg (by decide)]
        refine ⟨h1, ?_⟩
        rw [List.range_succ, List.filter_append, List.map_append, List.filter_cons_of_neg (by rw [hp]; decide)]
        simp,
    fun p acc δ' ⟨e1, e2⟩ => by subst e1; subst e2; exact hd p⟩
end
end KD

set_option maxHeartbeats 4000000
namespace KB
open PySem PySem.Spec PyProof.Rows L2
/-! the pairs of a locked dict by tuples -/
section
variable {X : Cx} {pins : List (Addr × Obj)} {σ : L2.St} {H : Hp} {s : Shared} {d : Addr} {o : Obj}
theorem frz_raw {kvs : List (List Key × V)} (I : Inv X pins σ H s) (h : H d = some (.frz o (.dT kvs))) :
    (d == sysModules) = false ∧ s.heap.get? d = some o ∧ ∃ (es : Array DictEntry) (ep : Nat), DT.Raw s.heap d es ep ∧ o.data = .dict es ep ∧ es.size = kvs.length ∧ es.size ≤ sizeLine ∧
      ∀ (i : Nat) (k : List Key) (v : V), kvs[i]? = some (k, v) → ∃ (hi : i < es.size) (q : Addr), es[i].key = .ref q ∧ H q = some (.tup (k.map kV)) ∧ RelV v es[i].val := by
  obtain ⟨hd, z, hs, xs, pr, o', es, ep, ho, hx, hdt, he, hr⟩ := I.hok d _ h
  rw [hd] at ho
  cases ho
  have l1 : es.size = xs.length := size_of_entries he
  have l2 : kvs.length = xs.length := Paired.length pr
  refine ⟨hs, hd, es, ep, ⟨o, hd, hx, hdt⟩, hdt, by omega, by omega, fun i k v e => ?_⟩
  obtain ⟨b, hb, e1, e2, e3⟩ := paired_get pr e
  have q := entry_at he i
  rw [hb] at q
  have hi : i < es.size := by
    obtain ⟨hi, _⟩ := List.getElem?_eq_some_iff.mp e
    omega
  have q : es[i]? = _ := q
  rw [Array.getElem?_eq_getElem hi] at q
  have q := Option.some.inj q
  refine ⟨hi, b.2.1, by rw [q]; rfl, e2, by rw [q]; exact e3⟩
end
def ItiT (d : Addr) (o : Obj) (kvs : List (List Key × V)) : It :=
  ⟨fun i H => H d = some (.frz o (.dT kvs)) ∧ i < kvs.length,
   fun i H x H' => ∃ T k v q, kvs[i]? = some (k, v) ∧ x = .ref T ∧ H T = none ∧ H q = some (.tup (k.map kV)) ∧ H' = upd H T (.tup [.ref q, v]),
   fun i H => H d = some (.frz o (.dT kvs)) ∧ kvs.length ≤ i⟩
section
variable {P : Program} {w : World} {K : PySem.W.Frag} {d : Addr} {o : Obj} {es : Array DictEntry} {ep : Nat}
theorem turn_itT {kvs : List (List Key × V)} {elts : List Expr} {kk : Nat} {tpos : Pos} (it : Addr) (hod : o.data = .dict es ep) :
    Turn P w K (.Tuple elts kk tpos) (ItiT d o kvs) [it] it (fun i h => ∃ ok ov, IsItemIter h it d i kvs.length ep ok ov) where
  mem := by simp
  obj := fun i h st b hb => by
    obtain rfl : b = it := by simpa using hb
    obtain ⟨x, y, e⟩ := st
    exact ⟨_, e, fun v z => nomatch z⟩
  keep := fun i h h' ⟨x, y, e⟩ k => ⟨x, y, k it (List.mem_singleton.mpr rfl) _ e⟩
  item := by
    intro X hP hw hK hc i pins s σ H E I hf st ⟨hd, hi⟩
    subst hP hw hK
    obtain ⟨hs, hgd, es', ep', hraw, hdt, hsz, _, ent⟩ := frz_raw I hd
    obtain ⟨rfl, rfl⟩ := dict_ep hod hdt
    obtain ⟨⟨k, v⟩, hkv⟩ : ∃ p, kvs[i]? = some p := ⟨kvs[i], List.getElem?_eq_getElem hi⟩
    obtain ⟨hi2, q, hkey, hq, rv⟩ := ent i k v hkv
    obtain ⟨ok, ov, he⟩ := st
    rw [← hsz] at he
    have hlt : it < s.heap.objs.size := Heap.lt_size he
    refine DT.nextI he hraw hi2 fun h' ho hT hz hk => ?_
    refine ⟨_, rfl, wpAny_letOwnedTupleGo_items (s := { s with heap := h' }) ho fun h'' he' sb => ?_⟩
    have hT2 := (sb.2 _ (Nat.ne_of_gt hlt)).trans hT
    have new : ObjOk X.prog X.w (upd H s.heap.objs.size (.tup [.ref q, v])) h'' s.heap.objs.size (.tup [.ref q, v]) :=
      ⟨show 2 ≤ sizeLine by decide, [es'[i].key, es'[i].val], .cons (by rw [hkey]; rfl) (.cons rv .nil), ⟨_, hT2, rfl, _, rfl⟩⟩
    have I1 := I.turnedNew (t' := s.toks) (ch := [it]) (fun b ob hb e => (sb.2 b (by simpa using hb)).trans (hk b ob (by simpa using hb) e)) hf (Nat.le_refl _) new
    refine ⟨.ref s.heap.objs.size, _, I1, rfl, ⟨_, k, v, q, hkv, rfl, I.hok.fresh (Nat.le_refl _), hq, rfl⟩, ⟨_, _, by rw [← hsz]; exact he'⟩, fun b hb => ?_⟩
    obtain rfl : b = it := by simpa using hb
    rw [upd_ne (Nat.ne_of_lt hlt)]
    exact (hf b hb).1
  done := by
    intro X hP hw hK hc i pins s σ H E I hf st ⟨hd, hi⟩
    subst hP hw hK
    obtain ⟨f0, f1, f2, f3, f4, f5⟩ := hf it (by simp)
    obtain ⟨hs, hgd, es', ep', hraw, hdt, hsz, _, ent⟩ := frz_raw I hd
    obtain ⟨rfl, rfl⟩ := dict_ep hod hdt
    obtain ⟨ok, ov, he⟩ := st
    rw [← hsz] at he
    exact DT.endI (I.ok.hd hc) he hraw (by omega) fun h' eb => ⟨rfl, I.turned (t' := s.toks) (fun b ob hb e => eb b ob hb e) f0 f1 f3 f4 f5⟩
  self := fun A i s Q E st h => let ⟨_, _, e⟩ := st; PySem.W.kcp_self e h
end
def iItemsT (td : TE) : TI := fun σ H R => td σ H fun x H1 => ∃ d o kvs, x = .ref d ∧ H1 d = some (.frz o (.dT kvs)) ∧ R (ItiT d o kvs) H1
theorem pi_itemsT {X : Cx} {e : Expr} {td : TE} {apos cpos : Pos} {elts : List Expr} {kk : Nat} {tpos : Pos} (he : PE X e td) (hbase : attributeBase e "items" X.env (eval e X.env) = eval e X.env := by rfl) (hline : (apos.endLine == cpos.line) = true := by rfl) :
    PI X (.Tuple elts kk tpos) (.Call (.Attribute e "items" apos) [] [] cpos) (iItemsT td) := by
  refine ⟨fun pins s σ H R I h => ?_⟩
  refine wpAny_Call_method (T := "dict") (id := "dict.items") hbase rfl hline PySem.F.plainAttrs_dict PySem.F.slot_dict_items PySem.F.type_dict_items (thn (he.run pins s σ H _ I h) fun u s1 ⟨x, H1, I1, rx, d, o, kvs, ex, hd, q⟩ => ?_)
  subst ex
  obtain rfl : u = Value.ref d := rx
  obtain ⟨hs, hgd, es, ep, hraw, hdt, hsz, _, _⟩ := frz_raw I1 hd
  refine ⟨hraw.typeIs, fun b z => ?_, ?_⟩
  · cases z
    obtain ⟨ob, h1, h2, _⟩ := hraw
    exact ⟨ob, h1, h2.2.1⟩
  have I2 := I1.kept (t' := s1.toks) (h' := s1.heap.push { cls := .type "dict_items", data := .fields #[.ref d] }) fun b ob q => Heap.get?_push_of_some _ q
  show wpAny _ _ (callWith cpos (.builtin "dict.items") [.ref d] [] []) _ X.xe s1
  refine method_meetsIn PySem.F.slot_dict_items PySem.F.entry_dict_items rfl (PySem.evalArgs_none ⟨rfl, hraw.typeIs, PySem.F.args_dict_items_1 _, _, DT.meetsItems (es := es) (ep := ep) hs, hraw, ?_⟩)
  refine DT.iterI (d := d) (es := es) (ep := ep) ⟨_, Heap.get?_push_size _ rfl, rfl, rfl⟩ (hraw.push _) (pi_one (tk := s1.toks) I2 _ (turn_itT _ hdt) ⟨.none, .none, ?_⟩ q)
  rw [← hsz]
  exact Heap.get?_push_size _ rfl
end KB
namespace KD
open PySem PySem.Spec PyProof.Rows L2 KB
section
variable {g : Gb} {c : Cn g} {σ : L2.St} {H F F' H' : Hp} {δ : List Sl} {v : V} {r x y : R} {ds es : List D} {d e : D} {o o2 : OD} {i j l : Nat} {a : Addr} {Q : R → List Sl → Prop} {P : PD} {tr : TA} {ta tb tc te : TE} {QI : Nat → (Nat → D) → (List Sl → Prop) → List Sl → Prop}
theorem adS_rf : ∀ (δ : List Sl) (i : Nat), adS (δ.set i (.rf a)) = adS (δ.set i .no)
  | [], _ => rfl
  | s :: r, 0 => rfl
  | s :: r, i + 1 => by simp only [List.set_cons_succ, adS, adS_rf r i]
theorem kT_dp (F : Hp) : ∀ ks : List Key, DpL g F (ks.map kV) (ks.map kD)
  | [] => .nil
  | .inl i :: r => .cons (.int i) (kT_dp F r)
  | .inr x :: r => .cons (.str x) (kT_dp F r)
/-- while a dict of its own is locked -/
theorem d_lock {m : List (List Key × D)} {t : TE} (hi : δ[i]? = some (.ow (.dt a m)))
    (q : ∀ (c' : Cn g) od kvs, c'.H0 a = some (.frz od (.dT kvs)) → a ∉ c'.M → KM2 g c'.Fb kvs m → DE c' t (δ.set i (.rf a)) fun r δ' => δ' = δ.set i (.rf a) ∧ ∃ p l, r = .nw (.fl p l) ∧ Q (.nw (.fl p l)) δ) : DE c (tLockE t) δ Q := fun σ H F QV R k => by
  obtain ⟨v, hv, w⟩ := R.ow i _ hi
  have fa := R.fa a (mem_adS hi (List.mem_singleton.mpr rfl))
  have nm : a ∉ adS (δ.set i (.rf a)) := by
    rw [adS_rf]
    exact (List.nodup_cons.mp (nd_at R hi)).1
  cases w with
  | dt hH hk hl =>
    rename_i kvs
    refine ⟨a, .dT kvs, hH, True.intro, fun od => ?_⟩
    have Rr : Rel c σ H F (δ.set i (.rf a)) := by
      have z := R.setRf (i := i) (a := a)
      have es : σ.set i (some (.ref a)) = σ := by
        refine List.ext_getElem? fun j => ?_
        rw [List.getElem?_set]
        by_cases e : i = j
        · subst e
          rw [if_pos rfl, hv]
          split
          · rfl
          · rename_i n
            rw [List.getElem?_eq_none (by omega)] at hv
            cases hv
        · rw [if_neg e]
      rw [es] at z
      exact z
    have ne : ∀ b ∈ adS (δ.set i (.rf a)), b ≠ a := fun b m z => nm (z ▸ m)
    have R1 : Rel (⟨upd H a (.frz od (.dT kvs)), F, F, adS (δ.set i (.rf a))⟩ : Cn g) σ (upd H a (.frz od (.dT kvs))) F (δ.set i (.rf a)) := by
      refine ⟨fun b u e => ?_, fun _ _ e _ => e, fun _ z => z, fun _ _ => .inl rfl, Rr.len, Rr.fz, fun j o' e => ?_, Rr.nd, fun b m => ⟨(Rr.fa b m).1, .inr m⟩, Same.refl F, Rr.rf⟩
      · have : b ≠ a := fun z => by subst z; rw [fa.1] at e; cases e
        rw [upd_ne this]; exact Rr.sub b u e
      · obtain ⟨v, h1, h2⟩ := Rr.ow j o' e
        exact ⟨v, h1, h2.move (Same.refl F) fun b m => upd_ne (ne b (mem_adS e m))⟩
    refine q _ od kvs upd_same nm ⟨hk, hl⟩ σ _ F _ R1 fun v' H2 F2 r δ2 ⟨e, p, l, er, q2⟩ R2 s2 rep => ?_
    subst e
    subst er
    have hH2 : H2 a = some (.frz od (.dT kvs)) := R2.fr a _ upd_same nm
    have f2a : F2 a = none := fx_none (R2.ff a (by show upd H a (HO.frz od (HO.dT kvs)) a ≠ none; rw [upd_same]; exact fun z => nomatch z)) fa.1 R2.sub (by rw [hH2]; exact fun t z => nomatch z)
    have hasH1 : ∀ b, H b ≠ none → upd H a (.frz od (.dT kvs)) b ≠ none := fun b z => by
      by_cases e : b = a
      · subst e; rw [upd_same]; exact fun z => nomatch z
      · rw [upd_ne e]; exact z
    have keep : ∀ b u, H b = some u → b ≠ a → b ∉ adS δ → H2 b = some u := fun b u e n n2 => by
      refine R2.fr b u (by show upd H a (HO.frz od (HO.dT kvs)) b = some u; rw [upd_ne n]; exact e) fun z => n2 ?_
      have z : b ∈ adS (δ.set i (.rf a)) := z
      rw [adS_rf] at z
      exact (sub_no δ i).subset z
    have R3 : Rel c σ (upd H2 a (.dT kvs)) F2 δ := by
      refine ⟨fun b u e => ?_, fun b u e n => ?_, fun b z => ?_, fun b z => (R2.ff b (hasH1 b (R.fr2 b z))).trans (R.ff b z), R.len, fun j d e => ?_, fun j o' e => ?_, R.nd, fun b m => ⟨?_, (R.fa b m).2⟩, R.lb.trans s2, R.rf⟩
      · have : b ≠ a := fun z => by subst z; rw [f2a] at e; cases e
        rw [upd_ne this]; exact R2.sub b u e
      · have nb : b ∉ adS δ := fun m => by
          rcases (R.fa b m).2 with z | z
          · rw [e] at z; cases z
          · exact n z
        have : b ≠ a := fun z => nb (by rw [z]; exact mem_adS hi (List.mem_singleton.mpr rfl))
        rw [upd_ne this]
        exact keep b u (R.fr b u e n) this nb
      · by_cases e : b = a
        · subst e; rw [upd_same]; exact fun z => nomatch z
        · rw [upd_ne e]; exact R2.fr2 b (hasH1 b (R.fr2 b z))
      · have ne : i ≠ j := fun z => by subst z; rw [hi] at e; cases e
        exact R2.fz j d (by rw [List.getElem?_set_ne ne]; exact e)
      · by_cases z : i = j
        · subst z
          rw [hi] at e
          cases e
          exact ⟨_, hv, .dt upd_same hk (hl.mono s2)⟩
        · have e' : (δ.set i (.rf a))[j]? = some (.ow o') := by rw [List.getElem?_set_ne z]; exact e
          obtain ⟨v, h1, h2⟩ := R2.ow j o' e'
          exact ⟨v, h1, h2.move (Same.refl F2) fun b m => upd_ne (ne b (mem_adS e' m))⟩
      · by_cases z : b = a
        · subst z; exact f2a
        · refine fx_none (R2.ff b (hasH1 b (R.has b m))) (R.fa b m).1 R2.sub fun t h2 => ?_
          have m' : b ∈ adS (δ.set i (.rf a)) := by
            rw [adS_rf]
            have := nd_at R hi
            obtain ⟨j, o', e1, e2⟩ := of_adS m
            by_cases z2 : i = j
            · subst z2
              rw [hi] at e1
              cases e1
              exact absurd (List.mem_singleton.mp e2) z
            · exact mem_adS (i := j) (o := o') (by rw [List.getElem?_set_ne z2]; exact e1) e2
          exact R2.nt b m' t h2
    obtain ⟨w1, w2, w3⟩ := rep
    obtain ⟨g1, g2⟩ := w3 p (List.mem_singleton.mpr rfl)
    have g2 : upd H a (.frz od (.dT kvs)) p = none := g2
    have pa : p ≠ a := fun z => by rw [z, upd_same] at g2; cases g2
    have Hp : H p = none := by rw [← g2]; exact (upd_ne pa).symm
    refine ⟨hH2, k v' _ F2 _ δ q2 R3 s2 ⟨w1.move (Same.refl F2) fun b m => ?_, ?_, fun b m => ?_⟩⟩
    · simp only [OD.adrs, List.mem_singleton] at m
      subst m
      exact upd_ne pa
    · simp only [OD.adrs, List.singleton_append, List.nodup_cons]
      exact ⟨fun m => R.has p m Hp, R.nd⟩
    · simp only [OD.adrs, List.mem_singleton] at m
      subst m
      refine ⟨g1, ?_⟩
      cases z : c.H0 b with
      | none => rfl
      | some u => exact absurd Hp (R.fr2 b (by rw [z]; exact fun z => nomatch z))
/-- the j-th pair -/
def itD (m : List (List Key × D)) (j : Nat) : D := .tup [.tup ((m.getD j ([], .non)).1.map kD), (m.getD j ([], .non)).2]
theorem d_iItemsT {m : List (List Key × D)} {kvs : List (List Key × V)} {od : Obj} (hr : δ[i]? = some (.rf a)) (h0 : c.H0 a = some (.frz od (.dT kvs))) (hm : a ∉ c.M) (hk : KM2 g c.Fb kvs m)
    (q : QI m.length (itD m) (fun _ => True) δ) : DI c (iItemsT (tVar i)) δ QI := fun σ H F S R k => by
  have len : kvs.length = m.length := by
    have := congrArg List.length hk.1
    rwa [List.length_map, List.length_map] at this
  refine ⟨.ref a, R.rf i a hr, a, od, kvs, rfl, R.fr a _ h0 hm, k (ItiT a od kvs) H F m.length (itD m) _ δ q R (Same.refl F) ⟨fun j σ H F2 δ hj R s _ => ⟨R.fr a _ h0 hm, by omega⟩, ?_, fun σ H F2 δ R s _ => ⟨R.fr a _ h0 hm, by omega⟩⟩⟩
  rintro j σ H F2 δ x H' hj R s _ ⟨T, kk, vv, b, hkv, rfl, hT, hb, rfl⟩
  have hF : Same c.Fb F2 := R.lb
  have em : m[j]? = some (m.getD j ([], .non)) := by
    rw [List.getD_eq_getElem?_getD, List.getElem?_eq_getElem hj]; rfl
  have ek : kk = (m.getD j ([], .non)).1 := by
    have := congrArg (fun l : List (List Key) => l[j]?) hk.1
    simp only [List.getElem?_map, hkv, em, Option.map_some, Option.some.injEq] at this
    exact this
  have dv : Dp g F2 vv (m.getD j ([], .non)).2 := by
    obtain ⟨v, h1, h2⟩ := hk.2.get (i := j) (d := (m.getD j ([], .non)).2) (by rw [List.getElem?_map, em]; rfl)
    rw [List.getElem?_map, hkv] at h1
    cases h1
    exact h2.mono hF
  obtain ⟨Fq, hq, s2, sub2, fx⟩ : ∃ Fq : Hp, Fq b = some (.tup (kk.map kV)) ∧ Same F2 Fq ∧ Same Fq H ∧ ∀ z, Fx (Fq z) (F2 z) := by
    cases e : F2 b with
    | some u =>
      have := R.sub b u e
      rw [hb] at this
      cases this
      exact ⟨F2, e, Same.refl F2, R.sub, fun _ => .inl rfl⟩
    | none =>
      refine ⟨upd F2 b (.tup (kk.map kV)), upd_same, Same.new e, fun z u h => ?_, fun z => ?_⟩
      · by_cases n : z = b
        · subst n; rw [upd_same] at h; cases h; exact hb
        · rw [upd_ne n] at h; exact R.sub z u h
      · by_cases n : z = b
        · subst n; exact .inr ⟨e, _, upd_same⟩
        · exact .inl (upd_ne n)
  have Rq : Rel c σ H Fq δ := R.grow s2 sub2 (fun z _ => fx z) fun z m => fx_none (fx z) (R.fa z m).1 sub2 (R.nt z m)
  obtain ⟨R2, s3, sH⟩ := Rq.new (o := .tup [.ref b, vv]) hT
  have bT : b ≠ T := fun z => by subst z; rw [hb] at hT; cases hT
  refine ⟨_, R2, s2.trans s3, sH, fun z hz => ?_, .tup upd_same (.cons (.tup (by rw [upd_ne bT]; exact hq) ?_) (.cons (dv.mono (s2.trans s3)) .nil))⟩
  · have : z ≠ T := fun e => hz (by rw [e]; exact hT)
    rw [upd_ne this]
    exact fx z
  · rw [ek]
    exact kT_dp _ _
end
/-! the names by which the terms call these dicts -/
def tTGet2 (td ty tx : TE) : TE := tDGet2 td ty tx
def sTPut (td ty tv : TE) : TS := sDPut td ty tv
section
variable {g : Gb} {c : Cn g} {δ : List Sl} {x y : R} {Q : R → List Sl → Prop} {P : PD} {td ty tv : TE} {s z : Str}
theorem d_tget2' (q : DE c td δ fun x δ1 => (∃ m, x.frz.dtm δ1 = some m) ∧ DE c ty δ1 fun y δ2 => DE c tv δ2 fun z δ3 => ∃ m kd k d, x.frz.dtm δ3 = some m ∧ y.frz = .fz kd ∧ kd.keyT = some k ∧ z.frz = .fz d ∧ Q (.fz ((valD m k).getD d)) δ3) : DE c (tTGet2 td ty tv) δ Q := d_tget2 q
theorem d_tput' (q : DE c tv δ fun v δ1 => DE c td δ1 fun x δ2 => DE c ty δ2 fun y δ3 => ∃ i a m z k d, v.frz = .fz d ∧ x = .bw i ∧ δ3[i]? = some (Sl.ow (.dt a m)) ∧ y.frz = .fz z ∧ z.keyT = some k ∧ m.length < sizeLine ∧ P.nx (δ3.set i (.ow (.dt a (putD m k d))))) : DS c (sTPut td ty tv) δ P := d_tput q
end
end KD
namespace KB
open PySem PySem.Spec PyProof.Rows L2
section
variable {X : Cx} {o i e f value : Expr} {td ty tv tx : TE} {pos pos' apos cpos : Pos}
theorem pi_listK {K : PySem.W.Frag} {tg l : Expr} {tl : TE} (h : X.K = K) (hl : PE X l tl) : PI X tg l (iList K tl) := h ▸ pi_list hl
theorem pi_tupK {K : PySem.W.Frag} {tg l : Expr} {tl : TE} (h : X.K = K) (hl : PE X l tl) : PI X tg l (iTup K tl) := h ▸ pi_tup hl
theorem call_lenKK {K : PySem.W.Frag} (h : X.K = K) : CallR X (.builtin "len") (rLenK K) := h ▸ call_lenK
/-- in a comprehension nothing may be raised -/
def W0 : WX := fun _ _ _ _ => False
theorem takesN : Takes X W0 := fun u s' ⟨a, B, sI, pins, σ, H, cls, d, e, I, nb, up, sky, na, os, ag, w⟩ => w.elim
/-- the same, the written part told -/
theorem ix_seqK {K : PySem.W.Frag} (h : X.K = K) : IxR X (rIx K) := h ▸ ix_seq
theorem pe_tget2 (hu : X.A.units + 1 < cLine) (ho : PE X o td) (he : PE X e ty) (hf : PE X f tx) (m : M2 X o "get" apos e f cpos) : PE X (.Call (.Attribute o "get" apos) [e, f] [] cpos) (KD.tTGet2 td ty tx) := pe_dget2 hu ho he hf m
theorem ps_tput (hu : X.A.units + 1 < cLine) (ho : PE X o td) (hi : PE X i ty) (hv : PE X value tv) (hs : swapsWith value (some (.Subscript o i pos')) pos.line X.env = pure false) :
    PS X (.Assign [.Subscript o i pos'] value pos) (KD.sTPut td ty tv) := ps_dput hu ho hi hv hs
end
end KB
namespace KD
open PySem PySem.Spec PyProof.Rows L2 KB
theorem ok0 {g : Gb} (c : Cn g) : XOk c W0 (fun _ _ => False) := fun _ _ _ _ _ _ e => e.elim
section
variable {g : Gb} {c : Cn g} {δ : List Sl} {o : OD} {j : Nat} {Q : R → List Sl → Prop} {P : PD}
/-- what a slot holds alone may be frozen at any time -/
theorem d_frzE {t : TE} (hi : δ[j]? = some (.ow o)) (hM : c.M = []) (q : DE c t (δ.set j (.fz o.data)) Q) : DE c t δ Q := fun σ H F QV R k => by
  obtain ⟨F2, s2, R2⟩ := R.frzAt hi (fun a _ m => by rw [hM] at m; cases m)
  exact q σ H F2 QV R2 fun v H1 F1 x δ1 q1 R1 s1 rep => k v H1 F1 x δ1 q1 R1 (s2.trans s1) rep
theorem d_frzS {t : TS} (hi : δ[j]? = some (.ow o)) (hM : c.M = []) (q : DS c t (δ.set j (.fz o.data)) P) : DS c t δ P := fun σ H F E R k => by
  obtain ⟨F2, s2, R2⟩ := R.frzAt hi (fun a _ m => by rw [hM] at m; cases m)
  exact q σ H F2 E R2 (k.later s2)
end
end KD
namespace KB
open PySem PySem.Spec PyProof.Rows L2
def rLtS : V → V → Hp → VK → Prop := fun x y H Q => ∃ i j, x = .str i ∧ y = .str j ∧ Q (.bl (decide (i.cps.toList < j.cps.toList))) H
theorem op_lt_strD {X : Cx} : OpR X (compareOp .Lt) rLtS := op_lt_str
end KB
namespace KD
open PySem PySem.Spec PyProof.Rows L2 KB
theorem d_ltS {g : Gb} {c : Cn g} {δ : List Sl} {x y : R} {Q : R → List Sl → Prop} {i j : Str} (hx : x = .fz (.str i)) (hy : y = .fz (.str j)) (q : Q (.fz (.bl (decide (i.cps.toList < j.cps.toList)))) δ) : DO c rLtS x y δ Q := fun σ H F v w QV R k1 k2 k => by
  subst hx; subst hy
  cases k1; cases k2
  exact ⟨i, j, rfl, rfl, k _ H F _ _ q R (Same.refl F) (.bl _)⟩
end KD

set_option maxHeartbeats 4000000
/-! sorted of tuples of ints, repr, list of a text, pop of a dict with None among its keys. Own work over the hand layer. -/
namespace KB
open PySem PySem.Spec PyProof.Rows L2
/-- by entries, from the first one on -/
def lexL : List Int → List Int → Bool
  | _, [] => false
  | [], _ :: _ => true
  | x :: a, y :: b => if x = y then lexL a b else decide (x < y)
theorem lexL_asym : ∀ a b : List Int, lexL a b = true → lexL b a = false
  | [], [], h => by simp [lexL] at h
  | [], _ :: _, _ => rfl
  | _ :: _, [], h => by simp [lexL] at h
  | x :: a, y :: b, h => by
    simp only [lexL] at h ⊢
    by_cases e : x = y
    · rw [if_pos e] at h
      rw [if_pos e.symm]
      exact lexL_asym a b h
    · rw [if_neg e, decide_eq_true_eq] at h
      rw [if_neg (fun z => e z.symm), decide_eq_false_iff_not]
      omega
theorem lexL_tr : ∀ a b c : List Int, lexL b a = false → lexL c b = false → lexL c a = false
  | a, b, [], h, k => by
    cases a with
    | nil => rfl
    | cons x a =>
      cases b with
      | nil => simp [lexL] at h
      | cons y b => simp [lexL] at k
  | [], b, z :: c, h, k => by simp [lexL]
  | x :: a, [], z :: c, h, k => by simp [lexL] at h
  | x :: a, y :: b, z :: c, h, k => by
    simp only [lexL] at h k ⊢
    by_cases e1 : y = x
    · rw [if_pos e1] at h
      by_cases e2 : z = y
      · rw [if_pos e2] at k
        rw [if_pos (e2.trans e1)]
        exact lexL_tr a b c h k
      · rw [if_neg e2, decide_eq_false_iff_not] at k
        rw [if_neg (by omega), decide_eq_false_iff_not]
        omega
    · rw [if_neg e1, decide_eq_false_iff_not] at h
      by_cases e2 : z = y
      · rw [if_neg (by omega), decide_eq_false_iff_not]
        omega
      · rw [if_neg e2, decide_eq_false_iff_not] at k
        rw [if_neg (by omega), decide_eq_false_iff_not]
        omega
theorem lexL_tot : ∀ a b : List Int, lexL a b = false → lexL b a = false → a = b
  | [], [], _, _ => rfl
  | [], _ :: _, h, _ => by simp [lexL] at h
  | _ :: _, [], _, h => by simp [lexL] at h
  | x :: a, y :: b, h, k => by
    simp only [lexL] at h k
    by_cases e : x = y
    · rw [if_pos e] at h
      rw [if_pos e.symm] at k
      rw [e, lexL_tot a b h k]
    · rw [if_neg e, decide_eq_false_iff_not] at h
      rw [if_neg (fun z => e z.symm), decide_eq_false_iff_not] at k
      omega
theorem lexL_swo {α : Type} (k : α → List Int) : SrtO.Swo fun x y => lexL (k x) (k y) := ⟨fun x y h => lexL_asym _ _ h, fun x y z h1 h2 => lexL_tr _ _ _ h1 h2⟩
/-- values that are these ints -/
def AreI : List Value → List Int → Prop
  | [], [] => True
  | u :: us, x :: xs => (∃ t, u = .int x t) ∧ AreI us xs
  | _, _ => False
theorem areI_vals : ∀ {xs : List Int} {us : List Value}, Vals (xs.map V.int) us → AreI us xs
  | [], _, h => by cases h; trivial
  | x :: xs, _, h => by
    cases h with
    | cons h t => exact ⟨h, areI_vals t⟩
def IsTI (h : Heap) (v : Value) (ns : List Int) : Prop := ∃ a o us n, v = .ref a ∧ h.get? a = some o ∧ o.cls = .type "tuple" ∧ o.data = .seq us n ∧ AreI us.toList ns
theorem IsTI.keeps {h h' : Heap} {v : Value} {ns : List Int} (p : IsTI h v ns) (k : ∀ b o, h.get? b = some o → o.cls = .type "tuple" → h'.get? b = some o) : IsTI h' v ns :=
  let ⟨a, o, us, n, e, e1, e2, e3, e4⟩ := p
  ⟨a, o, us, n, e, k _ _ e1 e2, e2, e3, e4⟩
section
variable {prog : Program} {w : World} {A : Around} {s : Shared}
theorem lex_walk : ∀ {us vs : List Value} {xs ys : List Int} {i : Nat} {q : Bool → Shared → Prop}, AreI us xs → AreI vs ys → xs.length = ys.length → q (lexL xs ys) s → PySem.W.KatLex prog w A true false q (us.zip vs) i s
  | [], [], [], [], i, q, _, _, _, h => PySem.W.kat_nil h
  | [], [], [], _ :: _, _, _, _, h2, _, _ => h2.elim
  | [], [], _ :: _, _, _, _, h1, _, _, _ => h1.elim
  | [], _ :: _, _, [], _, _, _, h2, _, _ => h2.elim
  | [], _ :: _, [], _ :: _, _, _, _, _, l, _ => by simp at l
  | [], _ :: _, _ :: _, _, _, _, h1, _, _, _ => h1.elim
  | _ :: _, _, [], _, _, _, h1, _, _, _ => h1.elim
  | _ :: _, [], _ :: _, [], _, _, _, _, l, _ => by simp at l
  | _ :: _, [], _, _ :: _, _, _, _, h2, _, _ => h2.elim
  | _ :: _, _ :: _, _ :: _, [], _, _, _, h2, _, _ => h2.elim
  | u :: us, v :: vs, x :: xs, y :: ys, i, q, ⟨⟨t, e1⟩, h1⟩, ⟨⟨t', e2⟩, h2⟩, l, h => by
    subst e1 e2
    refine PySem.W.kat_cons (SeqAt.EqAt.int_int x t y t' prog w _ _ ?_)
    refine PySem.W.kat_go (fun z => ?_) (fun z => ?_)
    · have e : x = y := by simpa using z
      refine PySem.W.kat_yes (lex_walk h1 h2 (by simpa using l) ?_)
      rw [lexL, if_pos e] at h
      exact h
    · have e : ¬ x = y := by simpa using z
      rw [lexL, if_neg e] at h
      refine PySem.W.kat_no ?_
      cases i with
      | zero => exact oneLt_int h
      | succ i =>
        rw [show (true && (i + 1 == 0)) = false by simp]
        exact PySem.W.kat_one _ _ (PyProof.Rows.lt_int h)
theorem tups_cmp {vs : List Value} {k : Value → List Int} {d : Nat} (hp : ∀ v ∈ vs, IsTI s.heap v (k v) ∧ (k v).length = d) : SrtO.Cmp prog w A s (tuples' true) (fun p => p.1 ∈ vs) (SrtO.lt2 fun v u => lexL (k v) (k u)) := by
  rintro p q hm hm'
  obtain ⟨⟨a, o, us, n, e, g1, _, g2, g3⟩, l1⟩ := hp _ hm
  obtain ⟨⟨a', o', us', n', e', g1', _, g2', g3'⟩, l2⟩ := hp _ hm'
  show wpAny (model prog w) A (keyLt' (tuples' true) p.1 q.1) (fun r s' => s' = s ∧ r = lexL (k p.1) (k q.1)) (fun _ _ => False) s
  have len : ∀ {us : List Value} {xs : List Int}, AreI us xs → us.length = xs.length := by
    intro us
    induction us with
    | nil => intro xs h; cases xs with
      | nil => rfl
      | cons _ _ => exact h.elim
    | cons u us ih => intro xs h; cases xs with
      | nil => exact h.elim
      | cons x xs => rw [List.length_cons, List.length_cons, ih h.2]
  generalize k p.1 = ks at g3 l1 ⊢
  generalize k q.1 = kt at g3' l2 ⊢
  rw [e, e']
  refine PySem.W.kat_lt g1 g2 g1' g2' ?_
  have ez : decide (us.size < us'.size) = false := by
    have q1 := len g3
    have q2 := len g3'
    rw [Array.length_toList] at q1 q2
    exact decide_eq_false (by omega)
  rw [ez]
  exact lex_walk g3 g3' (by omega) ⟨rfl, rfl⟩
theorem tups_firsts {h : Heap} : ∀ {vs : List Value}, (∀ v ∈ vs, ∃ x r, IsTI h v (x :: r)) → ∃ fs : List Value, PySem.W.KatTups h vs fs ∧ fs.length = vs.length ∧ ∀ f ∈ fs, ∃ x t, f = Value.int x t
  | [], _ => ⟨[], trivial, rfl, fun _ hm => nomatch hm⟩
  | v :: vs, hp => by
    obtain ⟨fs, h1, h2, h3⟩ := tups_firsts (vs := vs) fun v' hm => hp v' (List.mem_cons_of_mem _ hm)
    obtain ⟨x, r, a, o, us, n, e, g1, g0, g2, g3⟩ := hp v List.mem_cons_self
    subst e
    obtain ⟨ul⟩ := us
    cases ul with
    | nil => exact g3.elim
    | cons u ul =>
      obtain ⟨⟨t, eu⟩, _⟩ := g3
      refine ⟨u :: fs, PySem.W.KatTups.cons g1 g0 g2 rfl h1, by rw [List.length_cons, List.length_cons, h2], fun f hf => ?_⟩
      rcases List.mem_cons.mp hf with q | q
      · exact ⟨x, t, q.trans eu⟩
      · exact h3 f q
theorem tups_sortable {a : Addr} {vs : List Value} {k : Value → List Int} {d : Nat} (h0 : 0 < vs.length) (hd : 0 < d) (hp : ∀ v ∈ vs, IsTI s.heap v (k v) ∧ (k v).length = d) (ha : ∀ o, s.heap.get? a = some o → o.cls ≠ .type "tuple") :
    SrtO.SortableO prog w A s a vs fun v u => lexL (k v) (k u) := by
  intro h' keep
  have hp' : ∀ v ∈ vs, IsTI h' v (k v) ∧ (k v).length = d := fun v hm => ⟨(hp v hm).1.keeps fun b o e c => keep b o (fun z => by subst z; exact ha o e c) e, (hp v hm).2⟩
  obtain ⟨fs, h1, h2, h3⟩ := tups_firsts (h := h') (vs := vs) fun v hm => by
    obtain ⟨q, l⟩ := hp' v hm
    generalize k v = ks at q l
    cases ks with
    | nil => simp at l; omega
    | cons x r => exact ⟨x, r, q⟩
  refine ⟨tuples' true, fun Q E hq => ?_, tups_cmp (s := { s with heap := h' }) hp'⟩
  refine PySem.W.kat_kind (T := .type "int") h1 (by omega) (fun f hf => ?_) (by rfl) ?_
  · obtain ⟨x, t, rfl⟩ := h3 f hf
    exact PySem.W.Looks.now
  · rw [show (Value.type "int" != Value.type "tuple") = true by decide +kernel]
    exact hq
end
/-- sorted of a list of tuples of ints, all of a length -/
def rSortTI (K : PySem.W.Frag) : List V → Hp → VK → Prop := fun vs H Q => ∃ (a : Addr) (xs : List V) (k : V → List Int) (d : Nat), vs = [V.ref a] ∧ SqL K H a xs ∧ 0 < d ∧ (∀ x ∈ xs, (∃ t, x = V.ref t ∧ H t = some (.tup ((k x).map V.int))) ∧ (k x).length = d) ∧
  ∀ ys p, ys.Pairwise (fun x y => lexL (k y) (k x) = false) → ys.Perm xs → H p = none → Q (.ref p) (upd H p (.lst ys))
theorem cr_sortTI {X : Cx} : CallR X (.builtin "sorted") (rSortTI X.K) := by
  intro pins s σ H vs us Q I r h
  obtain ⟨a, xs, k, d, rfl, hs, hd0, hx, q⟩ := h
  obtain ⟨its, rv, hl, hz⟩ := I.list hs
  obtain ⟨u, rfl, ru⟩ := vals1 r
  obtain rfl : u = Value.ref a := ru
  obtain ⟨e1, e2⟩ := refs_back rv fun x m => let ⟨⟨t, e, _⟩, _⟩ := hx x m; ⟨t, e⟩
  have hti : ∀ v ∈ its, IsTI s.heap v (k (backV v)) ∧ (k (backV v)).length = d := fun v hv => by
    obtain ⟨t, rfl⟩ := e2 v hv
    obtain ⟨⟨t', e, ht⟩, l⟩ := hx (V.ref t) (by rw [e1]; exact List.mem_map.mpr ⟨_, hv, rfl⟩)
    cases e
    obtain ⟨_, vv, rr, o, ho, hc, n, hdd⟩ := I.hok _ _ ht
    exact ⟨⟨t, o, vv.toArray, n, rfl, ho, hc, hdd, areI_vals rr⟩, l⟩
  refine SrtO.sorted_ord (ltv := fun v u => lexL (k (backV v)) (k (backV u))) (lexL_swo fun v => k (backV v)) hl.isList (by rw [← rv.length]; exact hz) (fun hlen h₁ b hb keep => ?_) fun out h1 h2 => ?_
  · refine tups_sortable (s := { s with heap := h₁ }) (by omega) hd0 (fun v hv => ⟨(hti v hv).1.keeps fun b' o e _ => (keep b' o e).2, (hti v hv).2⟩) fun o e z => ?_
    rw [hb] at e
    cases e
    exact absurd (Value.type.inj z) (by decide)
  · have h3 : ∀ u ∈ out, ∃ a, u = Value.ref a := fun u hu => e2 u (h2.perm.mem_iff.mp hu)
    obtain ⟨n, hn⟩ := PyProof.Rows.sortedAll_at s.heap its out.toArray
    have hp : (out.map backV).Perm xs := by rw [e1]; exact h2.perm.map backV
    refine ⟨.ref (s.heap.objs.size + 1), upd H (s.heap.objs.size + 1) (.lst (out.map backV)), I.laid (t' := s.toks) (fun _ _ => PyProof.Rows.sortedAll_old) (Nat.le_succ _) ⟨?_, out, n, vals_back h3, by simpa using hn⟩, rfl,
      q _ _ (List.pairwise_map.mpr h1) hp (I.hok.fresh (Nat.le_succ _))⟩
    rw [hp.length_eq]
    exact hz
/-- repr of a tuple of plain things: its text -/
def rRepr (K : PySem.W.Frag) : List V → Hp → VK → Prop := fun xs H Q => ∃ (a : Addr) (d : PyData), xs = [.ref a] ∧ L2.Dp K H (.ref a) d ∧ d.showable = true ∧ d.hasDict = false ∧ d.depth ≤ 40 ∧ d.shown.length ≤ sizeLine ∧ Q (.str d.shown) H
theorem call_reprG {X : Cx} (hg : X.A.guards = some []) (hu : X.A.units + 64 < cLine) : CallR X (.builtin "repr") (rRepr X.K) := by
  intro pins s σ H xs us Q I r h
  obtain ⟨a, d, rfl, hd, h1, h2, h3, h4, q⟩ := h
  obtain ⟨u, rfl, ru⟩ := vals1 r
  obtain rfl : u = Value.ref a := ru
  obtain ⟨as, rd⟩ := L2.Dp.reads I d (V.ref a) (Value.ref a) hd rfl
  exact PySem.repr_of_reads' (h₀ := s.heap) rd h1 (PyData.noDict_hsm h2) hg (by omega) (fun _ _ e => e) (fun h' u tk hk => ⟨.str d.shown, H, I.kept hk, ⟨u, rfl⟩, q⟩) h4
/-- list of a text: its signs -/
def sgV (z : Str) : List V := z.cps.toList.map fun c => V.str ⟨#[c]⟩
def rListS : List V → Hp → VK → Prop := fun xs H Q => ∃ z : Str, xs = [.str z] ∧ z.length ≤ sizeLine ∧ ∀ p, H p = none → Q (.ref p) (upd H p (.lst (sgV z)))
theorem call_listS {X : Cx} (hc : X.calm = true) : CallR X (.type "list") rListS := by
  intro pins s σ H xs us Q I r h
  obtain ⟨z, rfl, hz, q⟩ := h
  obtain ⟨u, rfl, ru⟩ := vals1 r
  obtain ⟨t, rfl⟩ : ∃ t, u = Value.str z t := ru
  refine PySem.call_list_str (I.ok.hd hc) z t (fun h' tk acc c' hk e hi => ?_) hz
  have hl : (sgV z).length ≤ sizeLine := by unfold sgV; rw [List.length_map]; exact hz
  refine ⟨.ref s.heap.objs.size, upd H s.heap.objs.size (.lst (sgV z)), I.laid hk (Nat.le_refl _) (show ObjOk X.prog X.w _ _ _ (.lst (sgV z)) from ⟨hl, acc.toList, c', ?_, by rw [Array.toArray_toList]; exact e⟩), rfl, q _ (I.hok.fresh (Nat.le_refl _))⟩
  refine vals_of_at ?_ fun j x u hx hu => ?_
  · unfold sgV
    rw [List.length_map, Array.length_toList, Array.length_toList]
    exact hi.1.symm
  · have hj := hi.2 j u (by rw [← hu, Array.getElem?_toList])
    unfold sgV at hx
    rw [List.getElem?_map] at hx
    obtain ⟨c, hc1, hc2⟩ := Option.map_eq_some_iff.mp hx
    subst hc2
    obtain ⟨c2, t2, hc3, hc4⟩ := hj
    rw [← Array.getElem?_toList] at hc3
    rw [hc1] at hc3
    cases hc3
    exact ⟨t2, hc4⟩
/-! a dict with None among its keys: pop of an int -/
section
variable {X : Cx} {pins : List (Addr × Obj)} {σ : L2.St} {H : Hp} {s : Shared} {a : Addr} {kvs : List (Option Key × V)} {A : Around} {E : Value → Shared → Prop}
theorem n_pop {i : Int} {u r : Value} {v : V} {Q : Value → Shared → Prop} (I : Inv X pins σ H s) (g : HasN X.prog X.w H a kvs) (ry : RelV (.int i) u) (l : valV kvs (some (.inl i)) = some v)
    (h : ∀ w' s', Inv X pins σ (L2.upd H a (DNo X.prog X.w a (dropK kvs (some (.inl i))))) s' → RelV v w' → Q w' s') : wpAny (model X.prog X.w) A (call (.builtin "dict.pop") [.ref a, u, r]) Q E s := by
  obtain ⟨z, hd, vs, rel, dd⟩ := g.rd I
  obtain ⟨w', hw, rw'⟩ := RelO.some_of (v := v) (o := valueAt vs (some (.inl i))) (by rw [← l]; exact rel.val _)
  obtain ⟨t, rfl⟩ : ∃ t, u = Value.int i t := ry
  refine call_meetsIn PySem.F.slot_dict_pop dd.typeIs PySem.F.entry_dict_pop (PySem.F.args_dict_pop_3 _ _ _) (meets_dict_pop_there (noneKind X.prog X.w) a (kN_is (k := some (.inl i)) ⟨t, rfl⟩) [r] (.inr ⟨r, rfl⟩) rfl)
    ⟨vs, w', dd, by rw [← rel.length]; exact z, hw, fun h' dd' hs => h w' _ ?_ rw'⟩
  exact d_write I g.mut hs (let ⟨q, _, _, hq, _⟩ := dd'; ⟨q, hq⟩) (dno_new (Nat.le_trans (dropK_le kvs _) z) hd (rel.drop _) dd')
theorem n_popD {i : Int} {u r : Value} {Q : Value → Shared → Prop} (I : Inv X pins σ H s) (g : HasN X.prog X.w H a kvs) (ry : RelV (.int i) u) (l : valV kvs (some (.inl i)) = none)
    (h : ∀ s', Inv X pins σ H s' → Q r s') : wpAny (model X.prog X.w) A (call (.builtin "dict.pop") [.ref a, u, r]) Q E s := by
  obtain ⟨z, hd, vs, rel, dd⟩ := g.rd I
  have hn : valueAt vs (some (.inl i)) = none := RelO.none_of (by rw [← l]; exact rel.val _)
  obtain ⟨t, rfl⟩ : ∃ t, u = Value.int i t := ry
  exact call_meetsIn PySem.F.slot_dict_pop dd.typeIs PySem.F.entry_dict_pop (PySem.F.args_dict_pop_3 _ _ _) (meets_dict_pop_default (noneKind X.prog X.w) a (kN_is (k := some (.inl i)) ⟨t, rfl⟩) hd rfl r) ⟨vs, dd, hn, h _ (I.tok _)⟩
end
def tNPop2 (P : Program) (w : World) (td ty tx : TE) : TE := fun σ H Q => td σ H fun x H1 => ∃ a, x = .ref a ∧ (∃ kvs, HasN P w H1 a kvs) ∧ ty σ H1 fun y H2 => tx σ H2 fun z H3 => ∃ kvs i, HasN P w H3 a kvs ∧ y = .int i ∧
  (∀ v, valV kvs (some (.inl i)) = some v → Q v (L2.upd H3 a (DNo P w a (dropK kvs (some (.inl i)))))) ∧ (valV kvs (some (.inl i)) = none → Q z H3)
theorem pe_npop2 {X : Cx} {o e f : Expr} {td ty tx : TE} {apos cpos : Pos} (ho : PE X o td) (he : PE X e ty) (hf : PE X f tx) (m : M2 X o "pop" apos e f cpos) : PE X (.Call (.Attribute o "pop" apos) [e, f] [] cpos) (tNPop2 X.prog X.w td ty tx) := by
  refine ⟨fun pins s σ H Q I h => wpAny_Call_method m.base m.few m.line PySem.F.plainAttrs_dict PySem.F.slot_dict_pop PySem.F.type_dict_pop (thn (ho.run pins s σ H _ I h) fun u s1 ⟨x, H1, I1, rx, a, ex, ⟨kv0, g0⟩, q1⟩ => ?_)⟩
  subst ex
  obtain rfl : u = Value.ref a := rx
  obtain ⟨_, _, _, _, dd⟩ := g0.rd I1
  refine ⟨dd.typeIs, dd.mapOf.noDict, ?_⟩
  rw [m.trees]
  refine Calls.callWith_builtin rfl (Calls.evalArgs_plain (Calls.spliced_cons (thn (he.run pins s1 σ H1 _ I1 q1) fun iv s2 ⟨y, H2, I2, ry, q2⟩ => Calls.spliced_cons
    (thn (hf.run pins s2 σ H2 _ I2 q2) fun fv s3 ⟨z, H3, I3, rz, kvs, i, g, ey, q3, q4⟩ => Calls.spliced_nil ?_))))
  subst ey
  cases l : valV kvs (some (.inl i)) with
  | some v => exact n_pop I3 g ry l fun w' s4 I4 rw' => ⟨v, _, I4, rw', q3 v l⟩
  | none => exact n_popD I3 g ry l fun s4 I4 => ⟨z, H3, I4, rz, q4 l⟩
end KB

namespace KD
open PySem PySem.Spec PyProof.Rows L2 KB
section
variable {g : Gb} {c : Cn g} {σ : L2.St} {H F H' F' : Hp} {δ : List Sl} {Q : R → List Sl → Prop} {QI : Nat → (Nat → D) → (List Sl → Prop) → List Sl → Prop} {te td ty tv : TE} {tr : TA} {x y : R} {ds : List D} {i : Nat} {d : D}
/-- a tuple of ints -/
def tiD (ns : List Int) : D := .tup (ns.map D.int)
def unI : V → Int
  | .int i => i
  | _ => 0
theorem unI_map (ns : List Int) : (ns.map V.int).map unI = ns := by rw [List.map_map]; exact List.map_id ns
theorem tis_of : ∀ {vs : List V} {ts : List (List Int)}, DpL g F vs (ts.map tiD) → (∀ v ∈ vs, ∃ t ns, v = V.ref t ∧ F t = some (.tup (ns.map V.int)) ∧ ns ∈ ts)
  | _, [], h => by cases h; exact fun v hv => nomatch hv
  | _, ns :: ts, h => by
    cases h with
    | cons h t =>
      intro v hv
      rcases List.mem_cons.mp hv with rfl | hv
      · cases h with
        | tup e l => exact ⟨_, ns, rfl, by rw [e, dp_ints l], List.mem_cons_self⟩
      · obtain ⟨t', ns', e1, e2, e3⟩ := tis_of t v hv
        exact ⟨t', ns', e1, e2, List.mem_cons_of_mem _ e3⟩
/-- the ints of a tuple in the heap -/
def tiOf (F : Hp) (v : V) : List Int := match v with
  | .ref t => match F t with
    | some (.tup us) => us.map unI
    | _ => []
  | _ => []
theorem tiOf_map : ∀ {vs : List V} {ts : List (List Int)}, DpL g F vs (ts.map tiD) → vs.map (tiOf F) = ts
  | _, [], h => by cases h; rfl
  | _, ns :: ts, h => by
    cases h with
    | cons h t =>
      rw [List.map_cons, tiOf_map t]
      congr 1
      cases h with
      | tup e l =>
        simp only [tiOf, e]
        rw [dp_ints l, unI_map]
theorem d_sortTI {K : PySem.W.Frag} {ts : List (List Int)} {n : Nat} (hK : K = g.K) (hx : x.lsR δ = some ds) (hn : ds = ts.map tiD) (h0 : 0 < n) (hl : ∀ t ∈ ts, t.length = n)
    (q : ∀ p (ts' : List (List Int)), ts'.Perm ts → ts'.Pairwise (fun a b => lexL b a = false) → Q (.nw (.fl p (ts'.map tiD))) δ) : DC c (rSortTI K) [x] δ Q := fun σ H F vs QV R k1 k => by
  subst hK
  obtain ⟨v, rfl, h⟩ := one_rep k1
  obtain ⟨a, ws, rfl, hs, hd⟩ := lsR_ok R h hx
  subst hn
  have kf : ∀ v ∈ ws, ∃ t, v = V.ref t ∧ F t = some (.tup ((tiOf F v).map V.int)) ∧ tiOf F v ∈ ts := fun v hv => by
    obtain ⟨t, ns, rfl, e, m⟩ := tis_of hd v hv
    have e2 : tiOf F (.ref t) = ns := by simp only [tiOf, e]; exact unI_map ns
    exact ⟨t, rfl, by rw [e2]; exact e, by rw [e2]; exact m⟩
  refine ⟨a, ws, tiOf F, n, rfl, hs, h0, fun v hv => ?_, fun ys p hp hperm hnone => ?_⟩
  · obtain ⟨t, rfl, e, m⟩ := kf v hv
    exact ⟨⟨t, rfl, R.sub _ _ e⟩, hl _ m⟩
  · have hdy : DpL g F ys ((ys.map (tiOf F)).map tiD) := by
      have key : ∀ l : List V, (∀ v ∈ l, v ∈ ws) → DpL g F l ((l.map (tiOf F)).map tiD) := by
        intro l
        induction l with
        | nil => intro _; exact .nil
        | cons v r ih =>
          intro hm
          refine .cons ?_ (ih fun u hu => hm u (List.mem_cons_of_mem _ hu))
          obtain ⟨t, rfl, e, _⟩ := kf v (hm v List.mem_cons_self)
          refine .tup e ?_
          have : ∀ ns : List Int, DpL g F (ns.map V.int) (ns.map D.int) := fun ns => by
            induction ns with
            | nil => exact .nil
            | cons n r ih => exact .cons (.int n) ih
          exact this _
      exact key ys fun v hv => hperm.mem_iff.mp hv
    obtain ⟨R2, rep2⟩ := nw_ok R hnone hdy
    refine k _ _ _ _ δ (q p (ys.map (tiOf F)) ?_ (List.pairwise_map.mpr hp)) R2 (Same.refl F) rep2
    have := hperm.map (tiOf F)
    rwa [tiOf_map hd] at this
theorem d_repr {K : PySem.W.Frag} {p : PyData} (hK : K = g.K) (hx : x = .fz d) (ht : d.isN = false ∧ (∃ l, d = .tup l)) (hp : pyD d = some p) (h1 : p.showable = true) (h2 : p.hasDict = false) (h3 : p.depth ≤ 40) (h4 : p.shown.length ≤ sizeLine) (q : Q (.fz (.str p.shown)) δ) : DC c (rRepr K) [x] δ Q := fun σ H F vs QV R k1 k => by
  subst hK; subst hx
  obtain ⟨v, rfl, h⟩ := one_rep k1
  obtain ⟨_, l, rfl⟩ := ht
  have hd := pyD_ok (Dp.mono R.sub h) hp
  have h' : Dp g F v (.tup l) := h
  cases h' with
  | tup e _ => exact ⟨_, p, rfl, hd, h1, h2, h3, h4, k _ H F _ δ q R (Same.refl F) (.str _)⟩
theorem sg_dp (F : Hp) (z : Str) : DpL g F (sgV z) (z.cps.toList.map fun ch => D.str ⟨#[ch]⟩) := by
  unfold sgV
  induction z.cps.toList with
  | nil => exact .nil
  | cons a r ih => exact .cons (.str _) ih
theorem d_listS {z : Str} (hx : x = .fz (.str z)) (hz : z.length ≤ sizeLine) (q : ∀ p, Q (.nw (.fl p (z.cps.toList.map fun ch => D.str ⟨#[ch]⟩))) δ) : DC c rListS [x] δ Q := fun σ H F vs QV R k1 k => by
  subst hx
  obtain ⟨v, rfl, h⟩ := one_rep k1
  cases h
  refine ⟨z, rfl, hz, fun l hl => ?_⟩
  obtain ⟨R2, rep2⟩ := nw_ok R hl (sg_dp F z)
  exact k _ _ _ _ δ (q l) R2 (Same.refl F) rep2
theorem d_npop2 {P0 : Program} {w0 : World} (hP : P0 = g.P) (hw : w0 = g.w) (q : DE c td δ fun x δ1 => ∃ i a, x = .bw i ∧ (∃ m, δ1[i]? = some (Sl.ow (.dn a m))) ∧ DE c ty δ1 fun y δ2 => DE c tv δ2 fun z δ3 => ∃ m n dz, δ3[i]? = some (Sl.ow (.dn a m)) ∧ y.frz = .fz (.int n) ∧ z.frz = .fz dz ∧
    (∀ d, valD m (some (.inl n)) = some d → Q (.fz d) (δ3.set i (.ow (.dn a (dropD m (some (.inl n))))))) ∧ (valD m (some (.inl n)) = none → Q (.fz dz) δ3)) : DE c (tNPop2 P0 w0 td ty tv) δ Q := fun σ H F QV R kk => by
  subst hP; subst hw
  refine q σ H F (fun x H1 => ∃ a, x = .ref a ∧ (∃ kvs, HasN g.P g.w H1 a kvs) ∧ ty σ H1 fun y H2 => tv σ H2 fun z H3 => ∃ kvs i, HasN g.P g.w H3 a kvs ∧ y = .int i ∧
    (∀ v, valV kvs (some (.inl i)) = some v → QV v (L2.upd H3 a (DNo g.P g.w a (dropK kvs (some (.inl i)))))) ∧ (valV kvs (some (.inl i)) = none → QV z H3)) R fun v H1 F1 x δ1 ⟨i, a, ex, ⟨m0, hi0⟩, q1⟩ R1 s1 rep1 => ?_
  subst ex
  have rep1 : σ[i]? = some (some v) := rep1
  obtain ⟨v0, hv0, w0⟩ := R1.ow i _ hi0
  rw [rep1] at hv0
  cases hv0
  have ev : v = .ref a := by cases w0; rfl
  subst ev
  have hk0 : ∃ kvs, HasN g.P g.w H1 a kvs := by
    cases w0 with
    | dn h _ _ => exact ⟨_, h⟩
  refine ⟨a, rfl, hk0, ?_⟩
  refine de_frz (QV := fun y H2 => tv σ H2 fun z H3 => ∃ kvs i, HasN g.P g.w H3 a kvs ∧ y = .int i ∧
    (∀ v, valV kvs (some (.inl i)) = some v → QV v (L2.upd H3 a (DNo g.P g.w a (dropK kvs (some (.inl i)))))) ∧ (valV kvs (some (.inl i)) = none → QV z H3)) q1 R1 fun w H2 F2 y δ2 q2 R2 s2 rep2 => ?_
  refine de_frz (QV := fun z H3 => ∃ kvs i, HasN g.P g.w H3 a kvs ∧ w = .int i ∧
    (∀ v, valV kvs (some (.inl i)) = some v → QV v (L2.upd H3 a (DNo g.P g.w a (dropK kvs (some (.inl i)))))) ∧ (valV kvs (some (.inl i)) = none → QV z H3)) q2 R2 fun u H3 F3 z δ3 ⟨m, n, dz, hi, hy, hz, q3, q4⟩ R3 s3 rep3 => ?_
  have rep2 := rep_keep (δ' := δ3) (H' := H3) rep2 (frz_frz _) s3
  rw [hy] at rep2
  rw [hz] at rep3
  have rep2 : Dp g F3 w (.int n) := rep2
  obtain rfl : w = .int n := by cases rep2; rfl
  obtain ⟨v3, hv3, w3⟩ := R3.ow i _ hi
  rw [rep1] at hv3
  cases hv3
  cases w3 with
  | dn h e l =>
    rename_i kvs
    have hm : KM2 g F3 kvs m := ⟨e, l⟩
    refine ⟨kvs, n, h, rfl, fun v hv => ?_, fun hv => ?_⟩
    · rcases km_val (k := some (.inl n)) hm with ⟨z1, _⟩ | ⟨v', d', z1, z2, z3⟩
      · rw [z1] at hv; cases hv
      · rw [z1] at hv
        cases hv
        exact kk v _ F3 _ _ (q3 d' z2) (dn_chg R3 hi (km_drop hm)) ((s1.trans s2).trans s3) z3
    · rcases km_val (k := some (.inl n)) hm with ⟨_, z2⟩ | ⟨v', d', z1, z2, z3⟩
      · exact kk u H3 F3 _ δ3 (q4 z2) R3 ((s1.trans s2).trans s3) rep3
      · rw [z1] at hv; cases hv
/-- range(a, b) from its end; list(range(..)) -/
def DRg (c : Cn g) (t : L2.St → Hp → (Int → Int → Hp → Prop) → Prop) (δ : List Sl) (Qr : Int → Int → List Sl → Prop) : Prop := ∀ σ H F (S : Int → Int → Hp → Prop), Rel c σ H F δ → (∀ a b H' F' δ', Qr a b δ' → Rel c σ H' F' δ' → Same F F' → S a b H') → t σ H S
theorem d_rg1 {Qr : Int → Int → List Sl → Prop} (q : DE c te δ fun x δ1 => ∃ n : Int, x = .fz (.int n) ∧ Qr 0 n δ1) : DRg c (tRg1 te) δ Qr := fun σ H F S R k =>
  q σ H F _ R fun v H1 F1 x δ1 ⟨n, e, q1⟩ R1 s1 rep => by
    subst e
    have rep : Dp g F1 v (.int n) := rep
    cases rep
    exact ⟨n, rfl, k 0 n H1 F1 δ1 q1 R1 s1⟩
theorem d_rg2 {Qr : Int → Int → List Sl → Prop} (q : DE c te δ fun x δ1 => DE c ty δ1 fun y δ2 => ∃ n m : Int, x = .fz (.int n) ∧ y = .fz (.int m) ∧ Qr n m δ2) : DRg c (tRg2 te ty) δ Qr := fun σ H F S R k =>
  de_frz (QV := fun x H1 => ty σ H1 fun y H2 => ∃ i j, x = .int i ∧ y = .int j ∧ S i j H2) q R fun v H1 F1 x δ1 q1 R1 s1 rep1 =>
    q1 σ H1 F1 _ R1 fun w H2 F2 y δ2 ⟨n, m, e1, e2, q2⟩ R2 s2 rep2 => by
      subst e1; subst e2
      have rep1 : Dp g F1 v (.int n) := rep1
      have rep2 : Dp g F2 w (.int m) := rep2
      cases rep1; cases rep2
      exact ⟨n, m, rfl, rfl, k n m H2 F2 δ2 q2 R2 (s1.trans s2)⟩
theorem d_iRevR {t : L2.St → Hp → (Int → Int → Hp → Prop) → Prop} (q : DRg c t δ fun a b δ1 => (-(2 ^ 62) ≤ a ∧ a < 2 ^ 62 ∧ -(2 ^ 62) ≤ b ∧ b < 2 ^ 62) ∧ QI (b - a).toNat (fun i => .int (a + (((b - a).toNat : Nat) : Int) - 1 + (i : Nat) * (-1))) (fun _ => True) δ1) : DI c (iRevR t) δ QI := fun σ H F S R k =>
  q σ H F _ R fun a b H1 F1 δ1 ⟨h, q1⟩ R1 s1 => ⟨h.1, h.2.1, h.2.2.1, h.2.2.2, k _ H1 F1 _ _ _ δ1 q1 R1 s1 itc_ok⟩
theorem rg_dp (F : Hp) (a b : Int) : DpL g F (rgV a b) ((List.range (b - a).toNat).map fun i : Nat => D.int (a + (i : Nat))) := by
  unfold rgV
  induction List.range (b - a).toNat with
  | nil => exact .nil
  | cons x r ih => exact .cons (.int _) ih
theorem d_lstRg {t : L2.St → Hp → (Int → Int → Hp → Prop) → Prop} (q : DRg c t δ fun a b δ1 => RgOk a b ∧ ∀ p, Q (.nw (.fl p ((List.range (b - a).toNat).map fun i : Nat => D.int (a + (i : Nat))))) δ1) : DE c (tLstRg t) δ Q := fun σ H F QV R k =>
  q σ H F _ R fun a b H1 F1 δ1 ⟨h, q1⟩ R1 s1 => by
    refine ⟨h, fun p hp => ?_⟩
    obtain ⟨R2, rep2⟩ := nw_ok R1 hp (rg_dp F1 a b)
    exact k _ _ _ _ δ1 (q1 p) R2 s1 rep2
/-- a method of a text -/
theorem d_m1 {f : V → List V → Hp → VK → Prop} (q : DE c te δ fun x δ1 => (∃ z, x.frz = .fz (.str z)) ∧ DE c ty δ1 fun y δ2 => DM c f x.frz [y.frz] δ2 Q) : DE c (tM1 f te ty) δ Q := fun σ H F QV R k => by
  refine de_frz (QV := fun x H1 => (∃ a, x = .str a) ∧ ty σ H1 fun y H2 => f x [y] H2 QV) q R fun v H1 F1 x δ1 ⟨⟨z, e⟩, q1⟩ R1 s1 rep1 => ?_
  have ev : v = .str z := by
    rw [e] at rep1
    have rep1 : Dp g F1 v (.str z) := rep1
    cases rep1; rfl
  refine ⟨⟨z, ev⟩, ?_⟩
  refine de_frz (QV := fun y H2 => f v [y] H2 QV) q1 R1 fun w H2 F2 y δ2 q2 R2 s2 rep2 => ?_
  exact q2 σ H2 F2 v [w] QV R2 (rep_keep rep1 (frz_frz _) s2) (.cons (frz_frz _) rep2 .nil) fun v' H' F' r δ' q' R' s' => k v' H' F' r δ' q' R' ((s1.trans s2).trans s')
def rSIx : V → List V → Hp → VK → Prop := fun x xs H Q => ∃ a b i rest, x = .str a ∧ xs = [.str b] ∧ Builtin.Str.occurrences a b 0 a.length 1 = i :: rest ∧ Q (.int (i : Nat)) H
theorem mt_sindexD {X : Cx} : MtR X "str.index" rSIx := mt_sindex
theorem d_sidx {z b : Str} {n : Nat} {rest : List Nat} (hx : x = .fz (.str z)) (hy : y = .fz (.str b)) (ho : Builtin.Str.occurrences z b 0 z.length 1 = n :: rest) (q : Q (.fz (.int (n : Nat))) δ) : DM c rSIx x [y] δ Q := fun σ H F v vs QV R k1 k2 k => by
  subst hx; subst hy
  obtain ⟨w, rfl, hw⟩ := one_rep k2
  have k1 : Dp g F v (.str z) := k1
  have hw : Dp g F w (.str b) := hw
  cases k1; cases hw
  exact ⟨z, b, n, rest, rfl, rfl, ho, k _ H F _ δ q R (Same.refl F) (.int _)⟩
/-- xs.pop(i) -/
theorem d_popAt {a : Addr} {n : Int} {j : Nat} (hx : x = .bw i) (hy : y = .fz (.int n)) (hi : δ[i]? = some (.ow (.fl a ds))) (h1 : -(2 ^ 63) ≤ n) (h2 : n < 2 ^ 63) (hj : seqIndex? n ds.length = some j) (hl : ds[j]? = some d) (q : Q (.fz d) (δ.set i (.ow (.fl a (ds.eraseIdx j))))) : DM c rPopAt x [y] δ Q := fun σ H F v vs QV R k1 k2 k => by
  subst hx; subst hy
  obtain ⟨w, rfl, hw⟩ := one_rep k2
  have hw : Dp g F w (.int n) := hw
  cases hw
  obtain ⟨ws, rfl, e1, e2⟩ := fl_at R hi k1
  obtain ⟨u, e3, e4⟩ := e2.get hl
  have er : DpL g F (ws.eraseIdx j) (ds.eraseIdx j) := by
    rw [List.eraseIdx_eq_take_drop_succ, List.eraseIdx_eq_take_drop_succ]
    exact (e2.take j).append (e2.drop (j + 1))
  exact ⟨a, ws, n, j, u, rfl, rfl, e1, h1, h2, by rw [e2.length]; exact hj, e3, k _ _ F _ _ q (fl_chg R hi er) (Same.refl F) e4⟩
/-- sorted of texts -/
theorem dp_strs {bs : List Str} : ∀ {vs : List V}, DpL g F vs (bs.map D.str) → vs = bs.map V.str := by
  induction bs with
  | nil => intro vs h; cases h; rfl
  | cons b r ih =>
    intro vs h
    cases h with
    | cons h t => cases h; rw [List.map_cons, ih t]
theorem strs_dp (F : Hp) (bs : List Str) : DpL g F (bs.map V.str) (bs.map D.str) := by
  induction bs with
  | nil => exact .nil
  | cons b r ih => exact .cons (.str _) ih
theorem d_sortS {K : PySem.W.Frag} {bs : List Str} (hK : K = g.K) (hx : x.lsR δ = some ds) (hn : ds = bs.map D.str) (hl : bs.length < 64) (q : ∀ p (ys : List Str), ys.Perm bs → sortedS ys = true → Q (.nw (.fl p (ys.map D.str))) δ) : DC c (rSortedS K) [x] δ Q := fun σ H F vs QV R k1 k => by
  subst hK
  obtain ⟨v, rfl, h⟩ := one_rep k1
  obtain ⟨a, ws, rfl, hs, hd⟩ := lsR_ok R h hx
  subst hn
  rw [dp_strs hd] at hs
  refine ⟨a, bs, rfl, hs, hl, fun ys p h1 h2 h3 => ?_⟩
  obtain ⟨R2, rep2⟩ := nw_ok R h3 (strs_dp F ys)
  exact k _ _ _ _ δ (q p ys h1 h2) R2 (Same.refl F) rep2
end
end KD

set_option maxHeartbeats 4000000
section
open PySem PySem.Spec PyProof.Rows L2 KB
local macro_rules | `(tactic| walk_at "rd1") => `(tactic| first
  | with_reducible refine i_seq ?_
  | ((with_reducible refine i_var (v := ?vv) ?hv ?_); (case hv => exact rfl))
  | with_reducible refine i_c ?_
  | with_reducible refine i_op ?_
  | with_reducible refine i_rI0 ?_
  | with_reducible refine i_asg ?_
  | with_reducible refine i_gname ?_
  | with_reducible refine i_nx ?_
  | with_reducible refine i_rt ?_
  | with_reducible refine i_ret ?_
  | with_reducible refine i_ifS ?_
  | with_reducible refine i_test ?_
  | with_reducible refine i_bl ?_
  | with_reducible refine i_CB ?_
  | with_reducible refine i_call ?_
  | with_reducible refine i_cons ?_
  | with_reducible refine i_nil ?_
  | with_reducible refine i_eqI ?_
  | with_reducible refine i_eqS ?_
  | with_reducible refine i_neS ?_
  | with_reducible refine i_neI ?_
  | with_reducible refine i_isN0 ?_
  | with_reducible refine i_isNr ?_
  | with_reducible refine i_isNi ?_
  | with_reducible refine i_isNb ?_
  | with_reducible refine i_notN0 ?_
  | with_reducible refine i_notNr ?_
  | with_reducible refine i_notNi ?_
  | with_reducible refine i_isB ?_
  | with_reducible refine i_notB ?_
  | with_reducible refine i_B ?_
  | with_reducible refine i_and ?_
  | with_reducible refine i_or ?_
  | with_reducible refine i_not ?_
  | with_reducible refine i_andV ?_
  | with_reducible refine i_orV ?_
  | with_reducible refine i_notV ?_
  | with_reducible refine i_if ?_
  | with_reducible refine i_T ?_
  | with_reducible refine i_F ?_
  | with_reducible refine i_tup ?_
  | with_reducible refine i_lst ?_
  | with_reducible refine i_max2 ?_
  | with_reducible refine i_min2 ?_
  | with_reducible refine i_abs ?_
  | with_reducible refine i_int1 ?_
  | with_reducible refine i_un ?_
  | with_reducible refine i_rU ?_
  | with_reducible refine i_fld ?_
  | with_reducible refine i_meth ?_
  | with_reducible refine i_make ?_
  | with_reducible refine i_bits ?_
  | with_reducible refine i_int ?_
  | with_reducible refine i_next ?_
  | with_reducible refine i_drop ?_
  | with_reducible refine i_par ?_
  | with_reducible refine i_two ?_
  | with_reducible refine i_par3 ?_
  | with_reducible refine i_three ?_
  | with_reducible refine i_pcons ?_
  | with_reducible refine i_pnil ?_
  | with_reducible refine i_dnotin ?_
  | with_reducible refine i_din ?_
  | with_reducible refine i_dget ?_
  | with_reducible refine i_dput ?_
  | with_reducible refine i_for ?_
  | with_reducible refine i_iR1 ?_
  | with_reducible refine i_iR2 ?_
  | with_reducible refine i_iL ?_
  | with_reducible refine i_iT ?_
  | with_reducible refine i_sl ?_
  | with_reducible refine i_nopart ?_
  | with_reducible refine i_part ?_
  | with_reducible refine i_gtup ?_
  | with_reducible refine i_gcons ?_
  | with_reducible refine i_gnil ?_
  | with_reducible refine i_sub ?_
  | with_reducible refine i_slc ?_
  | with_reducible refine i_rev1 ?_
  | with_reducible refine i_zip ?_
  | with_reducible refine i_sfld ?_
  | with_reducible refine i_BM ?_
  | with_reducible refine i_bk ?_
  | with_reducible refine i_ct ?_
  | with_reducible refine i_brk ?_
  | with_reducible refine i_cnt ?_)
local macro_rules | `(tactic| walk_at "rd") => `(tactic| repeat walk_at "rd1")
namespace K67
open PySem PySem.Spec PyProof.Rows L2 KB KM
def top (i : Nat) : Stmt := PySem.Challenge.pw_lawfulpages_k67_whole_row_ways_by_laying.main.body.getD i (.Pass ⟨0, 0, 0, 0⟩)
/-- what the top leaves, as the walk needs it -/
structure Txt (K : PySem.W.Frag) (mg : Str → Option Value) : Prop where
  g_isinstance : mg "isinstance" = none
  g_int : mg "int" = none
  g_bool : mg "bool" = none
  g_tuple : mg "tuple" = none
  g_str : mg "str" = none
  g_list : mg "list" = none
  g_len : mg "len" = none
  g_max : mg "max" = none
  g_min : mg "min" = none
  g_sum : mg "sum" = none
  g_range : mg "range" = none
  g_sorted : mg "sorted" = none
  g_all : mg "all" = none
  g_enumerate : mg "enumerate" = none
  g_zip : mg "zip" = none
  g_reversed : mg "reversed" = none
  g_repr : mg "repr" = none
  g_MARKS : ∃ t, mg "MARKS" = some (.str "abcdefgh" t)
  g_NAMES : ∃ t, mg "NAMES" = some (.str "pqrstuvwxyz" t)
  g_MOST_NODES : ∃ t, mg "MOST_NODES" = some (.int 20000 t)
  g_MOST_NAMES : ∃ t, mg "MOST_NAMES" = some (.int 5 t)
  g_MOST_STATES : ∃ t, mg "MOST_STATES" = some (.int 300 t)
  x_MatchError : ExcC K mg "MatchError" (He.ga K "MatchError")
  x_BadDocument : ExcC K mg "BadDocument" (He.ga K "BadDocument")
  x_BadNode : ExcC K mg "BadNode" (He.ga K "BadNode")
  x_BadMachine : ExcC K mg "BadMachine" (He.ga K "BadMachine")
  x_BadCount : ExcC K mg "BadCount" (He.ga K "BadCount")
  d_is_integer : DefT K mg "is_integer" (top 10) ["thing"]
  d_is_below : DefT K mg "is_below" (top 11) ["thing", "bound"]
  d_need_count : DefT K mg "need_count" (top 12) ["thing", "most"]
  d_is_mark : DefT K mg "is_mark" (top 13) ["thing"]
  d_is_name : DefT K mg "is_name" (top 14) ["thing"]
  d_is_rising : DefT K mg "is_rising" (top 15) ["things"]
  d_is_names : DefT K mg "is_names" (top 16) ["thing", "most"]
  d_is_forest : DefT K mg "is_forest" (top 18) ["thing"]
  d_need_document : DefT K mg "need_document" (top 19) ["document"]
  d_need_node : DefT K mg "need_node" (top 20) ["document", "node"]
  d_parents_of : DefT K mg "parents_of" (top 21) ["document"]
  d_end_of : DefT K mg "end_of" (top 22) ["document", "node"]
  d_row_of : DefT K mg "row_of" (top 23) ["document", "node"]
  d_is_names_form : DefT K mg "is_names_form" (top 27) ["thing"]
  d_lays_of : DefT K mg "lays_of" (top 28) ["names"]
  d_is_row : DefT K mg "is_row" (top 29) ["thing", "length", "bound"]
  d_is_good_row : DefT K mg "is_good_row" (top 30) ["thing", "bound"]
  d_is_machine_form : DefT K mg "is_machine_form" (top 31) ["thing"]
  d_need_machine : DefT K mg "need_machine" (top 32) ["machine"]
  d_added_up : DefT K mg "added_up" (top 34) ["pairs"]
  d_no_ways : DefT K mg "no_ways" (top 35) ["states"]
  d_child_ways : DefT K mg "child_ways" (top 36) ["step", "own"]
  d_both_ways : DefT K mg "both_ways" (top 37) ["one", "other", "starts"]
  d_node_ways_of : DefT K mg "node_ways_of" (top 38) ["begin", "laid", "ways"]
  d_swept : DefT K mg "swept" (top 40) ["machine", "document", "first", "end"]
  d_row_ways : DefT K mg "row_ways" (top 41) ["machine", "document", "node", "begin", "end"]
  d_node_ways : DefT K mg "node_ways" (top 42) ["machine", "document", "node"]
  d__law_feed : DefT K mg "_law_feed" (top 44) ["script", "k"]
  d__law_draw : DefT K mg "_law_draw" (top 45) ["feed", "many"]
  d__law_one : DefT K mg "_law_one" (top 46) ["feed", "things"]
  d__law_mixed : DefT K mg "_law_mixed" (top 47) ["feed", "things"]
  d__law_document : DefT K mg "_law_document" (top 48) ["feed", "most"]
  d__law_children : DefT K mg "_law_children" (top 49) ["document"]
  d__law_row : DefT K mg "_law_row" (top 50) ["feed", "many", "states"]
  d__law_machine : DefT K mg "_law_machine" (top 51) ["feed", "many", "states"]
  d__law_end : DefT K mg "_law_end" (top 52) ["document", "node"]
  d__law_layings : DefT K mg "_law_layings" (top 53) ["nodes", "many"]
  d__law_laid : DefT K mg "_law_laid" (top 54) ["places"]
  d__law_state : DefT K mg "_law_state" (top 55) ["machine", "document", "children", "laid", "node"]
  d__law_due : DefT K mg "_law_due" (top 56) ["machine", "document", "children", "row"]
  d__law_asked_one : DefT K mg "_law_asked_one" (top 57) ["script"]
  d__law_great_machine : DefT K mg "_law_great_machine" (top 58) ["feed", "many"]
  d__law_due_too : DefT K mg "_law_due_too" (top 59) ["machine", "document", "children", "node"]
  d__law_asked_two : DefT K mg "_law_asked_two" (top 60) ["script"]
  d_law : DefT K mg "law" (top 61) ["script"]
/-! ### types by names -/
abbrev TYS : List String := ["NoneType", "bool", "int", "str", "list", "tuple", "dict"]
theorem ty_int : ∀ n ∈ TYS, kitB n "int" = some (n == "int" || n == "bool") := by decide +kernel
theorem ty_bool : ∀ n ∈ TYS, kitB n "bool" = some (n == "bool") := by decide +kernel
theorem ty_tuple : ∀ n ∈ TYS, kitB n "tuple" = some (n == "tuple") := by decide +kernel
theorem ty_ib : ∀ n ∈ TYS, (n == "int" || n == "bool") = true → (!(n == "bool")) = (n == "int") := by decide +kernel
theorem ty_ib2 : ∀ n ∈ TYS, (n == "int" || n == "bool") = false → (n == "int") = false := by decide +kernel
/-- x is of a told type -/
def Kn (H : Hp) (x : V) (n : String) : Prop := tyN H x = some n ∧ n ∈ TYS
/-! ### shapes in the heap -/
inductive GShp (H : Hp) : V → GS → Prop where
  | one : GShp H .non .one
  | two {a : Addr} {x y : V} {l r : GS} : H a = some (.tup [x, y]) → GShp H x l → GShp H y r → GShp H (.ref a) (.two l r)
  | bad {v : V} {n : String} : v ≠ .non → Kn H v n → (n = "tuple" → ∃ a xs, v = .ref a ∧ H a = some (.tup xs) ∧ xs.length ≠ 2) → GShp H v .bad
inductive Shp (H : Hp) : V → Sh → Prop where
  | one : Shp H .non .one
  | two {a : Addr} {x y : V} {l r : Sh} : H a = some (.tup [x, y]) → Shp H x l → Shp H y r → Shp H (.ref a) (.two l r)
theorem Shp.g {H : Hp} {v : V} {s : Sh} (h : Shp H v s) : GShp H v s.g := by
  induction h with
  | one => exact .one
  | two a _ _ ih1 ih2 => exact .two a ih1 ih2
/-- the tuples stay -/
def Tups (H H' : Hp) : Prop := ∀ a xs, H a = some (.tup xs) → H' a = some (.tup xs)
theorem Shp.mono {H H' : Hp} {v : V} {s : Sh} (h : Shp H v s) (k : Tups H H') : Shp H' v s := by
  induction h with
  | one => exact .one
  | two a _ _ ih1 ih2 => exact .two (k _ _ a) ih1 ih2
theorem Same.tups {H H' : Hp} (s : Same H H') : Tups H H' := fun a xs h => s a _ h
section
variable {P : Program} {w : World} {K : PySem.W.Frag} {mg : Str → Option Value} {base : Heap}
/-! ### is_integer -/
def spIsInt : Sp := fun vs H Q _ => ∃ x n, vs = [x] ∧ Kn H x n ∧ Q (.bl (n == "int")) H
abbrev s_is_integer : Stmt := (top 10)
theorem sc_is_integer : FnScope ["thing"] ["thing"] (defScope s_is_integer) := ⟨rfl, rfl, rfl, by decide +kernel, rfl, by decide +kernel, by decide +kernel⟩
theorem b_is_integer (T : Txt K mg) : Body P w K mg base (0) ["thing"] "is_integer" (defScope s_is_integer) (defBody s_is_integer) spIsInt := by
  intro f cdv A outer s H vs Q E hr h
  obtain ⟨x, n, rfl, ⟨hn, hm⟩, q⟩ := h
  have hu := hu_of hr
  have tk : Takes (cxOf (L2.CX P w) P w K mg base ["thing"] "is_integer" (defScope s_is_integer) f cdv A outer s H E) (fun cls d _ H => E cls d H) := takes_of rfl rfl rfl rfl
  refine ⟨_, (pss_one (ps_ret (pe_and (pe_callB call_isN1 (by rfl) T.g_isinstance (by decide +kernel) (pa_cons (pv 0) (pa_cons (pe_ty "int" T.g_int) pa_nil))) (pe_one (pe_not (pe_callB call_isN1 (by rfl) T.g_isinstance (by decide +kernel) (pa_cons (pv 0) (pa_cons (pe_ty "bool" T.g_bool) pa_nil)))))))), ?_⟩
  refine i_start [some _] (by rfl) ?_
  try dsimp only [cxOf]
  walk_at "rd"
  refine i_inst hn (ty_int n hm) ?_
  walk_at "rd"
  refine i_bool (fun e => ?_) (fun e => ?_)
  · walk_at "rd"
    refine i_inst hn (ty_bool n hm) ?_
    walk_at "rd"
    rw [ty_ib n hm e]
    exact q
  · walk_at "rd"
    rw [ty_ib2 n hm e] at q
    exact q
/-! ### need_count -/
def spNeedCount (K : PySem.W.Frag) : Sp := fun vs H Q E => ∃ x n m, vs = [x, .int m] ∧ Kn H x n ∧ (∀ i, x = .int i → 0 ≤ i → i ≤ m → Q .non H) ∧
  ((∀ i, x = .int i → ¬ (0 ≤ i ∧ i ≤ m)) → E (.ref (He.ga K "BadCount")) none H)
abbrev s_need_count : Stmt := (top 12)
theorem sc_need_count : FnScope ["thing", "most"] ["thing", "most"] (defScope s_need_count) := ⟨rfl, rfl, rfl, by decide +kernel, rfl, by decide +kernel, by decide +kernel⟩
theorem kn_int {H : Hp} {x : V} {n : String} (h : Kn H x n) (e : (n == "int") = true) : ∃ i, x = .int i := by
  have e' : n = "int" := beq_iff_eq.mp e
  subst e'
  obtain ⟨h, _⟩ := h
  cases x with
  | int i => exact ⟨i, rfl⟩
  | ref a =>
    exfalso
    have h1 : (match H a with
      | some (.lst _) => some "list"
      | some (.tup _) => some "tuple"
      | some (.dK _) => some "dict"
      | some (.dT _) => some "dict"
      | some (.frz _ (.lst _)) => some "list"
      | _ => none) = some "int" := h
    split at h1 <;> simp at h1
  | _ => simp [tyN] at h
theorem kn_nint {H : Hp} {x : V} {n : String} (h : Kn H x n) (e : (n == "int") = false) : ∀ i, x ≠ .int i := by
  rintro i rfl
  obtain ⟨h, _⟩ := h
  simp only [tyN, Option.some.injEq] at h
  subst h
  simp at e
theorem b_need_count (T : Txt K mg) (C_is_integer : Cal P w K mg base 1 "is_integer" spIsInt) : Body P w K mg base (1) ["thing", "most"] "need_count" (defScope s_need_count) (defBody s_need_count) (spNeedCount K) := by
  intro f cdv A outer s H vs Q E hr h
  obtain ⟨x, n, m, rfl, hk, q1, q2⟩ := h
  have hu := hu_of hr
  have tk : Takes (cxOf (L2.CX P w) P w K mg base ["thing", "most"] "need_count" (defScope s_need_count) f cdv A outer s H E) (fun cls d _ H => E cls d H) := takes_of rfl rfl rfl rfl
  refine ⟨_, (pss_cons (ps_if (PW.pt (pw_or (pt_not (pt_val (pe_cal C_is_integer hr (by omega) tk (pa_cons (pv 0) pa_nil)))) (pw_or1 (pt_cmpR op_lt (pv 0) pe_int (nomark _))))) (pss_one (ps_raiseX T.x_BadCount tk)) pss_nil)
    (pss_one (ps_if (PW.pt (pw_and (pt_cmpR op_notN1 (pv 1) pe_non (nomark _)) (pw_and1 (pt_cmpR op_gt (pv 0) (pv 1) (nomark _))))) (pss_one (ps_raiseX T.x_BadCount tk)) pss_nil))), ?_⟩
  refine i_start [some _, some _] (by rfl) ?_
  try dsimp only [cxOf]
  walk_at "rd"
  refine ⟨x, n, rfl, hk, ?_⟩
  walk_at "rd"
  cases e : (n == "int") with
  | false =>
    walk_at "rd"
    refine i_T ?_
    exact q2 fun i ei _ => kn_nint hk e i ei
  | true =>
    obtain ⟨i, rfl⟩ := kn_int hk e
    refine i_F ?_
    walk_at "rd"
    refine i_dec (fun hi => ?_) (fun hi => ?_)
    · refine q2 fun j ej => ?_
      cases ej
      omega
    · walk_at "rd"
      refine i_dec (fun hj => ?_) (fun hj => ?_)
      · refine q2 fun j ej => ?_
        cases ej
        omega
      · walk_at "rd"
        exact q1 i rfl (by omega) (by omega)
end

end K67

set_option maxHeartbeats 4000000
namespace K67
open PySem PySem.Spec PyProof.Rows L2 KB KM
/-! ### the head -/
def fn0 : List He.DefD := [⟨("is_integer", none), "is_integer", "is_integer", defArgs (top 10), defBody (top 10), defScope (top 10), [], []⟩,
  ⟨("is_below", none), "is_below", "is_below", defArgs (top 11), defBody (top 11), defScope (top 11), [], []⟩,
  ⟨("need_count", none), "need_count", "need_count", defArgs (top 12), defBody (top 12), defScope (top 12), [.non], []⟩,
  ⟨("is_mark", none), "is_mark", "is_mark", defArgs (top 13), defBody (top 13), defScope (top 13), [], []⟩,
  ⟨("is_name", none), "is_name", "is_name", defArgs (top 14), defBody (top 14), defScope (top 14), [], []⟩,
  ⟨("is_rising", none), "is_rising", "is_rising", defArgs (top 15), defBody (top 15), defScope (top 15), [], []⟩,
  ⟨("is_names", none), "is_names", "is_names", defArgs (top 16), defBody (top 16), defScope (top 16), [], []⟩,
  ⟨("is_forest", none), "is_forest", "is_forest", defArgs (top 18), defBody (top 18), defScope (top 18), [], []⟩,
  ⟨("need_document", none), "need_document", "need_document", defArgs (top 19), defBody (top 19), defScope (top 19), [], []⟩,
  ⟨("need_node", none), "need_node", "need_node", defArgs (top 20), defBody (top 20), defScope (top 20), [], []⟩,
  ⟨("parents_of", none), "parents_of", "parents_of", defArgs (top 21), defBody (top 21), defScope (top 21), [], []⟩,
  ⟨("end_of", none), "end_of", "end_of", defArgs (top 22), defBody (top 22), defScope (top 22), [], []⟩,
  ⟨("row_of", none), "row_of", "row_of", defArgs (top 23), defBody (top 23), defScope (top 23), [], []⟩,
  ⟨("is_names_form", none), "is_names_form", "is_names_form", defArgs (top 27), defBody (top 27), defScope (top 27), [], []⟩,
  ⟨("lays_of", none), "lays_of", "lays_of", defArgs (top 28), defBody (top 28), defScope (top 28), [], []⟩,
  ⟨("is_row", none), "is_row", "is_row", defArgs (top 29), defBody (top 29), defScope (top 29), [], []⟩,
  ⟨("is_good_row", none), "is_good_row", "is_good_row", defArgs (top 30), defBody (top 30), defScope (top 30), [], []⟩,
  ⟨("is_machine_form", none), "is_machine_form", "is_machine_form", defArgs (top 31), defBody (top 31), defScope (top 31), [], []⟩,
  ⟨("need_machine", none), "need_machine", "need_machine", defArgs (top 32), defBody (top 32), defScope (top 32), [], []⟩,
  ⟨("added_up", none), "added_up", "added_up", defArgs (top 34), defBody (top 34), defScope (top 34), [], []⟩,
  ⟨("no_ways", none), "no_ways", "no_ways", defArgs (top 35), defBody (top 35), defScope (top 35), [], []⟩,
  ⟨("child_ways", none), "child_ways", "child_ways", defArgs (top 36), defBody (top 36), defScope (top 36), [], []⟩,
  ⟨("both_ways", none), "both_ways", "both_ways", defArgs (top 37), defBody (top 37), defScope (top 37), [], []⟩,
  ⟨("node_ways_of", none), "node_ways_of", "node_ways_of", defArgs (top 38), defBody (top 38), defScope (top 38), [], []⟩,
  ⟨("swept", none), "swept", "swept", defArgs (top 40), defBody (top 40), defScope (top 40), [], []⟩,
  ⟨("row_ways", none), "row_ways", "row_ways", defArgs (top 41), defBody (top 41), defScope (top 41), [], []⟩,
  ⟨("node_ways", none), "node_ways", "node_ways", defArgs (top 42), defBody (top 42), defScope (top 42), [], []⟩,
  ⟨("_law_feed", none), "_law_feed", "_law_feed", defArgs (top 44), defBody (top 44), defScope (top 44), [], []⟩,
  ⟨("_law_draw", none), "_law_draw", "_law_draw", defArgs (top 45), defBody (top 45), defScope (top 45), [], []⟩,
  ⟨("_law_one", none), "_law_one", "_law_one", defArgs (top 46), defBody (top 46), defScope (top 46), [], []⟩]
def fn1 : List He.DefD := [⟨("_law_mixed", none), "_law_mixed", "_law_mixed", defArgs (top 47), defBody (top 47), defScope (top 47), [], []⟩,
  ⟨("_law_document", none), "_law_document", "_law_document", defArgs (top 48), defBody (top 48), defScope (top 48), [], []⟩,
  ⟨("_law_children", none), "_law_children", "_law_children", defArgs (top 49), defBody (top 49), defScope (top 49), [], []⟩,
  ⟨("_law_row", none), "_law_row", "_law_row", defArgs (top 50), defBody (top 50), defScope (top 50), [], []⟩,
  ⟨("_law_machine", none), "_law_machine", "_law_machine", defArgs (top 51), defBody (top 51), defScope (top 51), [], []⟩,
  ⟨("_law_end", none), "_law_end", "_law_end", defArgs (top 52), defBody (top 52), defScope (top 52), [], []⟩,
  ⟨("_law_layings", none), "_law_layings", "_law_layings", defArgs (top 53), defBody (top 53), defScope (top 53), [], []⟩,
  ⟨("_law_laid", none), "_law_laid", "_law_laid", defArgs (top 54), defBody (top 54), defScope (top 54), [], []⟩,
  ⟨("_law_state", none), "_law_state", "_law_state", defArgs (top 55), defBody (top 55), defScope (top 55), [], []⟩,
  ⟨("_law_due", none), "_law_due", "_law_due", defArgs (top 56), defBody (top 56), defScope (top 56), [], []⟩,
  ⟨("_law_asked_one", none), "_law_asked_one", "_law_asked_one", defArgs (top 57), defBody (top 57), defScope (top 57), [], []⟩,
  ⟨("_law_great_machine", none), "_law_great_machine", "_law_great_machine", defArgs (top 58), defBody (top 58), defScope (top 58), [], []⟩,
  ⟨("_law_due_too", none), "_law_due_too", "_law_due_too", defArgs (top 59), defBody (top 59), defScope (top 59), [], []⟩,
  ⟨("_law_asked_two", none), "_law_asked_two", "_law_asked_two", defArgs (top 60), defBody (top 60), defScope (top 60), [], []⟩,
  ⟨("law", none), "law", "law", defArgs (top 61), defBody (top 61), defScope (top 61), [], []⟩]
def fn : List He.DefD := fn0 ++ fn1

def fa0 : List He.Fa := [.free "isinstance",
  .free "int",
  .free "bool",
  .free "tuple",
  .free "str",
  .free "list",
  .free "len",
  .free "max",
  .free "min",
  .free "sum",
  .free "range",
  .free "sorted",
  .free "all",
  .free "enumerate",
  .free "zip",
  .free "reversed",
  .free "repr",
  .str "MARKS" "abcdefgh",
  .str "NAMES" "pqrstuvwxyz",
  .int "MOST_NODES" 20000,
  .int "MOST_NAMES" 5,
  .int "MOST_STATES" 300,
  .glo "MatchError",
  .exc "MatchError",
  .glo "BadDocument",
  .exc "BadDocument",
  .glo "BadNode",
  .exc "BadNode",
  .glo "BadMachine",
  .exc "BadMachine"]
def fa1 : List He.Fa := [.glo "BadCount",
  .exc "BadCount",
  .glo "is_integer",
  .glo "is_below",
  .glo "need_count",
  .glo "is_mark",
  .glo "is_name",
  .glo "is_rising",
  .glo "is_names",
  .glo "is_forest",
  .glo "need_document",
  .glo "need_node",
  .glo "parents_of",
  .glo "end_of",
  .glo "row_of",
  .glo "is_names_form",
  .glo "lays_of",
  .glo "is_row",
  .glo "is_good_row",
  .glo "is_machine_form",
  .glo "need_machine",
  .glo "added_up",
  .glo "no_ways",
  .glo "child_ways",
  .glo "both_ways",
  .glo "node_ways_of",
  .glo "swept",
  .glo "row_ways",
  .glo "node_ways",
  .glo "_law_feed"]
def fa2 : List He.Fa := [.glo "_law_draw",
  .glo "_law_one",
  .glo "_law_mixed",
  .glo "_law_document",
  .glo "_law_children",
  .glo "_law_row",
  .glo "_law_machine",
  .glo "_law_end",
  .glo "_law_layings",
  .glo "_law_laid",
  .glo "_law_state",
  .glo "_law_due",
  .glo "_law_asked_one",
  .glo "_law_great_machine",
  .glo "_law_due_too",
  .glo "_law_asked_two",
  .glo "law"]
def fa : List He.Fa := fa0 ++ fa1 ++ fa2

def exB (K : PySem.W.Frag) : Bool := true
def names0 : List PySem.Str := ["MatchError",
  "BadDocument",
  "BadNode",
  "BadMachine",
  "BadCount",
  "MARKS",
  "NAMES",
  "MOST_NODES",
  "is_integer",
  "is_below",
  "need_count",
  "is_mark",
  "is_name",
  "is_rising",
  "is_names",
  "is_forest",
  "need_document",
  "need_node",
  "parents_of",
  "end_of",
  "row_of",
  "MOST_NAMES",
  "MOST_STATES",
  "is_names_form",
  "lays_of",
  "is_row",
  "is_good_row",
  "is_machine_form",
  "need_machine",
  "added_up"]
def names1 : List PySem.Str := ["no_ways",
  "child_ways",
  "both_ways",
  "node_ways_of",
  "swept",
  "row_ways",
  "node_ways",
  "_law_feed",
  "_law_draw",
  "_law_one",
  "_law_mixed",
  "_law_document",
  "_law_children",
  "_law_row",
  "_law_machine",
  "_law_end",
  "_law_layings",
  "_law_laid",
  "_law_state",
  "_law_due",
  "_law_asked_one",
  "_law_great_machine",
  "_law_due_too",
  "_law_asked_two"]
def names : List PySem.Str := names0 ++ names1

abbrev lawAt : Nat := 61
theorem full1 {K : PySem.W.Frag} {fd : FuncData} {ps : List Str} (h : ∃ ds, Vals [] ds ∧ Binds K fd ps ds) : Binds K fd ps [] := by
  obtain ⟨ds, h1, h2⟩ := h
  cases h1
  exact h2
theorem txt_of {K : PySem.W.Frag} {h : Heap} {mg : Str → Option Value} (KX : K.In h) (G : h.Ns mainGlobals mg) (c : He.SaysD fa fn K) (m : exB K = true) : Txt K mg := by
  obtain ⟨fd0, F0⟩ := c.def_ 0 (d := ⟨("is_integer", none), "is_integer", "is_integer", defArgs (top 10), defBody (top 10), defScope (top 10), [], []⟩) rfl
  obtain ⟨fd1, F1⟩ := c.def_ 1 (d := ⟨("is_below", none), "is_below", "is_below", defArgs (top 11), defBody (top 11), defScope (top 11), [], []⟩) rfl
  obtain ⟨fd2, F2⟩ := c.def_ 2 (d := ⟨("need_count", none), "need_count", "need_count", defArgs (top 12), defBody (top 12), defScope (top 12), [.non], []⟩) rfl
  obtain ⟨fd3, F3⟩ := c.def_ 3 (d := ⟨("is_mark", none), "is_mark", "is_mark", defArgs (top 13), defBody (top 13), defScope (top 13), [], []⟩) rfl
  obtain ⟨fd4, F4⟩ := c.def_ 4 (d := ⟨("is_name", none), "is_name", "is_name", defArgs (top 14), defBody (top 14), defScope (top 14), [], []⟩) rfl
  obtain ⟨fd5, F5⟩ := c.def_ 5 (d := ⟨("is_rising", none), "is_rising", "is_rising", defArgs (top 15), defBody (top 15), defScope (top 15), [], []⟩) rfl
  obtain ⟨fd6, F6⟩ := c.def_ 6 (d := ⟨("is_names", none), "is_names", "is_names", defArgs (top 16), defBody (top 16), defScope (top 16), [], []⟩) rfl
  obtain ⟨fd7, F7⟩ := c.def_ 7 (d := ⟨("is_forest", none), "is_forest", "is_forest", defArgs (top 18), defBody (top 18), defScope (top 18), [], []⟩) rfl
  obtain ⟨fd8, F8⟩ := c.def_ 8 (d := ⟨("need_document", none), "need_document", "need_document", defArgs (top 19), defBody (top 19), defScope (top 19), [], []⟩) rfl
  obtain ⟨fd9, F9⟩ := c.def_ 9 (d := ⟨("need_node", none), "need_node", "need_node", defArgs (top 20), defBody (top 20), defScope (top 20), [], []⟩) rfl
  obtain ⟨fd10, F10⟩ := c.def_ 10 (d := ⟨("parents_of", none), "parents_of", "parents_of", defArgs (top 21), defBody (top 21), defScope (top 21), [], []⟩) rfl
  obtain ⟨fd11, F11⟩ := c.def_ 11 (d := ⟨("end_of", none), "end_of", "end_of", defArgs (top 22), defBody (top 22), defScope (top 22), [], []⟩) rfl
  obtain ⟨fd12, F12⟩ := c.def_ 12 (d := ⟨("row_of", none), "row_of", "row_of", defArgs (top 23), defBody (top 23), defScope (top 23), [], []⟩) rfl
  obtain ⟨fd13, F13⟩ := c.def_ 13 (d := ⟨("is_names_form", none), "is_names_form", "is_names_form", defArgs (top 27), defBody (top 27), defScope (top 27), [], []⟩) rfl
  obtain ⟨fd14, F14⟩ := c.def_ 14 (d := ⟨("lays_of", none), "lays_of", "lays_of", defArgs (top 28), defBody (top 28), defScope (top 28), [], []⟩) rfl
  obtain ⟨fd15, F15⟩ := c.def_ 15 (d := ⟨("is_row", none), "is_row", "is_row", defArgs (top 29), defBody (top 29), defScope (top 29), [], []⟩) rfl
  obtain ⟨fd16, F16⟩ := c.def_ 16 (d := ⟨("is_good_row", none), "is_good_row", "is_good_row", defArgs (top 30), defBody (top 30), defScope (top 30), [], []⟩) rfl
  obtain ⟨fd17, F17⟩ := c.def_ 17 (d := ⟨("is_machine_form", none), "is_machine_form", "is_machine_form", defArgs (top 31), defBody (top 31), defScope (top 31), [], []⟩) rfl
  obtain ⟨fd18, F18⟩ := c.def_ 18 (d := ⟨("need_machine", none), "need_machine", "need_machine", defArgs (top 32), defBody (top 32), defScope (top 32), [], []⟩) rfl
  obtain ⟨fd19, F19⟩ := c.def_ 19 (d := ⟨("added_up", none), "added_up", "added_up", defArgs (top 34), defBody (top 34), defScope (top 34), [], []⟩) rfl
  obtain ⟨fd20, F20⟩ := c.def_ 20 (d := ⟨("no_ways", none), "no_ways", "no_ways", defArgs (top 35), defBody (top 35), defScope (top 35), [], []⟩) rfl
  obtain ⟨fd21, F21⟩ := c.def_ 21 (d := ⟨("child_ways", none), "child_ways", "child_ways", defArgs (top 36), defBody (top 36), defScope (top 36), [], []⟩) rfl
  obtain ⟨fd22, F22⟩ := c.def_ 22 (d := ⟨("both_ways", none), "both_ways", "both_ways", defArgs (top 37), defBody (top 37), defScope (top 37), [], []⟩) rfl
  obtain ⟨fd23, F23⟩ := c.def_ 23 (d := ⟨("node_ways_of", none), "node_ways_of", "node_ways_of", defArgs (top 38), defBody (top 38), defScope (top 38), [], []⟩) rfl
  obtain ⟨fd24, F24⟩ := c.def_ 24 (d := ⟨("swept", none), "swept", "swept", defArgs (top 40), defBody (top 40), defScope (top 40), [], []⟩) rfl
  obtain ⟨fd25, F25⟩ := c.def_ 25 (d := ⟨("row_ways", none), "row_ways", "row_ways", defArgs (top 41), defBody (top 41), defScope (top 41), [], []⟩) rfl
  obtain ⟨fd26, F26⟩ := c.def_ 26 (d := ⟨("node_ways", none), "node_ways", "node_ways", defArgs (top 42), defBody (top 42), defScope (top 42), [], []⟩) rfl
  obtain ⟨fd27, F27⟩ := c.def_ 27 (d := ⟨("_law_feed", none), "_law_feed", "_law_feed", defArgs (top 44), defBody (top 44), defScope (top 44), [], []⟩) rfl
  obtain ⟨fd28, F28⟩ := c.def_ 28 (d := ⟨("_law_draw", none), "_law_draw", "_law_draw", defArgs (top 45), defBody (top 45), defScope (top 45), [], []⟩) rfl
  obtain ⟨fd29, F29⟩ := c.def_ 29 (d := ⟨("_law_one", none), "_law_one", "_law_one", defArgs (top 46), defBody (top 46), defScope (top 46), [], []⟩) rfl
  obtain ⟨fd30, F30⟩ := c.def_ 30 (d := ⟨("_law_mixed", none), "_law_mixed", "_law_mixed", defArgs (top 47), defBody (top 47), defScope (top 47), [], []⟩) rfl
  obtain ⟨fd31, F31⟩ := c.def_ 31 (d := ⟨("_law_document", none), "_law_document", "_law_document", defArgs (top 48), defBody (top 48), defScope (top 48), [], []⟩) rfl
  obtain ⟨fd32, F32⟩ := c.def_ 32 (d := ⟨("_law_children", none), "_law_children", "_law_children", defArgs (top 49), defBody (top 49), defScope (top 49), [], []⟩) rfl
  obtain ⟨fd33, F33⟩ := c.def_ 33 (d := ⟨("_law_row", none), "_law_row", "_law_row", defArgs (top 50), defBody (top 50), defScope (top 50), [], []⟩) rfl
  obtain ⟨fd34, F34⟩ := c.def_ 34 (d := ⟨("_law_machine", none), "_law_machine", "_law_machine", defArgs (top 51), defBody (top 51), defScope (top 51), [], []⟩) rfl
  obtain ⟨fd35, F35⟩ := c.def_ 35 (d := ⟨("_law_end", none), "_law_end", "_law_end", defArgs (top 52), defBody (top 52), defScope (top 52), [], []⟩) rfl
  obtain ⟨fd36, F36⟩ := c.def_ 36 (d := ⟨("_law_layings", none), "_law_layings", "_law_layings", defArgs (top 53), defBody (top 53), defScope (top 53), [], []⟩) rfl
  obtain ⟨fd37, F37⟩ := c.def_ 37 (d := ⟨("_law_laid", none), "_law_laid", "_law_laid", defArgs (top 54), defBody (top 54), defScope (top 54), [], []⟩) rfl
  obtain ⟨fd38, F38⟩ := c.def_ 38 (d := ⟨("_law_state", none), "_law_state", "_law_state", defArgs (top 55), defBody (top 55), defScope (top 55), [], []⟩) rfl
  obtain ⟨fd39, F39⟩ := c.def_ 39 (d := ⟨("_law_due", none), "_law_due", "_law_due", defArgs (top 56), defBody (top 56), defScope (top 56), [], []⟩) rfl
  obtain ⟨fd40, F40⟩ := c.def_ 40 (d := ⟨("_law_asked_one", none), "_law_asked_one", "_law_asked_one", defArgs (top 57), defBody (top 57), defScope (top 57), [], []⟩) rfl
  obtain ⟨fd41, F41⟩ := c.def_ 41 (d := ⟨("_law_great_machine", none), "_law_great_machine", "_law_great_machine", defArgs (top 58), defBody (top 58), defScope (top 58), [], []⟩) rfl
  obtain ⟨fd42, F42⟩ := c.def_ 42 (d := ⟨("_law_due_too", none), "_law_due_too", "_law_due_too", defArgs (top 59), defBody (top 59), defScope (top 59), [], []⟩) rfl
  obtain ⟨fd43, F43⟩ := c.def_ 43 (d := ⟨("_law_asked_two", none), "_law_asked_two", "_law_asked_two", defArgs (top 60), defBody (top 60), defScope (top 60), [], []⟩) rfl
  obtain ⟨fd44, F44⟩ := c.def_ 44 (d := ⟨("law", none), "law", "law", defArgs (top 61), defBody (top 61), defScope (top 61), [], []⟩) rfl
  exact {
    g_isinstance := He.free_ok KX G (c.fact 0 (f := .free "isinstance") rfl)
    g_int := He.free_ok KX G (c.fact 1 (f := .free "int") rfl)
    g_bool := He.free_ok KX G (c.fact 2 (f := .free "bool") rfl)
    g_tuple := He.free_ok KX G (c.fact 3 (f := .free "tuple") rfl)
    g_str := He.free_ok KX G (c.fact 4 (f := .free "str") rfl)
    g_list := He.free_ok KX G (c.fact 5 (f := .free "list") rfl)
    g_len := He.free_ok KX G (c.fact 6 (f := .free "len") rfl)
    g_max := He.free_ok KX G (c.fact 7 (f := .free "max") rfl)
    g_min := He.free_ok KX G (c.fact 8 (f := .free "min") rfl)
    g_sum := He.free_ok KX G (c.fact 9 (f := .free "sum") rfl)
    g_range := He.free_ok KX G (c.fact 10 (f := .free "range") rfl)
    g_sorted := He.free_ok KX G (c.fact 11 (f := .free "sorted") rfl)
    g_all := He.free_ok KX G (c.fact 12 (f := .free "all") rfl)
    g_enumerate := He.free_ok KX G (c.fact 13 (f := .free "enumerate") rfl)
    g_zip := He.free_ok KX G (c.fact 14 (f := .free "zip") rfl)
    g_reversed := He.free_ok KX G (c.fact 15 (f := .free "reversed") rfl)
    g_repr := He.free_ok KX G (c.fact 16 (f := .free "repr") rfl)
    g_MARKS := He.str_ok KX G (c.fact 17 (f := .str "MARKS" "abcdefgh") rfl)
    g_NAMES := He.str_ok KX G (c.fact 18 (f := .str "NAMES" "pqrstuvwxyz") rfl)
    g_MOST_NODES := He.int_ok KX G (c.fact 19 (f := .int "MOST_NODES" 20000) rfl)
    g_MOST_NAMES := He.int_ok KX G (c.fact 20 (f := .int "MOST_NAMES" 5) rfl)
    g_MOST_STATES := He.int_ok KX G (c.fact 21 (f := .int "MOST_STATES" 300) rfl)
    x_MatchError := ⟨He.glo_ok KX G (c.fact 22 (f := .glo "MatchError") rfl), (He.exc_ok (c.fact 23 (f := .exc "MatchError") rfl)).1, (He.exc_ok (c.fact 23 (f := .exc "MatchError") rfl)).2.1, (He.exc_ok (c.fact 23 (f := .exc "MatchError") rfl)).2.2.1, (He.exc_ok (c.fact 23 (f := .exc "MatchError") rfl)).2.2.2⟩
    x_BadDocument := ⟨He.glo_ok KX G (c.fact 24 (f := .glo "BadDocument") rfl), (He.exc_ok (c.fact 25 (f := .exc "BadDocument") rfl)).1, (He.exc_ok (c.fact 25 (f := .exc "BadDocument") rfl)).2.1, (He.exc_ok (c.fact 25 (f := .exc "BadDocument") rfl)).2.2.1, (He.exc_ok (c.fact 25 (f := .exc "BadDocument") rfl)).2.2.2⟩
    x_BadNode := ⟨He.glo_ok KX G (c.fact 26 (f := .glo "BadNode") rfl), (He.exc_ok (c.fact 27 (f := .exc "BadNode") rfl)).1, (He.exc_ok (c.fact 27 (f := .exc "BadNode") rfl)).2.1, (He.exc_ok (c.fact 27 (f := .exc "BadNode") rfl)).2.2.1, (He.exc_ok (c.fact 27 (f := .exc "BadNode") rfl)).2.2.2⟩
    x_BadMachine := ⟨He.glo_ok KX G (c.fact 28 (f := .glo "BadMachine") rfl), (He.exc_ok (c.fact 29 (f := .exc "BadMachine") rfl)).1, (He.exc_ok (c.fact 29 (f := .exc "BadMachine") rfl)).2.1, (He.exc_ok (c.fact 29 (f := .exc "BadMachine") rfl)).2.2.1, (He.exc_ok (c.fact 29 (f := .exc "BadMachine") rfl)).2.2.2⟩
    x_BadCount := ⟨He.glo_ok KX G (c.fact 30 (f := .glo "BadCount") rfl), (He.exc_ok (c.fact 31 (f := .exc "BadCount") rfl)).1, (He.exc_ok (c.fact 31 (f := .exc "BadCount") rfl)).2.1, (He.exc_ok (c.fact 31 (f := .exc "BadCount") rfl)).2.2.1, (He.exc_ok (c.fact 31 (f := .exc "BadCount") rfl)).2.2.2⟩
    d_is_integer := ⟨_, fd0, _, _, F0, He.glo_ok KX G (c.fact 32 (f := .glo "is_integer") rfl), F0.bindsN (ps := ["thing"]) (fun _ _ _ _ _ _ us hl => match us, hl with | [_], _ => rfl)⟩
    d_is_below := ⟨_, fd1, _, _, F1, He.glo_ok KX G (c.fact 33 (f := .glo "is_below") rfl), F1.bindsN (ps := ["thing", "bound"]) (fun _ _ _ _ _ _ us hl => match us, hl with | [_, _], _ => rfl)⟩
    d_need_count := ⟨_, fd2, _, _, F2, He.glo_ok KX G (c.fact 34 (f := .glo "need_count") rfl), full1 (F2.binds1 (ps := ["thing", "most"]) 2 1 (by intro z; cases z) rfl (fun _ _ _ _ _ _ _ us its h1 h2 => match us, h1, its, h2 with | [_, _], _, [_], _ => ⟨_, rfl, rfl⟩))⟩
    d_is_mark := ⟨_, fd3, _, _, F3, He.glo_ok KX G (c.fact 35 (f := .glo "is_mark") rfl), F3.bindsN (ps := ["thing"]) (fun _ _ _ _ _ _ us hl => match us, hl with | [_], _ => rfl)⟩
    d_is_name := ⟨_, fd4, _, _, F4, He.glo_ok KX G (c.fact 36 (f := .glo "is_name") rfl), F4.bindsN (ps := ["thing"]) (fun _ _ _ _ _ _ us hl => match us, hl with | [_], _ => rfl)⟩
    d_is_rising := ⟨_, fd5, _, _, F5, He.glo_ok KX G (c.fact 37 (f := .glo "is_rising") rfl), F5.bindsN (ps := ["things"]) (fun _ _ _ _ _ _ us hl => match us, hl with | [_], _ => rfl)⟩
    d_is_names := ⟨_, fd6, _, _, F6, He.glo_ok KX G (c.fact 38 (f := .glo "is_names") rfl), F6.bindsN (ps := ["thing", "most"]) (fun _ _ _ _ _ _ us hl => match us, hl with | [_, _], _ => rfl)⟩
    d_is_forest := ⟨_, fd7, _, _, F7, He.glo_ok KX G (c.fact 39 (f := .glo "is_forest") rfl), F7.bindsN (ps := ["thing"]) (fun _ _ _ _ _ _ us hl => match us, hl with | [_], _ => rfl)⟩
    d_need_document := ⟨_, fd8, _, _, F8, He.glo_ok KX G (c.fact 40 (f := .glo "need_document") rfl), F8.bindsN (ps := ["document"]) (fun _ _ _ _ _ _ us hl => match us, hl with | [_], _ => rfl)⟩
    d_need_node := ⟨_, fd9, _, _, F9, He.glo_ok KX G (c.fact 41 (f := .glo "need_node") rfl), F9.bindsN (ps := ["document", "node"]) (fun _ _ _ _ _ _ us hl => match us, hl with | [_, _], _ => rfl)⟩
    d_parents_of := ⟨_, fd10, _, _, F10, He.glo_ok KX G (c.fact 42 (f := .glo "parents_of") rfl), F10.bindsN (ps := ["document"]) (fun _ _ _ _ _ _ us hl => match us, hl with | [_], _ => rfl)⟩
    d_end_of := ⟨_, fd11, _, _, F11, He.glo_ok KX G (c.fact 43 (f := .glo "end_of") rfl), F11.bindsN (ps := ["document", "node"]) (fun _ _ _ _ _ _ us hl => match us, hl with | [_, _], _ => rfl)⟩
    d_row_of := ⟨_, fd12, _, _, F12, He.glo_ok KX G (c.fact 44 (f := .glo "row_of") rfl), F12.bindsN (ps := ["document", "node"]) (fun _ _ _ _ _ _ us hl => match us, hl with | [_, _], _ => rfl)⟩
    d_is_names_form := ⟨_, fd13, _, _, F13, He.glo_ok KX G (c.fact 45 (f := .glo "is_names_form") rfl), F13.bindsN (ps := ["thing"]) (fun _ _ _ _ _ _ us hl => match us, hl with | [_], _ => rfl)⟩
    d_lays_of := ⟨_, fd14, _, _, F14, He.glo_ok KX G (c.fact 46 (f := .glo "lays_of") rfl), F14.bindsN (ps := ["names"]) (fun _ _ _ _ _ _ us hl => match us, hl with | [_], _ => rfl)⟩
    d_is_row := ⟨_, fd15, _, _, F15, He.glo_ok KX G (c.fact 47 (f := .glo "is_row") rfl), F15.bindsN (ps := ["thing", "length", "bound"]) (fun _ _ _ _ _ _ us hl => match us, hl with | [_, _, _], _ => rfl)⟩
    d_is_good_row := ⟨_, fd16, _, _, F16, He.glo_ok KX G (c.fact 48 (f := .glo "is_good_row") rfl), F16.bindsN (ps := ["thing", "bound"]) (fun _ _ _ _ _ _ us hl => match us, hl with | [_, _], _ => rfl)⟩
    d_is_machine_form := ⟨_, fd17, _, _, F17, He.glo_ok KX G (c.fact 49 (f := .glo "is_machine_form") rfl), F17.bindsN (ps := ["thing"]) (fun _ _ _ _ _ _ us hl => match us, hl with | [_], _ => rfl)⟩
    d_need_machine := ⟨_, fd18, _, _, F18, He.glo_ok KX G (c.fact 50 (f := .glo "need_machine") rfl), F18.bindsN (ps := ["machine"]) (fun _ _ _ _ _ _ us hl => match us, hl with | [_], _ => rfl)⟩
    d_added_up := ⟨_, fd19, _, _, F19, He.glo_ok KX G (c.fact 51 (f := .glo "added_up") rfl), F19.bindsN (ps := ["pairs"]) (fun _ _ _ _ _ _ us hl => match us, hl with | [_], _ => rfl)⟩
    d_no_ways := ⟨_, fd20, _, _, F20, He.glo_ok KX G (c.fact 52 (f := .glo "no_ways") rfl), F20.bindsN (ps := ["states"]) (fun _ _ _ _ _ _ us hl => match us, hl with | [_], _ => rfl)⟩
    d_child_ways := ⟨_, fd21, _, _, F21, He.glo_ok KX G (c.fact 53 (f := .glo "child_ways") rfl), F21.bindsN (ps := ["step", "own"]) (fun _ _ _ _ _ _ us hl => match us, hl with | [_, _], _ => rfl)⟩
    d_both_ways := ⟨_, fd22, _, _, F22, He.glo_ok KX G (c.fact 54 (f := .glo "both_ways") rfl), F22.bindsN (ps := ["one", "other", "starts"]) (fun _ _ _ _ _ _ us hl => match us, hl with | [_, _, _], _ => rfl)⟩
    d_node_ways_of := ⟨_, fd23, _, _, F23, He.glo_ok KX G (c.fact 55 (f := .glo "node_ways_of") rfl), F23.bindsN (ps := ["begin", "laid", "ways"]) (fun _ _ _ _ _ _ us hl => match us, hl with | [_, _, _], _ => rfl)⟩
    d_swept := ⟨_, fd24, _, _, F24, He.glo_ok KX G (c.fact 56 (f := .glo "swept") rfl), F24.bindsN (ps := ["machine", "document", "first", "end"]) (fun _ _ _ _ _ _ us hl => match us, hl with | [_, _, _, _], _ => rfl)⟩
    d_row_ways := ⟨_, fd25, _, _, F25, He.glo_ok KX G (c.fact 57 (f := .glo "row_ways") rfl), F25.bindsN (ps := ["machine", "document", "node", "begin", "end"]) (fun _ _ _ _ _ _ us hl => match us, hl with | [_, _, _, _, _], _ => rfl)⟩
    d_node_ways := ⟨_, fd26, _, _, F26, He.glo_ok KX G (c.fact 58 (f := .glo "node_ways") rfl), F26.bindsN (ps := ["machine", "document", "node"]) (fun _ _ _ _ _ _ us hl => match us, hl with | [_, _, _], _ => rfl)⟩
    d__law_feed := ⟨_, fd27, _, _, F27, He.glo_ok KX G (c.fact 59 (f := .glo "_law_feed") rfl), F27.bindsN (ps := ["script", "k"]) (fun _ _ _ _ _ _ us hl => match us, hl with | [_, _], _ => rfl)⟩
    d__law_draw := ⟨_, fd28, _, _, F28, He.glo_ok KX G (c.fact 60 (f := .glo "_law_draw") rfl), F28.bindsN (ps := ["feed", "many"]) (fun _ _ _ _ _ _ us hl => match us, hl with | [_, _], _ => rfl)⟩
    d__law_one := ⟨_, fd29, _, _, F29, He.glo_ok KX G (c.fact 61 (f := .glo "_law_one") rfl), F29.bindsN (ps := ["feed", "things"]) (fun _ _ _ _ _ _ us hl => match us, hl with | [_, _], _ => rfl)⟩
    d__law_mixed := ⟨_, fd30, _, _, F30, He.glo_ok KX G (c.fact 62 (f := .glo "_law_mixed") rfl), F30.bindsN (ps := ["feed", "things"]) (fun _ _ _ _ _ _ us hl => match us, hl with | [_, _], _ => rfl)⟩
    d__law_document := ⟨_, fd31, _, _, F31, He.glo_ok KX G (c.fact 63 (f := .glo "_law_document") rfl), F31.bindsN (ps := ["feed", "most"]) (fun _ _ _ _ _ _ us hl => match us, hl with | [_, _], _ => rfl)⟩
    d__law_children := ⟨_, fd32, _, _, F32, He.glo_ok KX G (c.fact 64 (f := .glo "_law_children") rfl), F32.bindsN (ps := ["document"]) (fun _ _ _ _ _ _ us hl => match us, hl with | [_], _ => rfl)⟩
    d__law_row := ⟨_, fd33, _, _, F33, He.glo_ok KX G (c.fact 65 (f := .glo "_law_row") rfl), F33.bindsN (ps := ["feed", "many", "states"]) (fun _ _ _ _ _ _ us hl => match us, hl with | [_, _, _], _ => rfl)⟩
    d__law_machine := ⟨_, fd34, _, _, F34, He.glo_ok KX G (c.fact 66 (f := .glo "_law_machine") rfl), F34.bindsN (ps := ["feed", "many", "states"]) (fun _ _ _ _ _ _ us hl => match us, hl with | [_, _, _], _ => rfl)⟩
    d__law_end := ⟨_, fd35, _, _, F35, He.glo_ok KX G (c.fact 67 (f := .glo "_law_end") rfl), F35.bindsN (ps := ["document", "node"]) (fun _ _ _ _ _ _ us hl => match us, hl with | [_, _], _ => rfl)⟩
    d__law_layings := ⟨_, fd36, _, _, F36, He.glo_ok KX G (c.fact 68 (f := .glo "_law_layings") rfl), F36.bindsN (ps := ["nodes", "many"]) (fun _ _ _ _ _ _ us hl => match us, hl with | [_, _], _ => rfl)⟩
    d__law_laid := ⟨_, fd37, _, _, F37, He.glo_ok KX G (c.fact 69 (f := .glo "_law_laid") rfl), F37.bindsN (ps := ["places"]) (fun _ _ _ _ _ _ us hl => match us, hl with | [_], _ => rfl)⟩
    d__law_state := ⟨_, fd38, _, _, F38, He.glo_ok KX G (c.fact 70 (f := .glo "_law_state") rfl), F38.bindsN (ps := ["machine", "document", "children", "laid", "node"]) (fun _ _ _ _ _ _ us hl => match us, hl with | [_, _, _, _, _], _ => rfl)⟩
    d__law_due := ⟨_, fd39, _, _, F39, He.glo_ok KX G (c.fact 71 (f := .glo "_law_due") rfl), F39.bindsN (ps := ["machine", "document", "children", "row"]) (fun _ _ _ _ _ _ us hl => match us, hl with | [_, _, _, _], _ => rfl)⟩
    d__law_asked_one := ⟨_, fd40, _, _, F40, He.glo_ok KX G (c.fact 72 (f := .glo "_law_asked_one") rfl), F40.bindsN (ps := ["script"]) (fun _ _ _ _ _ _ us hl => match us, hl with | [_], _ => rfl)⟩
    d__law_great_machine := ⟨_, fd41, _, _, F41, He.glo_ok KX G (c.fact 73 (f := .glo "_law_great_machine") rfl), F41.bindsN (ps := ["feed", "many"]) (fun _ _ _ _ _ _ us hl => match us, hl with | [_, _], _ => rfl)⟩
    d__law_due_too := ⟨_, fd42, _, _, F42, He.glo_ok KX G (c.fact 74 (f := .glo "_law_due_too") rfl), F42.bindsN (ps := ["machine", "document", "children", "node"]) (fun _ _ _ _ _ _ us hl => match us, hl with | [_, _, _, _], _ => rfl)⟩
    d__law_asked_two := ⟨_, fd43, _, _, F43, He.glo_ok KX G (c.fact 75 (f := .glo "_law_asked_two") rfl), F43.bindsN (ps := ["script"]) (fun _ _ _ _ _ _ us hl => match us, hl with | [_], _ => rfl)⟩
    d_law := ⟨_, fd44, _, _, F44, He.glo_ok KX G (c.fact 76 (f := .glo "law") rfl), F44.bindsN (ps := ["script"]) (fun _ _ _ _ _ _ us hl => match us, hl with | [_], _ => rfl)⟩
  }
theorem law_def {K : PySem.W.Frag} (c : He.SaysD fa fn K) : ∃ fd, FunD K "law" "law" (defArgs (top 61)) (defBody (top 61)) (defScope (top 61)) [] [] (He.ga K "law") fd := by
  obtain ⟨fd, F⟩ := c.def_ 44 (d := ⟨("law", none), "law", "law", defArgs (top 61), defBody (top 61), defScope (top 61), [], []⟩) rfl
  exact ⟨fd, F⟩
theorem law_glo {K : PySem.W.Frag} {h : Heap} {mg : Str → Option Value} (KX : K.In h) (G : h.Ns mainGlobals mg) (c : He.SaysD fa fn K) : mg "law" = some (.ref (He.ga K "law")) := He.glo_ok KX G (c.fact 76 (f := .glo "law") rfl)
abbrev hdR : PySem.W.OpenRow := PySem.W.OpenLaw.row PySem.Challenge.rw_lawfulpages_k67_whole_row_ways_by_laying
abbrev hdK : PySem.W.Hook := He.hookX 6 fa fn [] [] exB
def hdOb (s : PySem.W.SharedT) : He.AlX := He.obsX 6 fa fn [] [] exB (HandSHeadRun.getT s)
theorem hdOb_eq (s : PySem.W.SharedT) : hdOb s = hdK.obs s.abs := He.obsX_eq (HandSHeadRun.getT_eq s)
theorem hdRun (w : World) : HandSHeadRun.RunEq hdR (PySem.W.view hdR.prog [lawAt]) hdK hdOb 6000 names w := by
  intro os
  kernel_rfl

end K67

set_option maxHeartbeats 4000000
namespace K67
open PySem PySem.Spec PyProof.Rows L2 KB KM
set_option exponentiation.threshold 2000
/-! ### the law's draws -/
abbrev ib : Int → Nat := Builtin.Int.intBits
theorem ib_le {x : Int} {m : Nat} (h : x.natAbs < 2 ^ m) : ib x ≤ m := PyProof.Rows.intBits_le h
theorem ib_mono {x y : Int} (h : x.natAbs ≤ y.natAbs) : ib x ≤ ib y := by
  by_cases hx : x = 0
  · subst hx; exact Nat.zero_le _
  · have hy : y ≠ 0 := by omega
    show Builtin.Int.intBits x ≤ Builtin.Int.intBits y
    unfold Builtin.Int.intBits
    rw [if_neg (by simpa using hx), if_neg (by simpa using hy)]
    have h1 : x.natAbs < 2 ^ (y.natAbs.log2 + 1) := Nat.lt_of_le_of_lt h Nat.lt_log2_self
    have h2 := (Nat.log2_lt (by omega)).mpr h1
    omega
theorem mulx {x y : Int} (a b : Nat) (h1 : ib x ≤ a) (h2 : ib y ≤ b) (h : a + b ≤ 134217728) : CMulX x y := by
  unfold CMulX
  have h3 : Builtin.Int.intBits x ≤ a := h1
  have h4 : Builtin.Int.intBits y ≤ b := h2
  omega
/-- what a feed holds behind at most n stirred draws -/
def FdL (n : Nat) (xs : List V) : Prop := ∃ a b c : Int, xs = [.int a, .int b, .int c] ∧ 0 ≤ a ∧ ib a ≤ 1048576 ∧ 0 ≤ b ∧ b < 10 ^ 40 ∧ 0 ≤ c ∧ c ≤ n
theorem FdL.mono {n m : Nat} {xs : List V} (h : FdL n xs) (l : n ≤ m) : FdL m xs := by
  obtain ⟨a, b, c, e, h1, h2, h3, h4, h5, h6⟩ := h
  exact ⟨a, b, c, e, h1, h2, h3, h4, h5, by omega⟩
section
variable {P : Program} {w : World} {K : PySem.W.Frag} {mg : Str → Option Value} {base : Heap}
/-! ### _law_feed -/
def spFeed (K : PySem.W.Frag) : Sp := fun vs H Q _ => ∃ (a : Addr) (ns : List Int) (k : Nat), vs = [.ref a, .int k] ∧ SqL K H a (ns.map V.int) ∧ (∀ z ∈ ns, ib z ≤ 1048576) ∧ k ≤ 100 ∧
  ∀ (p : Addr) (xs : List V) (H' : Hp), H p = none → Same H H' → H' p = some (.lst xs) → FdL 0 xs → Q (.ref p) H'
theorem cut1 (ns : List Int) : cutV (ns.map V.int) none (some 1) = (ns.take 1).map V.int := by
  unfold cutV
  have e := HT.sIx_nat (ns.map V.int).length (ns.map V.int).length 1
  rw [show ((1 : Nat) : Int) = 1 from rfl] at e
  rw [e, HT.sIx_none, List.drop_zero, Nat.sub_zero, List.map_take, List.length_map]
  cases ns with
  | nil => rfl
  | cons z r => simp
theorem sum1 {ns : List Int} (h : ∀ z ∈ ns, ib z ≤ 1048576) : ib (ns.take 1).sum ≤ 1048576 := by
  cases ns with
  | nil => decide
  | cons z r => simpa using h z (by simp)
abbrev s__law_feed : Stmt := (top 44)
theorem sc__law_feed : FnScope ["script", "k", "cell"] ["script", "k"] (defScope s__law_feed) := ⟨rfl, rfl, rfl, by decide +kernel, rfl, by decide +kernel, by decide +kernel⟩
theorem feed_end {cell : Int} {k : Nat} (h : ∃ z : Int, ib z ≤ 1048576 ∧ z ≤ cell ∧ cell ≤ z + 100000) :
    FdL 0 [.int (max 0 (cell - 10 ^ (18 : Int).toNat)), .int ((cell * 19 + 7 * (k : Int)) % (10 ^ (39 : Int).toNat + 23)), .int 0] := by
  obtain ⟨z, h1, h2, h3⟩ := h
  refine ⟨_, _, _, rfl, by omega, ?_, Int.emod_nonneg _ (by decide +kernel), ?_, by omega, by omega⟩
  · refine Nat.le_trans (ib_mono ?_) h1
    rw [show (10 : Int) ^ (18 : Int).toNat = 1000000000000000000 by decide +kernel]
    omega
  · exact Int.lt_trans (Int.emod_lt_of_pos _ (by decide +kernel)) (by decide +kernel)
theorem b_feed (T : Txt K mg) : Body P w K mg base (0) ["script", "k", "cell"] "_law_feed" (defScope s__law_feed) (defBody s__law_feed) (spFeed K) := by
  intro f cdv A outer s H vs Q E hr h
  obtain ⟨a, ns, k, rfl, hS, hb, hk, q⟩ := h
  have hu := hu_of hr
  have tk : Takes (cxOf (L2.CX P w) P w K mg base ["script", "k", "cell"] "_law_feed" (defScope s__law_feed) f cdv A outer s H E) (fun cls d _ H => E cls d H) := takes_of rfl rfl rfl rfl
  refine ⟨_, (pss_cons (ps_set (i := 2) sc__law_feed.nd rfl (Or.inl rfl) (pe_op op_add (pe_op op_mul pe_int (pv 1)) (pe_callB (cr_sum rfl) (by rfl) T.g_sum (by decide +kernel) (pa_cons (pe_slice sl_list (pv 0) po_none (po_some pe_int)) pa_nil))))
    (pss_cons (ps_if (pt_cmpR op_lt (pv 1) (pe_callB call_lenK (by rfl) T.g_len (by decide +kernel) (pa_cons (pv 0) pa_nil)) (nomark _)) (pss_one (ps_set (i := 2) sc__law_feed.nd rfl (Or.inl rfl) (pe_ix ix_list (pv 0) (pv 1) (fun _ _ => rfl)))) pss_nil)
    (pss_one (ps_ret (pe_lst (pa_cons (pe_callB (call_max2K rfl) (by rfl) T.g_max (by decide +kernel) (pa_cons pe_int (pa_cons (pe_op op_sub (pv 2) (pe_op op_pow pe_int pe_int)) pa_nil))) (pa_cons (pe_op op_mod (pe_callTy call_int1K (by rfl) T.g_int (by decide +kernel) (pa_cons (pe_op op_add (pe_op op_mul (pv 2) pe_int) (pe_op op_mul pe_int (pv 1))) pa_nil)) (pe_op op_add (pe_op op_pow pe_int pe_int) pe_int)) (pa_cons pe_int pa_nil)))))))), ?_⟩
  refine i_start [some _, some _, none] (by rfl) ?_
  try dsimp only [cxOf]
  walk_at "rd"
  refine i_rI (.inl ⟨by decide, by decide⟩) ?_
  walk_at "rd"
  refine ⟨a, _, rfl, hS, fun sl hsl => ?_⟩
  walk_at "rd"
  rw [cut1]
  refine ⟨sl, ns.take 1, rfl, SqL.of upd_same, ?_⟩
  walk_at "rd"
  have s1 : Same H (L2.upd H sl (.lst ((ns.take 1).map V.int))) := Same.new hsl
  refine i_lenL (s1.seq hS) ?_
  walk_at "rd"
  have fin : ∀ cell : Int, (∃ z : Int, ib z ≤ 1048576 ∧ z ≤ cell ∧ cell ≤ z + 100000) → ∀ p, L2.upd H sl (.lst ((ns.take 1).map V.int)) p = none →
      Q (.ref p) (L2.upd (L2.upd H sl (.lst ((ns.take 1).map V.int))) p (.lst [.int (max 0 (cell - 10 ^ (18 : Int).toNat)), .int ((cell * 19 + 7 * (k : Int)) % (10 ^ (39 : Int).toNat + 23)), .int 0])) :=
    fun cell hc p hp => q p _ _ (s1.free hp) (s1.trans (Same.new hp)) upd_same (feed_end hc)
  refine i_dec (fun hl => ?_) (fun hl => ?_)
  · rw [List.length_map] at hl
    have hk2 : k < ns.length := by omega
    walk_at "rd"
    refine i_ixL (s1.seq hS) (atI_nat (v := .int ns[k]) (by rw [List.getElem?_map, List.getElem?_eq_getElem hk2]; rfl)) ?_
    walk_at "rd"
    refine i_rI ⟨by decide, by decide, by decide⟩ ?_
    walk_at "rd"
    refine i_rI (.inr ⟨by decide, by decide⟩) ?_
    walk_at "rd"
    refine i_rI (.inl ⟨by decide, by decide⟩) ?_
    walk_at "rd"
    refine i_rI ⟨by decide, by decide, by decide⟩ ?_
    walk_at "rd"
    refine i_rI (by decide +kernel) ?_
    walk_at "rd"
    refine ⟨by show 3 ≤ sizeLine; decide, ?_⟩
    exact fin ns[k] ⟨ns[k], hb _ (List.getElem_mem hk2), by omega, by omega⟩
  · walk_at "rd"
    refine i_rI ⟨by decide, by decide, by decide⟩ ?_
    walk_at "rd"
    refine i_rI (.inr ⟨by decide, by decide⟩) ?_
    walk_at "rd"
    refine i_rI (.inl ⟨by decide, by decide⟩) ?_
    walk_at "rd"
    refine i_rI ⟨by decide, by decide, by decide⟩ ?_
    walk_at "rd"
    refine i_rI (by decide +kernel) ?_
    walk_at "rd"
    refine ⟨by show 3 ≤ sizeLine; decide, ?_⟩
    exact fin _ ⟨(ns.take 1).sum, sum1 hb, by omega, by omega⟩
/-! ### _law_draw -/
def spDraw : Sp := fun vs H Q _ => ∃ fd many n xs, vs = [.ref fd, .int many] ∧ H fd = some (.lst xs) ∧ FdL n xs ∧ 0 < many ∧ many ≤ 10 ^ 70 ∧ n < 1000000 ∧
  ∀ g ys, 0 ≤ g → g < many → FdL (n + 1) ys → Q (.int g) (L2.upd H fd (.lst ys))
abbrev s__law_draw : Stmt := (top 45)
theorem sc__law_draw : FnScope ["feed", "many", "rest", "got", "stir"] ["feed", "many"] (defScope s__law_draw) := ⟨rfl, rfl, rfl, by decide +kernel, rfl, by decide +kernel, by decide +kernel⟩
theorem b_draw (T : Txt K mg) : Body P w K mg base (0) ["feed", "many", "rest", "got", "stir"] "_law_draw" (defScope s__law_draw) (defBody s__law_draw) spDraw := by
  intro f cdv A outer s H vs Q E hr h
  obtain ⟨fd, many, n, xs, rfl, hf, ⟨a, b, c, rfl, ha, hab, hb, hb2, hc, hcn⟩, hm, hm2, hn, q⟩ := h
  have hu := hu_of hr
  have tk : Takes (cxOf (L2.CX P w) P w K mg base ["feed", "many", "rest", "got", "stir"] "_law_draw" (defScope s__law_draw) f cdv A outer s H E) (fun cls d _ H => E cls d H) := takes_of rfl rfl rfl rfl
  refine ⟨_, (pss_cons (ps_if (pt_cmpR op_gt (pe_ix ix_list (pv 0) pe_int (fun _ _ => rfl)) pe_int (nomark _)) (pss_cons (ps_set (i := 2) sc__law_draw.nd rfl (Or.inl rfl) (pe_op op_fdivW (pe_ix ix_list (pv 0) pe_int (fun _ _ => rfl)) (pv 1)))
    (pss_cons (ps_set (i := 3) sc__law_draw.nd rfl (Or.inl rfl) (pe_op op_sub (pe_ix ix_list (pv 0) pe_int (fun _ _ => rfl)) (pe_op op_mulX (pv 2) (pv 1))))
    (pss_cons (ps_asg (pv 2) (pg_sub (pv 0) pe_int set_list))
    (pss_one (ps_ret (pv 3)))))) pss_nil)
    (pss_cons (ps_asg (pe_op op_add (pe_ix ix_list (pv 0) pe_int (fun _ _ => rfl)) pe_int) (pg_sub (pv 0) pe_int set_list))
    (pss_cons (ps_set (i := 4) sc__law_draw.nd rfl (Or.inl rfl) (pe_op op_add (pe_ix ix_list (pv 0) pe_int (fun _ _ => rfl)) (pe_op op_mul pe_int (pe_ix ix_list (pv 0) pe_int (fun _ _ => rfl)))))
    (pss_cons (ps_set (i := 4) sc__law_draw.nd rfl (Or.inl rfl) (pe_op op_mod (pe_callTy call_int1K (by rfl) T.g_int (by decide +kernel) (pa_cons (pe_op op_add (pe_op op_mulX (pe_op op_mulX (pv 4) (pv 4)) (pv 4)) (pe_op op_mul pe_int (pe_ix ix_list (pv 0) pe_int (fun _ _ => rfl)))) pa_nil)) (pe_op op_add (pe_op op_pow pe_int pe_int) pe_int)))
    (pss_cons (ps_set (i := 4) sc__law_draw.nd rfl (Or.inl rfl) (pe_op op_mod (pe_callTy call_int1K (by rfl) T.g_int (by decide +kernel) (pa_cons (pe_op op_add (pe_op op_mulX (pv 4) (pv 4)) pe_int) pa_nil)) (pe_op op_add (pe_op op_pow pe_int pe_int) pe_int)))
    (pss_one (ps_ret (pe_op op_mod (pe_callTy call_int1K (by rfl) T.g_int (by decide +kernel) (pa_cons (pe_op op_fdivW (pv 4) (pe_op op_pow pe_int pe_int)) pa_nil)) (pv 1))))))))), ?_⟩
  refine i_start [some _, some _, none, none, none] (by rfl) ?_
  try dsimp only [cxOf]
  walk_at "rd"
  have mN : many.natAbs < 2 ^ 240 := Nat.lt_of_le_of_lt (show many.natAbs ≤ 10 ^ 70 by omega) (by decide +kernel)
  refine i_ixL (SqL.of hf) rfl ?_
  walk_at "rd"
  refine i_dec (fun h1 => ?_) (fun h1 => ?_)
  · walk_at "rd"
    refine i_ixL (SqL.of hf) rfl ?_
    walk_at "rd"
    refine i_rI (wide_div hm mN (by decide) (by decide)) ?_
    walk_at "rd"
    refine i_ixL (SqL.of hf) rfl ?_
    walk_at "rd"
    have d0 : 0 ≤ a / many := Int.ediv_nonneg ha (by omega)
    have d1 : a / many ≤ a := Int.ediv_le_self _ ha
    have db : ib (a / many) ≤ 1048576 := Nat.le_trans (ib_mono (by omega)) hab
    have mb := ib_le mN
    refine i_rI (mulx 1048576 240 db mb (by decide)) ?_
    walk_at "rd"
    refine i_setL hf rfl ?_
    walk_at "rd"
    have e : a - a / many * many = a % many := by rw [Int.emod_def, Int.mul_comm]
    rw [e]
    exact q _ _ (Int.emod_nonneg _ (by omega)) (Int.emod_lt_of_pos _ hm) ⟨a / many, b, c, rfl, d0, db, hb, hb2, hc, by omega⟩
  · walk_at "rd"
    refine i_ixL (SqL.of hf) rfl ?_
    walk_at "rd"
    refine i_setL hf rfl ?_
    walk_at "rd"
    refine i_ixL (SqL.of upd_same) rfl ?_
    walk_at "rd"
    refine i_ixL (SqL.of upd_same) rfl ?_
    walk_at "rd"
    refine i_rI (.inl ⟨by decide, by decide⟩) ?_
    walk_at "rd"
    generalize hst : b + 6700417 * (c + 1) = st
    have st1 : ib st ≤ 200 := ib_le (Nat.lt_of_le_of_lt (show st.natAbs ≤ 10 ^ 41 by omega) (by decide +kernel))
    have st2 : ib (st * st) ≤ 400 := by
      refine ib_le ?_
      have h2 : st.natAbs < 2 ^ 200 := Nat.lt_of_le_of_lt (show st.natAbs ≤ 10 ^ 41 by omega) (by decide +kernel)
      exact wide_lt (a := 200) (b := 200) h2 h2
    refine i_rI (mulx 200 200 st1 st1 (by decide)) ?_
    walk_at "rd"
    refine i_rI (mulx 400 200 st2 st1 (by decide)) ?_
    walk_at "rd"
    refine i_ixL (SqL.of upd_same) rfl ?_
    walk_at "rd"
    refine i_rI (.inl ⟨by decide, by decide⟩) ?_
    walk_at "rd"
    refine i_rI ⟨by decide, by decide, by decide⟩ ?_
    walk_at "rd"
    refine i_rI (by decide +kernel) ?_
    walk_at "rd"
    generalize hs2 : (st * st * st + 15485863 * (c + 1)) % (10 ^ (43 : Int).toNat + 57) = s2
    have s20 : 0 ≤ s2 := by rw [← hs2]; exact Int.emod_nonneg _ (by decide +kernel)
    have s21 : s2 < 10 ^ (43 : Int).toNat + 57 := by rw [← hs2]; exact Int.emod_lt_of_pos _ (by decide +kernel)
    rw [show (10 : Int) ^ (43 : Int).toNat + 57 = 10 ^ 43 + 57 by decide +kernel] at s21
    have s2b : ib s2 ≤ 200 := ib_le (Nat.lt_of_le_of_lt (show s2.natAbs ≤ 10 ^ 44 by omega) (by decide +kernel))
    refine i_rI (mulx 200 200 s2b s2b (by decide)) ?_
    walk_at "rd"
    refine i_rI ⟨by decide, by decide, by decide⟩ ?_
    walk_at "rd"
    refine i_rI (by decide +kernel) ?_
    walk_at "rd"
    refine i_rI ⟨by decide, by decide, by decide⟩ ?_
    walk_at "rd"
    refine i_rI (show CDivW _ (10 ^ (9 : Int).toNat) from ⟨by decide +kernel, by decide +kernel⟩) ?_
    walk_at "rd"
    refine i_rI hm ?_
    walk_at "rd"
    exact q _ _ (Int.emod_nonneg _ (by omega)) (Int.emod_lt_of_pos _ hm) ⟨a, b, c + 1, rfl, ha, hab, hb, hb2, by omega, by omega⟩
end

end K67

set_option maxHeartbeats 4000000
namespace K67
open PySem PySem.Spec PyProof.Rows L2 KB KM
section
variable {P : Program} {w : World} {K : PySem.W.Frag} {mg : Str → Option Value} {base : Heap}
theorem c_feed (T : Txt K mg) : Cal P w K mg base 1 "_law_feed" (spFeed K) := T.d__law_feed.cal sc__law_feed (fun vs H Q E h => by obtain ⟨_, _, _, rfl, _⟩ := h; rfl) (b_feed T)
theorem c_draw (T : Txt K mg) : Cal P w K mg base 1 "_law_draw" spDraw := T.d__law_draw.cal sc__law_draw (fun vs H Q E h => by obtain ⟨_, _, _, _, rfl, _⟩ := h; rfl) (b_draw T)
abbrev s__law_one : Stmt := (top 46)
theorem sc__law_one : FnScope ["feed", "things"] ["feed", "things"] (defScope s__law_one) := ⟨rfl, rfl, rfl, by decide +kernel, rfl, by decide +kernel, by decide +kernel⟩
end

end K67

set_option maxHeartbeats 4000000
section
open KM
open KD hiding Dp
local macro_rules | `(tactic| walk_at "dw1") => `(tactic| first
  | with_reducible refine d_seq ?_
  | ((with_reducible refine d_var (d := ?dd) ?h1 ?_); (case h1 => exact rfl))
  | ((with_reducible refine d_varO (o := ?oo) ?h1 ?_); (case h1 => exact rfl))
  | ((with_reducible refine d_varR (a := ?aa) ?h1 ?_); (case h1 => exact rfl))
  | ((with_reducible refine d_c (d := ?dd) ?h1 ?_); (case h1 => exact rfl))
  | with_reducible refine d_op ?_
  | with_reducible refine d_un ?_
  | with_reducible refine d_asg ?_
  | with_reducible refine d_gnameF ?_
  | with_reducible refine d_gnameN ?_
  | with_reducible refine d_gown ?_
  | with_reducible refine d_gnameR ?_
  | with_reducible refine d_next ?_
  | with_reducible refine d_brk ?_
  | with_reducible refine d_cnt ?_
  | with_reducible refine d_ret ?_
  | with_reducible refine d_retN ?_
  | with_reducible refine d_drop ?_
  | with_reducible refine d_ifS ?_
  | with_reducible refine d_test ?_
  | with_reducible refine d_B ?_
  | with_reducible refine d_bl ?_
  | with_reducible refine d_blI ?_
  | with_reducible refine d_and ?_
  | with_reducible refine d_or ?_
  | with_reducible refine d_not ?_
  | with_reducible refine d_yes ?_
  | with_reducible refine d_andV ?_
  | with_reducible refine d_orV ?_
  | with_reducible refine d_notV ?_
  | with_reducible refine d_if ?_
  | with_reducible refine d_parX ?_
  | with_reducible refine d_par3X ?_
  | ((with_reducible refine d_asg2X ?h1 ?_); (case h1 => exact rfl))
  | ((with_reducible refine d_asg3X ?h1 ?_); (case h1 => exact rfl))
  | with_reducible refine d_nilX ?_
  | ((with_reducible refine d_nget2 ?h1 ?h2 ?_); (case h1 => exact rfl); (case h2 => exact rfl))
  | ((with_reducible refine d_nput ?h1 ?h2 ?_); (case h1 => exact rfl); (case h2 => exact rfl))
  | ((with_reducible refine d_nget ?h1 ?h2 ?_); (case h1 => exact rfl); (case h2 => exact rfl))
  | ((with_reducible refine d_nin ?h1 ?h2 ?_); (case h1 => exact rfl); (case h2 => exact rfl))
  | with_reducible refine d_tget2' ?_
  | with_reducible refine d_tput' ?_
  | with_reducible refine d_kget ?_
  | with_reducible refine d_kget2 ?_
  | with_reducible refine d_kput ?_
  | with_reducible refine d_kin ?_
  | with_reducible refine d_knotin ?_
  | with_reducible refine d_x2F ?_
  | with_reducible refine d_x3F ?_
  | with_reducible refine d_consX ?_
  | with_reducible refine d_cxF ?_
  | with_reducible refine d_sl ?_
  | with_reducible refine d_nopart ?_
  | with_reducible refine d_part ?_
  | with_reducible refine d_nil ?_
  | with_reducible refine d_cons ?_
  | with_reducible refine d_CB ?_
  | with_reducible refine d_tup ?_
  | with_reducible refine d_lst ?_
  | with_reducible refine d_chain ?_
  | with_reducible refine d_par ?_
  | with_reducible refine d_par3 ?_
  | with_reducible refine d_gnil ?_
  | with_reducible refine d_gcons ?_
  | with_reducible refine i_T ?_
  | with_reducible refine i_F ?_
  | with_reducible refine i_nT ?_
  | with_reducible refine i_nF ?_
  | ((with_reducible refine d_mk (ds := ?dsds) ?h1 ?h2 ?_); (case h1 => exact rfl); (case h2 => exact rfl))
  | ((with_reducible refine d_par2 (d := ?dd) (e := ?ee) ?h1 ?h2 ?_); (case h1 => exact rfl); (case h2 => exact rfl))
  | ((with_reducible refine d_par3x (d := ?dd) (e := ?ee) (d3 := ?d3d3) ?h1 ?h2 ?h3 ?_); (case h1 => exact rfl); (case h2 => exact rfl); (case h3 => exact rfl))
  | ((with_reducible refine d_rI0 (i := ?ii) (j := ?jj) (d := ?dd) ?h1 ?h2 ?h3 ?_); (case h1 => exact rfl); (case h2 => exact rfl); (case h3 => exact rfl))
  | ((with_reducible refine d_rU (i := ?ii) (d := ?dd) ?h1 ?h2 ?_); (case h1 => exact rfl); (case h2 => exact rfl))
  | ((with_reducible refine d_eqI (n := ?nn) (m := ?mm) ?h1 ?h2 ?_); (case h1 => exact rfl); (case h2 => exact rfl))
  | ((with_reducible refine d_neI (n := ?nn) (m := ?mm) ?h1 ?h2 ?_); (case h1 => exact rfl); (case h2 => exact rfl))
  | ((with_reducible refine d_eqS (n := ?nn) (m := ?mm) ?h1 ?h2 ?_); (case h1 => exact rfl); (case h2 => exact rfl))
  | ((with_reducible refine d_neS (n := ?nn) (m := ?mm) ?h1 ?h2 ?_); (case h1 => exact rfl); (case h2 => exact rfl))
  | ((with_reducible refine d_isNT (d := ?dd) ?h1 ?h2 ?h3 ?_); (case h1 => exact rfl); (case h2 => exact rfl); (case h3 => exact rfl))
  | ((with_reducible refine d_isNF (d := ?dd) ?h1 ?h2 ?h3 ?_); (case h1 => exact rfl); (case h2 => exact rfl); (case h3 => exact rfl))
  | ((with_reducible refine d_notNT (d := ?dd) ?h1 ?h2 ?h3 ?_); (case h1 => exact rfl); (case h2 => exact rfl); (case h3 => exact rfl))
  | ((with_reducible refine d_notNF (d := ?dd) ?h1 ?h2 ?h3 ?_); (case h1 => exact rfl); (case h2 => exact rfl); (case h3 => exact rfl))
  | ((with_reducible refine d_isB (a := ?aa) (b := ?bb) ?h1 ?h2 ?_); (case h1 => exact rfl); (case h2 => exact rfl))
  | ((with_reducible refine d_notB (a := ?aa) (b := ?bb) ?h1 ?h2 ?_); (case h1 => exact rfl); (case h2 => exact rfl))
  | ((with_reducible refine d_inStr (a := ?aa) (b := ?bb) ?h1 ?h2 ?_); (case h1 => exact rfl); (case h2 => exact rfl))
  | ((with_reducible refine d_notInStr (a := ?aa) (b := ?bb) ?h1 ?h2 ?_); (case h1 => exact rfl); (case h2 => exact rfl))
  | ((with_reducible refine d_len (ds := ?dsds) ?h1 ?_); (case h1 => exact rfl))
  | ((with_reducible refine d_max2 (i := ?ii) (j := ?jj) ?h1 ?h2 ?_); (case h1 => exact rfl); (case h2 => exact rfl))
  | ((with_reducible refine d_min2 (i := ?ii) (j := ?jj) ?h1 ?h2 ?_); (case h1 => exact rfl); (case h2 => exact rfl))
  | ((with_reducible refine d_abs (i := ?ii) ?h1 ?_); (case h1 => exact rfl))
  | ((with_reducible refine d_int1 (i := ?ii) ?h1 ?_); (case h1 => exact rfl))
  | ((with_reducible refine d_listD (ds := ?dsds) ?h1 ?_); (case h1 => exact rfl))
  | ((with_reducible refine d_tupD (ds := ?dsds) ?h1 ?_); (case h1 => exact rfl))
  | ((with_reducible refine d_isKiT (d := ?dd) ?h1 ?h2 ?h3 ?h4 ?_); (case h4 => exact rfl); (case h1 => exact rfl); (case h2 => exact rfl); (case h3 => exact rfl))
  | ((with_reducible refine d_isKiF (d := ?dd) ?h1 ?h2 ?h3 ?h4 ?_); (case h4 => exact rfl); (case h1 => exact rfl); (case h2 => exact rfl); (case h3 => exact rfl))
  | ((with_reducible refine d_isKbT (d := ?dd) ?h1 ?h2 ?h3 ?h4 ?_); (case h4 => exact rfl); (case h1 => exact rfl); (case h2 => exact rfl); (case h3 => exact rfl))
  | ((with_reducible refine d_isKbF (d := ?dd) ?h1 ?h2 ?h3 ?h4 ?_); (case h4 => exact rfl); (case h1 => exact rfl); (case h2 => exact rfl); (case h3 => exact rfl))
  | ((with_reducible refine d_isKtT (d := ?dd) ?h1 ?h2 ?h3 ?h4 ?_); (case h4 => exact rfl); (case h1 => exact rfl); (case h2 => exact rfl); (case h3 => exact rfl))
  | ((with_reducible refine d_isKtF (d := ?dd) ?h1 ?h2 ?h3 ?h4 ?_); (case h4 => exact rfl); (case h1 => exact rfl); (case h2 => exact rfl); (case h3 => exact rfl))
  | ((with_reducible refine d_isKsT (d := ?dd) ?h1 ?h2 ?h3 ?h4 ?_); (case h4 => exact rfl); (case h1 => exact rfl); (case h2 => exact rfl); (case h3 => exact rfl))
  | ((with_reducible refine d_isKsF (d := ?dd) ?h1 ?h2 ?h3 ?h4 ?_); (case h4 => exact rfl); (case h1 => exact rfl); (case h2 => exact rfl); (case h3 => exact rfl))
  | ((with_reducible refine d_isKlT (d := ?dd) ?h1 ?h2 ?h3 ?h4 ?_); (case h4 => exact rfl); (case h1 => exact rfl); (case h2 => exact rfl); (case h3 => exact rfl))
  | ((with_reducible refine d_isKlF (d := ?dd) ?h1 ?h2 ?h3 ?h4 ?_); (case h4 => exact rfl); (case h1 => exact rfl); (case h2 => exact rfl); (case h3 => exact rfl))
  | ((with_reducible refine d_isKdT (d := ?dd) ?h1 ?h2 ?h3 ?h4 ?_); (case h4 => exact rfl); (case h1 => exact rfl); (case h2 => exact rfl); (case h3 => exact rfl))
  | ((with_reducible refine d_isKdF (d := ?dd) ?h1 ?h2 ?h3 ?h4 ?_); (case h4 => exact rfl); (case h1 => exact rfl); (case h2 => exact rfl); (case h3 => exact rfl))
  | ((with_reducible refine d_gtupF  ?h1 ?h2 ?_); (case h1 => exact rfl); (case h2 => exact rfl))
  | ((with_reducible refine d_iT  ?h1 ?_); (case h1 => exact rfl))
  | ((with_reducible refine d_iL  ?h1 ?_); (case h1 => exact rfl))
  | with_reducible refine d_exT ?_
  | ((with_reducible refine d_exL (ds := ?dsds) ?h1 ?_); (case h1 => exact rfl))
  | ((with_reducible refine d_exE (ds := ?dsds) ?h1 ?_); (case h1 => exact rfl))
  | with_reducible refine d_m1 ?_
  | with_reducible refine d_rg1 ?_
  | with_reducible refine d_rg2 ?_
  | with_reducible refine d_iRevR ?_
  | with_reducible refine d_lstRg ?_
  | with_reducible refine d_iR1 ?_
  | with_reducible refine d_iR2 ?_
  | ((with_reducible refine d_BMx ?h1 ?_); (case h1 => exact rfl))
  | ((with_reducible refine d_BM0x ?h1 ?_); (case h1 => exact rfl))
  | ((with_reducible refine d_bm (ds := ?dsds) ?h1 ?_); (case h1 => exact rfl))
  | ((with_reducible refine d_truthL  ?h1 ?_); (case h1 => exact rfl)))
local macro_rules | `(tactic| walk_at "dw") => `(tactic| repeat walk_at "dw1")
namespace K67
open PySem PySem.Spec PyProof.Rows L2 KB KM
open KD hiding Dp
section
variable {P : Program} {w : World} {K : PySem.W.Frag} {mg : Str → Option Value} {base : Heap}
abbrev gb (P : Program) (w : World) (K : PySem.W.Frag) : Gb := ⟨P, w, K⟩
/-! ### plain kinds, by data -/
mutual
/-- data that may be asked of: no instances, texts of a length -/
def ok : D → Bool
  | .non => true
  | .bl _ => true
  | .int _ => true
  | .str s => Nat.ble s.length sizeLine
  | .tup l => okL l
  | .lst l => okL l
  | .ro l => okL l
  | .dk _ => true
  | _ => false
def okL : List D → Bool
  | [] => true
  | d :: r => ok d && okL r
end
theorem ok_pl {d : D} (h : ok d = true) : d.pl = true := by cases d <;> first | rfl | (simp [ok] at h)
theorem okL_get : ∀ {l : List D} {i : Nat}, okL l = true → ok (l.getD i .non) = true
  | [], _, _ => rfl
  | d :: r, 0, h => by simp only [okL, Bool.and_eq_true] at h; exact h.1
  | d :: r, i + 1, h => by
    simp only [okL, Bool.and_eq_true] at h
    exact okL_get (l := r) (i := i) h.2
def isInt : D → Bool
  | .int _ => true
  | _ => false
def soIsInt (ds : List D) (out : Out) : Prop := ∃ d, ds = [d] ∧ d.pl = true ∧ out = .ret (.bl (isInt d))
theorem bd_is_integer (T : Txt K mg) : Body P w K mg base (0) ["thing"] "is_integer" (defScope s_is_integer) (defBody s_is_integer) (toSp (gb P w K) (spO K soIsInt)) := by
  intro f cdv A outer s H vs Q E hr h
  have hu := hu_of hr
  have tk : Takes (cxOf (L2.CX P w) P w K mg base ["thing"] "is_integer" (defScope s_is_integer) f cdv A outer s H E) (WF E) := takes_of rfl rfl rfl rfl
  refine ⟨_, (pss_one (ps_ret (pe_and (pe_callB call_isD (by rfl) T.g_isinstance (by decide +kernel) (pa_cons (pv 0) (pa_cons (pe_ty "int" T.g_int) pa_nil))) (pe_one (pe_not (pe_callB call_isD (by rfl) T.g_isinstance (by decide +kernel) (pa_cons (pv 0) (pa_cons (pe_ty "bool" T.g_bool) pa_nil)))))))), ?_⟩
  try dsimp only [cxOf]
  refine d_startO h fun ds out hS c hx hM => ?_
  obtain ⟨d, rfl, hp, rfl⟩ := hS
  refine d_st (δ' := [.fz d]) (by rfl) ?_
  walk_at "dw"
  cases d <;> first | (walk_at "dw"; rfl) | (simp [D.pl] at hp; done)
theorem cd_is_integer (T : Txt K mg) : Cal P w K mg base 1 "is_integer" (toSp (gb P w K) (spO K soIsInt)) := T.d_is_integer.cal sc_is_integer (len_spO fun ds out ⟨_, h, _⟩ => by rw [h]; rfl) (bd_is_integer T)
def isBelow (d : D) (b : Int) : Bool := match d with
  | .int i => decide (0 ≤ i) && decide (i < b)
  | _ => false
def soBelow (ds : List D) (out : Out) : Prop := ∃ d b, ds = [d, .int b] ∧ d.pl = true ∧ out = .ret (.bl (isBelow d b))
abbrev s_is_below : Stmt := (top 11)
theorem sc_is_below : FnScope ["thing", "bound"] ["thing", "bound"] (defScope s_is_below) := ⟨rfl, rfl, rfl, by decide +kernel, rfl, by decide +kernel, by decide +kernel⟩
theorem bd_is_below (T : Txt K mg) (C_is_integer : Cal P w K mg base 1 "is_integer" (toSp (gb P w K) (spO K soIsInt))) : Body P w K mg base (1) ["thing", "bound"] "is_below" (defScope s_is_below) (defBody s_is_below) (toSp (gb P w K) (spO K soBelow)) := by
  intro f cdv A outer s H vs Q E hr h
  have hu := hu_of hr
  have tk : Takes (cxOf (L2.CX P w) P w K mg base ["thing", "bound"] "is_below" (defScope s_is_below) f cdv A outer s H E) (WF E) := takes_of rfl rfl rfl rfl
  refine ⟨_, (pss_one (ps_ret (pe_and (pe_cal C_is_integer hr (by omega) tk (pa_cons (pv 0) pa_nil)) (pe_one (pe_chain op_le op_lt pe_int (pv 0) (pv 1)))))), ?_⟩
  try dsimp only [cxOf]
  refine d_startO h fun ds out hS c hx hM => ?_
  obtain ⟨d, b, rfl, hp, rfl⟩ := hS
  refine d_st (δ' := [.fz d, .fz (.int b)]) (by rfl) ?_
  walk_at "dw"
  refine d_callR hx ?_
  walk_at "dw"
  refine ⟨_, _, rfl, ⟨d, rfl, hp, rfl⟩, ?_⟩
  walk_at "dw"
  cases d <;> first | (walk_at "dw"; rfl) | skip
  rename_i i
  walk_at "dw"
  refine i_T ?_
  walk_at "dw"
  refine i_dec (fun z => ?_) (fun z => ?_)
  · walk_at "dw"
    simp only [isBelow, decide_eq_true z, Bool.true_and]
    rfl
  · simp only [isBelow, decide_eq_false z, Bool.false_and]
    rfl
theorem cd_is_below (T : Txt K mg) : Cal P w K mg base 2 "is_below" (toSp (gb P w K) (spO K soBelow)) := T.d_is_below.cal sc_is_below (len_spO fun ds out ⟨_, _, h, _⟩ => by rw [h]; rfl) (bd_is_below T (cd_is_integer T))
def isMark (d : D) : Bool := match d with
  | .str s => decide (((s.length : Nat) : Int) = 1) && inStr s "abcdefgh"
  | _ => false
def soMark (ds : List D) (out : Out) : Prop := ∃ d, ds = [d] ∧ ok d = true ∧ out = .ret (.bl (isMark d))
abbrev s_is_mark : Stmt := (top 13)
theorem sc_is_mark : FnScope ["thing"] ["thing"] (defScope s_is_mark) := ⟨rfl, rfl, rfl, by decide +kernel, rfl, by decide +kernel, by decide +kernel⟩
theorem bd_is_mark (T : Txt K mg) : Body P w K mg base (0) ["thing"] "is_mark" (defScope s_is_mark) (defBody s_is_mark) (toSp (gb P w K) (spO K soMark)) := by
  intro f cdv A outer s H vs Q E hr h
  have hu := hu_of hr
  have tk : Takes (cxOf (L2.CX P w) P w K mg base ["thing"] "is_mark" (defScope s_is_mark) f cdv A outer s H E) (WF E) := takes_of rfl rfl rfl rfl
  refine ⟨_, (pss_one (ps_ret (pe_and (pe_callB call_isD (by rfl) T.g_isinstance (by decide +kernel) (pa_cons (pv 0) (pa_cons (pe_ty "str" T.g_str) pa_nil))) (pe_and (pe_cmpR op_eq (pe_callB call_lenK (by rfl) T.g_len (by decide +kernel) (pa_cons (pv 0) pa_nil)) pe_int (nomark _)) (pe_one (pe_cmpR op_inStrD (pv 0) (pe_gstr T.g_MARKS) (by rfl))))))), ?_⟩
  try dsimp only [cxOf]
  refine d_startO h fun ds out hS c hx hM => ?_
  obtain ⟨d, rfl, hp, rfl⟩ := hS
  have hp2 := ok_pl hp
  refine d_st (δ' := [.fz d]) (by rfl) ?_
  walk_at "dw"
  cases d <;> first | (walk_at "dw"; rfl) | (simp [ok] at hp; done) | skip
  rename_i s
  simp only [ok] at hp
  walk_at "dw"
  refine d_lenS rfl (d_small hp) ?_
  walk_at "dw"
  refine i_dec (fun z => ?_) (fun z => ?_)
  · walk_at "dw"
    simp only [isMark, decide_eq_true z, Bool.true_and]
    rfl
  · simp only [isMark, decide_eq_false z, Bool.false_and]
    rfl
theorem cd_is_mark (T : Txt K mg) : Cal P w K mg base 1 "is_mark" (toSp (gb P w K) (spO K soMark)) := T.d_is_mark.cal sc_is_mark (len_spO fun ds out ⟨_, h, _⟩ => by rw [h]; rfl) (bd_is_mark T)
/-! ### documents -/
def forL : Int → List D → Bool
  | _, [] => true
  | m, .tup [x, .int d] :: r => isMark x && isBelow (.int d) (m + 1) && forL (d + 1) r
  | _, _ :: _ => false
def forest (d : D) : Bool := match d with
  | .tup l => decide (((l.length : Nat) : Int) ≤ 20000) && forL 0 l
  | _ => false
def soForest (ds : List D) (out : Out) : Prop := ∃ d, ds = [d] ∧ ok d = true ∧ out = .ret (.bl (forest d))
abbrev s_is_forest : Stmt := (top 18)
theorem sc_is_forest : FnScope ["thing", "most", "entry"] ["thing"] (defScope s_is_forest) := ⟨rfl, rfl, rfl, by decide +kernel, rfl, by decide +kernel, by decide +kernel⟩
theorem drop_get {l : List D} {i : Nat} (h : i < l.length) : l.drop i = l.getD i .non :: l.drop (i + 1) := by
  rw [List.getD_eq_getElem?_getD, List.getElem?_eq_getElem h]
  exact (List.drop_eq_getElem_cons h)
theorem bd_is_forest (T : Txt K mg) (C_is_mark : Cal P w K mg base 1 "is_mark" (toSp (gb P w K) (spO K soMark))) (C_is_below : Cal P w K mg base 2 "is_below" (toSp (gb P w K) (spO K soBelow))) : Body P w K mg base (2) ["thing", "most", "entry"] "is_forest" (defScope s_is_forest) (defBody s_is_forest) (toSp (gb P w K) (spO K soForest)) := by
  intro f cdv A outer s H vs Q E hr h
  have hu := hu_of hr
  have tk : Takes (cxOf (L2.CX P w) P w K mg base ["thing", "most", "entry"] "is_forest" (defScope s_is_forest) f cdv A outer s H E) (WF E) := takes_of rfl rfl rfl rfl
  refine ⟨_, (pss_cons (ps_if (PW.pt (pw_or (pt_not (pt_val (pe_callB call_isD (by rfl) T.g_isinstance (by decide +kernel) (pa_cons (pv 0) (pa_cons (pe_ty "tuple" T.g_tuple) pa_nil))))) (pw_or1 (pt_cmpR op_gt (pe_callB call_lenK (by rfl) T.g_len (by decide +kernel) (pa_cons (pv 0) pa_nil)) (pe_gint T.g_MOST_NODES) (nomark _))))) (pss_one (ps_ret pe_bl)) pss_nil)
    (pss_cons (ps_set (i := 1) sc_is_forest.nd rfl (Or.inl rfl) pe_int)
    (pss_cons (ps_for (passes_of rfl) rfl (pi_tup (pv 0)) (pg_name (i := 2) sc_is_forest.nd rfl (Or.inl rfl)) (pss_cons (ps_if (PW.pt (pw_or (pt_not (pt_val (pe_callB call_isD (by rfl) T.g_isinstance (by decide +kernel) (pa_cons (pv 2) (pa_cons (pe_ty "tuple" T.g_tuple) pa_nil))))) (pw_or1 (pt_cmpR op_ne (pe_callB call_lenK (by rfl) T.g_len (by decide +kernel) (pa_cons (pv 2) pa_nil)) pe_int (nomark _))))) (pss_one (ps_ret pe_bl)) pss_nil)
    (pss_cons (ps_if (PW.pt (pw_or (pt_not (pt_val (pe_cal C_is_mark hr (by omega) tk (pa_cons (pe_ix ix_seq (pv 2) pe_int (fun _ _ => rfl)) pa_nil)))) (pw_or1 (pt_not (pt_val (pe_cal C_is_below hr (by omega) tk (pa_cons (pe_ix ix_seq (pv 2) pe_int (fun _ _ => rfl)) (pa_cons (pe_op op_add (pv 1) pe_int) pa_nil)))))))) (pss_one (ps_ret pe_bl)) pss_nil)
    (pss_one (ps_set (i := 1) sc_is_forest.nd rfl (Or.inl rfl) (pe_op op_add (pe_ix ix_seq (pv 2) pe_int (fun _ _ => rfl)) pe_int))))))
    (pss_one (ps_ret pe_bl))))), ?_⟩
  try dsimp only [cxOf]
  refine d_startO h fun ds out hS c hx hM => ?_
  obtain ⟨d, rfl, hp, rfl⟩ := hS
  have hp2 := ok_pl hp
  refine d_st (δ' := [.fz d, .no, .no]) (by rfl) ?_
  walk_at "dw"
  cases d <;> first | (walk_at "dw"; rfl) | (simp [ok] at hp; done) | skip
  rename_i l
  simp only [ok] at hp
  walk_at "dw"
  refine i_dec (fun z => ?_) (fun z => ?_)
  · walk_at "dw"
    simp only [forest, decide_eq_false (show ¬ ((l.length : Nat) : Int) ≤ 20000 by omega), Bool.false_and]
    rfl
  walk_at "dw"
  refine d_for ?_
  walk_at "dw"
  refine ⟨fun i δ => ∃ m e, δ = [.fz (.tup l), .fz (.int m), e] ∧ forL 0 l = forL m (l.drop i), ⟨0, _, rfl, rfl⟩, fun _ _ _ => trivial, ?_, ?_⟩
  · rintro i δ hi ⟨m, e, rfl, hm⟩
    have hd := drop_get hi
    have he := okL_get (i := i) hp
    dsimp only
    generalize l.getD i .non = x at hd he ⊢
    have hx2 := ok_pl he
    have bad : forL m (l.drop i) = false → OutR (.ret (.bl (forest (.tup l)))) (.fz (.bl false)) := fun q => by
      simp only [forest, hm, q, Bool.and_false]; rfl
    walk_at "dw"
    cases x <;> first | (walk_at "dw"; exact bad (by rw [hd]; rfl)) | (simp [ok] at he; done) | skip
    rename_i xs
    simp only [ok] at he
    walk_at "dw"
    refine i_ndec (fun z2 => ?_) (fun z2 => ?_)
    · walk_at "dw"
      refine bad ?_
      rw [hd]
      match xs, z2 with
      | [], _ => rfl
      | [_], _ => rfl
      | [_, _], z2 => exact absurd rfl z2
      | _ :: b :: _ :: _, _ => cases b <;> rfl
    · obtain ⟨a, b, rfl⟩ : ∃ a b, xs = [a, b] := by
        match xs, z2 with
        | [a, b], _ => exact ⟨a, b, rfl⟩
        | [], z2 => simp at z2
        | [_], z2 => simp at z2
        | _ :: _ :: _ :: _, z2 => simp at z2; omega
      simp only [okL, Bool.and_true, Bool.and_eq_true] at he
      walk_at "dw"
      refine d_callR hx ?_
      walk_at "dw"
      refine d_ix rfl rfl rfl ?_
      walk_at "dw"
      refine ⟨_, _, rfl, ⟨a, rfl, he.1, rfl⟩, ?_⟩
      walk_at "dw"
      cases hma : isMark a with
      | false =>
        walk_at "dw"
        refine bad ?_
        rw [hd]
        cases b <;> first | rfl | (simp only [forL, hma, Bool.false_and])
      | true =>
        walk_at "dw"
        refine d_callR hx ?_
        walk_at "dw"
        refine d_ix rfl rfl rfl ?_
        walk_at "dw"
        refine ⟨_, _, rfl, ⟨b, _, rfl, ok_pl he.2, rfl⟩, ?_⟩
        walk_at "dw"
        cases hb : isBelow b (m + 1) with
        | false =>
          walk_at "dw"
          refine bad ?_
          rw [hd]
          cases b <;> first | rfl | (simp only [forL, hma, hb, Bool.and_false, Bool.false_and])
        | true =>
          cases b <;> first | (simp [isBelow] at hb; done) | skip
          rename_i n
          walk_at "dw"
          refine d_ix rfl rfl rfl ?_
          walk_at "dw"
          refine ⟨_, _, rfl, ?_⟩
          rw [hm, hd]
          simp only [forL, hma, hb, Bool.true_and]
  · rintro δ ⟨m, e, rfl, hm⟩
    walk_at "dw"
    rw [List.drop_length] at hm
    simp only [forest, hm, decide_eq_true (show ((l.length : Nat) : Int) ≤ 20000 by omega)]
    rfl
theorem cd_is_forest (T : Txt K mg) : Cal P w K mg base 3 "is_forest" (toSp (gb P w K) (spO K soForest)) := T.d_is_forest.cal sc_is_forest (len_spO fun ds out ⟨_, h, _⟩ => by rw [h]; rfl) (bd_is_forest T (cd_is_mark T) (cd_is_below T))
def soNeedDoc (ds : List D) (out : Out) : Prop := ∃ d, ds = [d] ∧ ok d = true ∧ out = if forest d = true then .ret .non else .exc "BadDocument"
abbrev s_need_document : Stmt := (top 19)
theorem sc_need_document : FnScope ["document"] ["document"] (defScope s_need_document) := ⟨rfl, rfl, rfl, by decide +kernel, rfl, by decide +kernel, by decide +kernel⟩
theorem bd_need_document (T : Txt K mg) (C_is_forest : Cal P w K mg base 3 "is_forest" (toSp (gb P w K) (spO K soForest))) : Body P w K mg base (3) ["document"] "need_document" (defScope s_need_document) (defBody s_need_document) (toSp (gb P w K) (spO K soNeedDoc)) := by
  intro f cdv A outer s H vs Q E hr h
  have hu := hu_of hr
  have tk : Takes (cxOf (L2.CX P w) P w K mg base ["document"] "need_document" (defScope s_need_document) f cdv A outer s H E) (WF E) := takes_of rfl rfl rfl rfl
  refine ⟨_, (pss_one (ps_if (pt_not (pt_val (pe_cal C_is_forest hr (by omega) tk (pa_cons (pv 0) pa_nil)))) (pss_one (ps_raiseD T.x_BadDocument tk)) pss_nil)), ?_⟩
  try dsimp only [cxOf]
  refine d_startO h fun ds out hS c hx hM => ?_
  obtain ⟨d, rfl, hp, rfl⟩ := hS
  refine d_st (δ' := [.fz d]) (by rfl) ?_
  walk_at "dw"
  refine d_callR hx ?_
  walk_at "dw"
  refine ⟨_, _, rfl, ⟨d, rfl, hp, rfl⟩, ?_⟩
  walk_at "dw"
  cases e : forest d with
  | false =>
    walk_at "dw"
    refine d_raise hx ?_
    first | rfl | (rw [e]; rfl)
  | true =>
    walk_at "dw"
    first | rfl | (rw [e]; rfl)
theorem cd_need_document (T : Txt K mg) : Cal P w K mg base 4 "need_document" (toSp (gb P w K) (spO K soNeedDoc)) := T.d_need_document.cal sc_need_document (len_spO fun ds out ⟨_, h, _⟩ => by rw [h]; rfl) (bd_need_document T (cd_is_forest T))
end

end K67

set_option maxHeartbeats 4000000
namespace K67
open PySem PySem.Spec PyProof.Rows L2 KB KM
open KD hiding Dp
section
variable {P : Program} {w : World} {K : PySem.W.Frag} {mg : Str → Option Value} {base : Heap}
/-! ### lists about nodes -/
def ent (p : Str × Nat) : D := .tup [.str p.1, .int (p.2 : Nat)]
def docL (l : List (Str × Nat)) : List D := l.map ent
abbrev dps (l : List (Str × Nat)) : List Nat := l.map (·.2)
def oN : Option Nat → D
  | none => .non
  | some k => .int (k : Nat)
def intL (l : List Nat) : List D := l.map fun n => D.int (n : Nat)
def parL (ds : List Nat) (n : Nat) : List D := (List.range n).map fun i => oN (par ds i)
theorem docL_get {l : List (Str × Nat)} {i : Nat} (h : i < l.length) : ∃ m, (docL l).getD i .non = .tup [.str m, .int ((dps l).getD i 0 : Nat)] := by
  refine ⟨l[i].1, ?_⟩
  rw [List.getD_eq_getElem?_getD, docL, List.getElem?_map, List.getElem?_eq_getElem h, List.getD_eq_getElem?_getD, List.getElem?_map, List.getElem?_eq_getElem h]
  rfl
theorem docL_len (l : List (Str × Nat)) : (docL l).length = l.length := List.length_map ..
theorem parL_len (ds : List Nat) (n : Nat) : (parL ds n).length = n := by rw [parL, List.length_map, List.length_range]
theorem parL_get {ds : List Nat} {n i : Nat} (h : i < n) : (parL ds n).getD i .non = oN (par ds i) := by
  rw [List.getD_eq_getElem?_getD, parL, List.getElem?_map, List.getElem?_range h]
  rfl
theorem parL_succ (ds : List Nat) (n : Nat) : parL ds (n + 1) = parL ds n ++ [oN (par ds n)] := by
  unfold parL
  rw [List.range_succ, List.map_append]
  rfl
theorem fo_len (l : List (Str × Nat)) : (dps l).length = l.length := List.length_map ..
theorem pa_le {ds : List Nat} (h : Fo 0 ds) : ∀ i, i ≤ ds.length → (pa ds i).length ≤ i
  | 0, _ => Nat.le_refl 0
  | i + 1, hi => by
    have k := pa_le h i (by omega)
    simp only [pa, List.length_append, List.length_take, List.length_singleton]
    omega
theorem getD_at {α : Type} {l : List α} {k : Nat} {d : α} (h : k < l.length) : l[k]? = some (l.getD k d) := by
  rw [List.getD_eq_getElem?_getD, List.getElem?_eq_getElem h]; rfl
theorem intT {l : List Nat} {n k : Nat} (h1 : k < n) (h2 : k < l.length) : (intL (l.take n))[k]? = some (.int (l.getD k 0 : Nat)) := by
  rw [intL, List.getElem?_map, List.getElem?_take, if_pos h1, getD_at (d := 0) h2]
  rfl
theorem par_get {ds : List Nat} {i : Nat} (h1 : 0 < ds.getD i 0) (h2 : ds.getD i 0 - 1 < (pa ds i).length) : par ds i = some ((pa ds i).getD (ds.getD i 0 - 1) 0) := by
  rw [par, if_neg (by omega)]
  exact getD_at h2
def soParents (ds : List D) (out : Out) : Prop := ∃ l, ds = [.tup (docL l)] ∧ Fo 0 (dps l) ∧ l.length ≤ 100000 ∧ out = .lst (parL (dps l) l.length)
abbrev s_parents_of : Stmt := (top 21)
theorem sc_parents_of : FnScope ["document", "parents", "above", "node", "mark", "depth"] ["document"] (defScope s_parents_of) := ⟨rfl, rfl, rfl, by decide +kernel, rfl, by decide +kernel, by decide +kernel⟩
theorem bd_parents_of (T : Txt K mg) : Body P w K mg base (0) ["document", "parents", "above", "node", "mark", "depth"] "parents_of" (defScope s_parents_of) (defBody s_parents_of) (toSp (gb P w K) (spO K soParents)) := by
  intro f cdv A outer s H vs Q E hr h
  have hu := hu_of hr
  have tk : Takes (cxOf (L2.CX P w) P w K mg base ["document", "parents", "above", "node", "mark", "depth"] "parents_of" (defScope s_parents_of) f cdv A outer s H E) (WF E) := takes_of rfl rfl rfl rfl
  refine ⟨_, (pss_cons (ps_setO (i := 1) sc_parents_of.nd rfl (Or.inl rfl) (pe_lst pa_nil))
    (pss_cons (ps_setO (i := 2) sc_parents_of.nd rfl (Or.inl rfl) (pe_lst pa_nil))
    (pss_cons (ps_for (passes_of rfl) rfl (pi_enumT (by rfl) T.g_enumerate (pa_cons (pv 0) pa_nil)) (pg_tup (n := 2) (by rfl) (pgs_cons (pg_name (i := 3) sc_parents_of.nd rfl (Or.inl rfl)) (pgs_cons (pg_tup (n := 2) (by rfl) (pgs_cons (pg_name (i := 4) sc_parents_of.nd rfl (Or.inl rfl)) (pgs_cons (pg_name (i := 5) sc_parents_of.nd rfl (Or.inl rfl)) pgs_nil))) pgs_nil))) (pss_cons (ps_while (passes_of rfl) (pt_cmpR op_gt (pe_callB call_lenK (by rfl) T.g_len (by decide +kernel) (pa_cons (pv 2) pa_nil)) (pv 5) (nomark _)) (pss_one (ps_expr (pe_bm0 PySem.F.plainAttrs_list PySem.F.slot_list_pop PySem.F.type_list_pop mt_pop (pv 2)))))
    (pss_cons (ps_expr (pe_bm PySem.F.plainAttrs_list PySem.F.slot_list_append PySem.F.type_list_append mt_append (pv 1) (pa_cons (pe_ifExp (pt_cmpR op_gt (pv 5) pe_int (nomark _)) (pe_ix ix_seq (pv 2) (pe_un un_neg pe_int) (fun _ _ => rfl)) pe_non) pa_nil)))
    (pss_one (ps_expr (pe_bm PySem.F.plainAttrs_list PySem.F.slot_list_append PySem.F.type_list_append mt_append (pv 2) (pa_cons (pv 3) pa_nil)))))))
    (pss_one (ps_ret (pv 1)))))), ?_⟩
  try dsimp only [cxOf]
  refine d_startO h fun ds out hS c hx hM => ?_
  obtain ⟨l, rfl, hf, hl, rfl⟩ := hS
  refine d_st (δ' := [.fz (.tup (docL l)), .no, .no, .no, .no, .no]) (by rfl) ?_
  have hz : (100000 : Nat) < sizeLine := by decide
  walk_at "dw"
  intro a1
  walk_at "dw"
  intro a2
  walk_at "dw"
  refine d_for ?_
  refine d_iEnumT rfl ?_
  walk_at "dw"
  refine ⟨_, rfl, ?_⟩
  refine ⟨fun i δ => ∃ s1 s2 s3, δ = [.fz (.tup (docL l)), .ow (.fl a1 (parL (dps l) i)), .ow (.fl a2 (intL (pa (dps l) i))), s1, s2, s3], ⟨_, _, _, rfl⟩, fun _ _ _ => trivial, ?_, ?_⟩
  · rintro i δ hi ⟨s1, s2, s3, rfl⟩
    rw [docL_len] at hi
    have hi' : i < (dps l).length := by rw [fo_len]; exact hi
    obtain ⟨m, em⟩ := docL_get hi
    dsimp only
    rw [em]
    have room := pa_room hf hi'
    walk_at "dw"
    refine d_while (fun n δ => ∃ k, n = k ∧ (dps l).getD i 0 ≤ k ∧ k ≤ (pa (dps l) i).length ∧ δ = [.fz (.tup (docL l)), .ow (.fl a1 (parL (dps l) i)), .ow (.fl a2 (intL ((pa (dps l) i).take k))), .fz (.int (i : Nat)), .fz (.str m), .fz (.int ((dps l).getD i 0 : Nat))]) _ ⟨(pa (dps l) i).length, rfl, room, Nat.le_refl _, by rw [List.take_length]; rfl⟩ ?_
    rintro n δ ⟨k, rfl, h1, h2, rfl⟩
    have lt : ((pa (dps l) i).take n).length = n := by rw [List.length_take]; omega
    walk_at "dw"
    rw [show (intL ((pa (dps l) i).take n)).length = n by rw [intL, List.length_map, lt]]
    refine i_dec (fun z => ?_) (fun z => ?_)
    · walk_at "dw"
      refine d_pop (i := 2) (a := a2) (ds := intL ((pa (dps l) i).take n)) (d := .int (((pa (dps l) i).getD (n - 1) 0 : Nat))) rfl rfl ?_ ?_
      · rw [show (intL ((pa (dps l) i).take n)).length = n by rw [intL, List.length_map, lt]]
        exact intT (by omega) (by omega)
      refine ⟨n - 1, by omega, n - 1, rfl, by omega, by omega, ?_⟩
      rw [show (intL ((pa (dps l) i).take n)).dropLast = intL ((pa (dps l) i).take (n - 1)) by
        rw [intL, intL, ← List.map_dropLast, List.dropLast_eq_take, lt, List.take_take, Nat.min_eq_left (by omega)]]
      rfl
    · obtain rfl : n = (dps l).getD i 0 := by omega
      walk_at "dw"
      have e2 : intL (pa (dps l) (i + 1)) = intL ((pa (dps l) i).take ((dps l).getD i 0)) ++ [.int (i : Nat)] := by
        simp only [intL, pa, List.map_append, List.map_cons, List.map_nil]
      have lp : (parL (dps l) i).length < sizeLine := by rw [parL_len]; omega
      have l2 : (intL ((pa (dps l) i).take ((dps l).getD i 0))).length < sizeLine := by
        rw [intL, List.length_map, lt]
        have := (pa_len hf i (by omega))
        have := hf.step i hi'
        have := pa_le hf i (by omega)
        omega
      refine i_dec (fun z2 => ?_) (fun z2 => ?_)
      · walk_at "dw"
        have hlt : (dps l).getD i 0 - 1 < (pa (dps l) i).length := by omega
        have ep : oN (par (dps l) i) = .int (((pa (dps l) i).getD ((dps l).getD i 0 - 1) 0 : Nat)) := by
          rw [par_get (by omega) hlt]
          rfl
        refine d_ix (i := -1) (d := oN (par (dps l) i)) rfl rfl ?_ ?_
        · rw [ep]
          have hl2 : (intL ((pa (dps l) i).take ((dps l).getD i 0))).length = (dps l).getD i 0 := by rw [intL, List.length_map, lt]
          unfold atI ixN
          rw [hl2, if_neg (by decide), if_pos (by omega)]
          show (intL ((pa (dps l) i).take ((dps l).getD i 0)))[((-1 : Int) + ((dps l).getD i 0 : Nat)).toNat]? = _
          rw [show ((-1 : Int) + ((dps l).getD i 0 : Nat)).toNat = (dps l).getD i 0 - 1 by omega]
          exact intT (by omega) hlt
        walk_at "dw"
        refine d_append (i := 1) rfl rfl rfl lp ?_
        walk_at "dw"
        refine d_append (i := 2) rfl rfl rfl l2 ?_
        refine ⟨.fz (.int (i : Nat)), .fz (.str m), .fz (.int ((dps l).getD i 0 : Nat)), ?_⟩
        rw [parL_succ, e2]
        rfl
      · walk_at "dw"
        have ep : oN (par (dps l) i) = .non := by
          unfold par
          rw [if_pos (by omega)]
          rfl
        refine d_append (i := 1) rfl rfl rfl lp ?_
        walk_at "dw"
        refine d_append (i := 2) rfl rfl rfl l2 ?_
        refine ⟨.fz (.int (i : Nat)), .fz (.str m), .fz (.int ((dps l).getD i 0 : Nat)), ?_⟩
        rw [parL_succ, e2, ep]
        rfl
  · rintro δ ⟨s1, s2, s3, rfl⟩
    rw [docL_len]
    refine d_retO (o := .fl a1 (parL (dps l) l.length)) rfl hM (.inl rfl) ?_
    exact ⟨a1, rfl⟩
theorem cd_parents_of (T : Txt K mg) : Cal P w K mg base 1 "parents_of" (toSp (gb P w K) (spO K soParents)) := T.d_parents_of.cal sc_parents_of (len_spO fun ds out ⟨_, h, _⟩ => by rw [h]; rfl) (bd_parents_of T)
end

end K67

set_option maxHeartbeats 4000000
namespace K67
open PySem PySem.Spec PyProof.Rows L2 KB KM
open KD hiding Dp
section
variable {P : Program} {w : World} {K : PySem.W.Frag} {mg : Str → Option Value} {base : Heap}
/-! ### draws, by data -/
theorem fdD_l {g : Gb} {F : Hp} {n : Nat} {vs : List V} {xs : List D} (h : FdD n xs) (hd : DpL g F vs xs) : FdL n vs := by
  obtain ⟨a, b, c, rfl, h1⟩ := h
  cases hd with | cons p1 t => cases t with | cons p2 t => cases t with | cons p3 t =>
    cases t; cases p1; cases p2; cases p3
    exact ⟨a, b, c, rfl, h1⟩
theorem fdL_d (g : Gb) (F : Hp) {n : Nat} {vs : List V} (h : FdL n vs) : ∃ xs, FdD n xs ∧ DpL g F vs xs := by
  obtain ⟨a, b, c, rfl, h1⟩ := h
  exact ⟨_, ⟨a, b, c, rfl, h1⟩, .cons (.int a) (.cons (.int b) (.cons (.int c) .nil))⟩
def soDraw (ds : List D) (k : Nat) (T : KD.R → Prop) : Prop := ∃ many : Int, ds = [.int many] ∧ 0 < many ∧ many ≤ 10 ^ 70 ∧ k = 1 ∧ T = fun r => ∃ n : Nat, (n : Int) < many ∧ r = .fz (.int n)
theorem cd_draw (T : Txt K mg) : Cal P w K mg base 1 "_law_draw" (toSp (gb P w K) (spFd soDraw)) := (c_draw T).imp fun vs H Q E ⟨F, as, PP, ent, ⟨fd, xs, n, ds, k, TT, e1, hF, hn, ⟨many, e2, h0, h1, e3, e4⟩, e5⟩, kr, ke⟩ => by
  subst e1; subst e2; subst e3; subst e4; subst e5
  have args := ent.args
  cases args with
  | mu ho ht =>
    cases ho with
    | fl hH hd =>
      cases ht with
      | fz hm ht2 =>
        cases ht2
        cases hm
        refine ⟨fd, many, n, _, rfl, hH, fdD_l hF hd, h0, h1, by omega, fun g ys g0 g1 hy => ?_⟩
        obtain ⟨ys', hy', hd'⟩ := fdL_d (gb P w K) F hy
        exact kr (.fz (.int g)) [.fl fd ys'] _ _ F ⟨ys', rfl, hy', g.toNat, by omega, by rw [Int.toNat_of_nonneg g0]⟩ (old_aftF ent hd') (.int g)
def soFeed (ds : List D) (T : KD.R → Prop) : Prop := ∃ (ns : List Int) (k : Nat), ds = [.ro (ns.map D.int), .int k] ∧ (∀ z ∈ ns, ib z ≤ 1048576) ∧ k ≤ 100 ∧ T = fun r => ∃ a ys, r = .nw (.fl a ys) ∧ FdD 0 ys
theorem cd_feed (T : Txt K mg) : Cal P w K mg base 1 "_law_feed" (toSp (gb P w K) (spN soFeed)) := (c_feed T).imp fun vs H Q E ⟨F, as, PP, ent, ⟨ds, TT, e1, ⟨ns, k, e2, hb, hk, e3⟩, e4⟩, kr, ke⟩ => by
  subst e1; subst e2; subst e3; subst e4
  have hd := old_args ent
  cases hd with
  | cons h1 h2 =>
    cases h2 with
    | cons h2 h3 =>
      cases h3
      cases h2
      cases h1 with
      | ro hs hi =>
        rw [dp_ints hi] at hs
        refine ⟨_, ns, k, rfl, ent.sub.seq hs, hb, hk, fun p xs H' hp s e hf => ?_⟩
        obtain ⟨xs', hf', hd'⟩ := fdL_d (gb P w K) F hf
        refine kr (.nw (.fl p xs')) [] _ H' F ⟨rfl, p, xs', rfl, hf'⟩ (old_aft ent s (ent.sub.trans s) fun _ _ => rfl) ⟨.fl e hd', by simp [OD.adrs, adrsL], fun a m => ?_⟩
        simp only [OD.adrs, List.mem_singleton] at m
        subst m
        exact ⟨ent.sub.free hp, hp⟩
/-- one of a list, a tuple -/
def soOne (ds : List D) (k : Nat) (T : KD.R → Prop) : Prop := ∃ d els, ds = [d] ∧ (KD.R.fz d).els [] = some els ∧ els ≠ [] ∧ els.length ≤ 100000 ∧ k = 1 ∧ T = fun r => ∃ x ∈ els, r = .fz x
theorem bd_one (T : Txt K mg) (C__law_draw : Cal P w K mg base 1 "_law_draw" (toSp (gb P w K) (spFd soDraw))) : Body P w K mg base (1) ["feed", "things"] "_law_one" (defScope s__law_one) (defBody s__law_one) (toSp (gb P w K) (spFd soOne)) := by
  intro f cdv A outer s H vs Q E hr h
  have hu := hu_of hr
  have tk : Takes (cxOf (L2.CX P w) P w K mg base ["feed", "things"] "_law_one" (defScope s__law_one) f cdv A outer s H E) (WF E) := takes_of rfl rfl rfl rfl
  refine ⟨_, (pss_one (ps_ret (pe_ix ix_seq (pv 1) (pe_cal C__law_draw hr (by omega) tk (pa_cons (pv 0) (pa_cons (pe_callB call_lenK (by rfl) T.g_len (by decide +kernel) (pa_cons (pv 1) pa_nil)) pa_nil))) (fun _ _ => rfl)))), ?_⟩
  try dsimp only [cxOf]
  refine d_startF h fun fd xs n ds k T hF hn hS c hx hM => ?_
  obtain ⟨d, els, rfl, he, hne, hl, rfl, rfl⟩ := hS
  refine d_st (δ' := [.ow (.fl fd xs), .fz d]) (by rfl) ?_
  have e1 : ∀ δ, (KD.R.fz d).els δ = some els := fun δ => by cases d <;> exact he
  have hpos : 0 < els.length := List.length_pos_iff.mpr hne
  walk_at "dw"
  refine d_callF hx ?_
  walk_at "dw"
  refine d_len (e1 _) ?_
  walk_at "dw"
  refine ⟨0, _, fd, xs, n, _, 1, _, rfl, rfl, rfl, hF, hn, ⟨_, rfl, by omega, by omega, rfl, rfl⟩, ?_⟩
  rintro r ys hy ⟨k, hk, rfl⟩
  have hk' : k < els.length := by omega
  refine d_ix (i := (k : Nat)) (d := els.getD k .non) (e1 _) rfl ?_ ?_
  · unfold atI ixN
    rw [if_pos (by omega), if_pos (by omega)]
    show els[((k : Nat) : Int).toNat]? = _
    rw [Int.toNat_natCast, getD_at (d := .non) hk']
  · refine ⟨rfl, ys, rfl, hy, _, ?_, rfl⟩
    rw [List.getD_eq_getElem?_getD, List.getElem?_eq_getElem hk']
    exact List.getElem_mem hk'
theorem cd_one (T : Txt K mg) : Cal P w K mg base 2 "_law_one" (toSp (gb P w K) (spFd soOne)) := T.d__law_one.cal sc__law_one (len_spFd fun ds k T ⟨_, _, h, _⟩ => by rw [h]; rfl) (bd_one T (cd_draw T))
/-- one sign of a text -/
def soOneS (ds : List D) (k : Nat) (T : KD.R → Prop) : Prop := ∃ z : Str, ds = [.str z] ∧ 0 < z.length ∧ z.length ≤ 100000 ∧ k = 1 ∧ T = fun r => ∃ (i : Nat) (ch : Nat), z.cps.toList[i]? = some ch ∧ r = .fz (.str ⟨#[ch]⟩)
theorem bd_oneS (T : Txt K mg) (C__law_draw : Cal P w K mg base 1 "_law_draw" (toSp (gb P w K) (spFd soDraw))) : Body P w K mg base (1) ["feed", "things"] "_law_one" (defScope s__law_one) (defBody s__law_one) (toSp (gb P w K) (spFd soOneS)) := by
  intro f cdv A outer s H vs Q E hr h
  have hu := hu_of hr
  have tk : Takes (cxOf (L2.CX P w) P w K mg base ["feed", "things"] "_law_one" (defScope s__law_one) f cdv A outer s H E) (WF E) := takes_of rfl rfl rfl rfl
  refine ⟨_, (pss_one (ps_ret (pe_ix ix_str (pv 1) (pe_cal C__law_draw hr (by omega) tk (pa_cons (pv 0) (pa_cons (pe_callB call_lenK (by rfl) T.g_len (by decide +kernel) (pa_cons (pv 1) pa_nil)) pa_nil))) (fun _ _ => rfl)))), ?_⟩
  try dsimp only [cxOf]
  refine d_startF h fun fd xs n ds k T hF hn hS c hx hM => ?_
  obtain ⟨z, rfl, hne, hl, rfl, rfl⟩ := hS
  refine d_st (δ' := [.ow (.fl fd xs), .fz (.str z)]) (by rfl) ?_
  have hs : z.length ≤ sizeLine := by have : (100000 : Nat) ≤ sizeLine := by decide
                                      omega
  walk_at "dw"
  refine d_callF hx ?_
  walk_at "dw"
  refine d_lenS rfl hs ?_
  walk_at "dw"
  refine ⟨0, _, fd, xs, n, _, 1, _, rfl, rfl, rfl, hF, hn, ⟨_, rfl, by omega, by omega, rfl, rfl⟩, ?_⟩
  rintro r ys hy ⟨k, hk, rfl⟩
  have hk' : k < z.cps.toList.length := by
    have : z.cps.toList.length = z.length := by simp [PySem.Str.length]
    omega
  refine d_ixS (i := (k : Nat)) (ch := z.cps.toList.getD k 0) rfl rfl hs ?_ ?_
  · unfold atI ixN
    rw [if_pos (by omega), if_pos (by omega)]
    show z.cps.toList[((k : Nat) : Int).toNat]? = _
    rw [Int.toNat_natCast, getD_at (d := 0) hk']
  · exact ⟨rfl, ys, rfl, hy, k, _, getD_at (d := 0) hk', rfl⟩
theorem cd_oneS (T : Txt K mg) : Cal P w K mg base 2 "_law_one" (toSp (gb P w K) (spFd soOneS)) := T.d__law_one.cal sc__law_one (len_spFd fun ds k T ⟨_, h, _⟩ => by rw [h]; rfl) (bd_oneS T (cd_draw T))
end

end K67

set_option maxHeartbeats 4000000
namespace K67
open PySem PySem.Spec PyProof.Rows L2 KB KM
open KD hiding Dp
section
variable {P : Program} {w : World} {K : PySem.W.Frag} {mg : Str → Option Value} {base : Heap}
/-! ### drawn documents -/
def lastI (ds : List Nat) : Int := match ds.getLast? with
  | none => -1
  | some d => d
theorem lastI_nil : lastI [] = -1 := rfl
theorem lastI_snoc (ds : List Nat) (d : Nat) : lastI (ds ++ [d]) = d := by simp [lastI]
theorem lastI_ge (ds : List Nat) : -1 ≤ lastI ds := by unfold lastI; split <;> omega
theorem lastI_pos {ds : List Nat} (h : ds ≠ []) : 0 ≤ lastI ds := by
  unfold lastI
  cases e : ds.getLast? with
  | none => exact absurd (List.getLast?_eq_none_iff.mp e) h
  | some d => exact Int.natCast_nonneg d
theorem lastI_cons {x : Nat} {r : List Nat} (h : r ≠ []) : lastI (x :: r) = lastI r := by
  unfold lastI
  cases r with
  | nil => exact absurd rfl h
  | cons y t => rw [List.getLast?_cons_cons]
theorem fo_snoc : ∀ {m : Nat} {ds : List Nat} {d : Nat}, Fo m ds → ((ds = [] ∧ d ≤ m) ∨ (ds ≠ [] ∧ (d : Int) ≤ lastI ds + 1)) → Fo m (ds ++ [d])
  | m, [], d, _, h => by
    rcases h with ⟨_, h⟩ | ⟨h, _⟩
    · exact ⟨h, trivial⟩
    · exact absurd rfl h
  | m, x :: r, d, ⟨h1, h2⟩, h => by
    refine ⟨h1, fo_snoc (m := x + 1) h2 ?_⟩
    rcases h with ⟨h, _⟩ | ⟨_, h⟩
    · cases h
    · by_cases e : r = []
      · subst e
        left
        refine ⟨rfl, ?_⟩
        have : lastI [x] = x := rfl
        omega
      · right
        exact ⟨e, by rw [lastI_cons e] at h; exact h⟩
theorem fo_more {ds : List Nat} {d : Nat} (h : Fo 0 ds) (l : (d : Int) ≤ lastI ds + 1) : Fo 0 (ds ++ [d]) := by
  refine fo_snoc h ?_
  by_cases e : ds = []
  · subst e
    rw [lastI_nil] at l
    exact .inl ⟨rfl, by omega⟩
  · exact .inr ⟨e, l⟩
theorem lastI_up : ∀ {m : Nat} {ds : List Nat}, Fo m ds → lastI ds ≤ (m : Int) + ds.length - 1
  | m, [], _ => by rw [lastI_nil]; simp; omega
  | m, x :: r, ⟨h1, h2⟩ => by
    by_cases e : r = []
    · subst e
      have : lastI [x] = x := rfl
      rw [this]; simp; omega
    · rw [lastI_cons e]
      have := lastI_up h2
      rw [List.length_cons]
      omega
structure GoodDoc (l : List (Str × Nat)) (n : Nat) : Prop where
  fo : Fo 0 (dps l)
  len : l.length ≤ n
  mks : ∀ p ∈ l, isMark (.str p.1) = true
theorem GoodDoc.mono {l : List (Str × Nat)} {n m : Nat} (h : GoodDoc l n) (k : n ≤ m) : GoodDoc l m := ⟨h.fo, Nat.le_trans h.len k, h.mks⟩
theorem GoodDoc.nil (n : Nat) : GoodDoc [] n := ⟨trivial, Nat.zero_le _, fun p m => nomatch m⟩
theorem GoodDoc.more {l : List (Str × Nat)} {n : Nat} (h : GoodDoc l n) (m : Str) (d : Nat) (hm : isMark (.str m) = true) (hd : (d : Int) ≤ lastI (dps l) + 1) : GoodDoc (l ++ [(m, d)]) (n + 1) := by
  refine ⟨?_, by rw [List.length_append, List.length_singleton]; exact Nat.succ_le_succ h.len, fun p hp => ?_⟩
  · show Fo 0 ((l ++ [(m, d)]).map (·.2))
    rw [List.map_append]
    exact fo_more h.fo hd
  · rcases List.mem_append.mp hp with z | z
    · exact h.mks p z
    · rw [List.mem_singleton.mp z]; exact hm
theorem docL_app (a b : List (Str × Nat)) : docL (a ++ b) = docL a ++ docL b := List.map_append ..
theorem mark_small {s : Str} (h : isMark (.str s) = true) : s.length = 1 := by
  simp only [isMark, Bool.and_eq_true, decide_eq_true_eq] at h
  omega
theorem good_ok {l : List (Str × Nat)} {n : Nat} (h : GoodDoc l n) : ok (.tup (docL l)) = true := by
  simp only [ok]
  have hm := h.mks
  clear h
  induction l with
  | nil => rfl
  | cons p r ih =>
    simp only [docL, List.map_cons, okL, Bool.and_eq_true, ent, ok, and_true]
    refine ⟨?_, ih fun q hq => hm q (List.mem_cons_of_mem _ hq)⟩
    rw [mark_small (hm p List.mem_cons_self)]
    decide
theorem good_forest {l : List (Str × Nat)} {n : Nat} (h : GoodDoc l n) (hn : n ≤ 20000) : forest (.tup (docL l)) = true := by
  have key : ∀ (l : List (Str × Nat)) (m : Nat), Fo m (dps l) → (∀ p ∈ l, isMark (.str p.1) = true) → forL (m : Nat) (docL l) = true := by
    intro l
    induction l with
    | nil => intro m _ _; rfl
    | cons p r ih =>
      intro m hf hm
      simp only [List.map_cons, Fo] at hf
      simp only [docL, List.map_cons, ent, forL, Bool.and_eq_true, isBelow, decide_eq_true_eq]
      exact ⟨⟨hm p List.mem_cons_self, by omega, by omega⟩, ih (p.2 + 1) hf.2 fun q hq => hm q (List.mem_cons_of_mem _ hq)⟩
  simp only [forest, Bool.and_eq_true, decide_eq_true_eq]
  exact ⟨by rw [docL_len]; have := h.len; omega, key l 0 h.fo h.mks⟩
/-- a text of marks -/
def MksOk (z : Str) : Prop := 0 < z.length ∧ z.length ≤ 100 ∧ ∀ (i ch : Nat), z.cps.toList[i]? = some ch → isMark (.str ⟨#[ch]⟩) = true
theorem mks_of {z : Str} (h : (decide (0 < z.length) && decide (z.length ≤ 100) && z.cps.toList.all fun ch => isMark (.str ⟨#[ch]⟩)) = true) : MksOk z := by
  simp only [Bool.and_eq_true, decide_eq_true_eq, List.all_eq_true] at h
  exact ⟨h.1.1, h.1.2, fun i ch e => h.2 ch (List.mem_of_getElem? e)⟩
def soDocument (ds : List D) (k : Nat) (T : KD.R → Prop) : Prop := ∃ most : Nat, ds = [.int most] ∧ most ≤ 1000 ∧ k = 3 + 3 * most ∧ T = fun r => ∃ l, r = .fz (.tup (docL l)) ∧ GoodDoc l most
abbrev s__law_document : Stmt := (top 48)
theorem sc__law_document : FnScope ["feed", "most", "marks", "many", "way", "got", "depth", "turn", "steps"] ["feed", "most"] (defScope s__law_document) := ⟨rfl, rfl, rfl, by decide +kernel, rfl, by decide +kernel, by decide +kernel⟩
theorem bd_law_document (T : Txt K mg) (C__law_draw : Cal P w K mg base 1 "_law_draw" (toSp (gb P w K) (spFd soDraw))) (C__law_one : Cal P w K mg base 2 "_law_one" (toSp (gb P w K) (spFd soOne))) (C__law_oneS : Cal P w K mg base 2 "_law_one" (toSp (gb P w K) (spFd soOneS))) :
    Body P w K mg base (2) ["feed", "most", "marks", "many", "way", "got", "depth", "turn", "steps"] "_law_document" (defScope s__law_document) (defBody s__law_document) (toSp (gb P w K) (spFd soDocument)) := by
  intro f cdv A outer s H vs Q E hr h
  have hu := hu_of hr
  have tk : Takes (cxOf (L2.CX P w) P w K mg base ["feed", "most", "marks", "many", "way", "got", "depth", "turn", "steps"] "_law_document" (defScope s__law_document) f cdv A outer s H E) (WF E) := takes_of rfl rfl rfl rfl
  refine ⟨_, (pss_cons (ps_par3 (i := 2) (j := 3) (l := 4) (by rfl) sc__law_document.nd rfl rfl rfl (by decide) (by decide) (by decide) rfl rfl rfl (pa_cons (pe_cal C__law_one hr (by omega) tk (pa_cons (pv 0) (pa_cons (pe_lst (pa_cons pe_str (pa_cons pe_str (pa_cons pe_str (pa_cons pe_str (pa_cons pe_str pa_nil)))))) pa_nil))) (pa_cons (pe_cal C__law_draw hr (by omega) tk (pa_cons (pv 0) (pa_cons (pe_op op_add (pv 1) pe_int) pa_nil))) (pa_cons (pe_cal C__law_draw hr (by omega) tk (pa_cons (pv 0) (pa_cons pe_int pa_nil))) pa_nil))) (by rfl))
    (pss_cons (ps_x (ps_par (i := 5) (j := 6) (by rfl) sc__law_document.nd rfl rfl (by decide) rfl rfl (pa_cons (pe_lst pa_nil) (pa_cons (pe_un un_neg pe_int) pa_nil)) (by rfl)))
    (pss_cons (ps_for (passes_of rfl) rfl (pi_range1 rfl T.g_range (pa_cons (pv 3) pa_nil)) (pg_name (i := 7) sc__law_document.nd rfl (Or.inl rfl)) (Evl.pss_cut (ps_if (pt_cmpR op_eq (pv 4) pe_int (nomark _)) (pss_one (ps_set (i := 6) sc__law_document.nd rfl (Or.inl rfl) (pe_ifExp (pt_cmpR op_eq (pv 7) pe_int (nomark _)) pe_int pe_int))) (pss_one (ps_if (pt_cmpR op_eq (pv 4) pe_int (nomark _)) (pss_one (ps_set (i := 6) sc__law_document.nd rfl (Or.inl rfl) (pe_ifExp (pt_cmpR op_gt (pe_cal C__law_draw hr (by omega) tk (pa_cons (pv 0) (pa_cons pe_int pa_nil))) pe_int (nomark _)) (pe_op op_add (pv 6) pe_int) (pe_cal C__law_draw hr (by omega) tk (pa_cons (pv 0) (pa_cons (pe_op op_add (pv 6) pe_int) pa_nil)))))) (pss_cons (ps_set (i := 8) sc__law_document.nd rfl (Or.inl rfl) (pe_lst (pa_cons (pe_op op_add (pv 6) pe_int) (pa_cons (pe_op op_add (pv 6) pe_int) (pa_cons (pv 6) (pa_cons (pv 6) (pa_cons (pe_op op_sub (pv 6) pe_int) (pa_cons pe_int (pa_cons (pe_cal C__law_draw hr (by omega) tk (pa_cons (pv 0) (pa_cons (pe_op op_add (pv 6) pe_int) pa_nil))) pa_nil)))))))))
    (pss_one (ps_set (i := 6) sc__law_document.nd rfl (Or.inl rfl) (pe_callB (call_max2K rfl) (by rfl) T.g_max (by decide +kernel) (pa_cons pe_int (pa_cons (pe_callB (call_min2K rfl) (by rfl) T.g_min (by decide +kernel) (pa_cons (pe_op op_add (pv 6) pe_int) (pa_cons (pe_cal C__law_one hr (by omega) tk (pa_cons (pv 0) (pa_cons (pv 8) pa_nil))) pa_nil))) pa_nil)))))))))
    (pss_one (ps_expr (pe_bm PySem.F.plainAttrs_list PySem.F.slot_list_append PySem.F.type_list_append mt_append (pv 5) (pa_cons (pe_tup (pa_cons (pe_cal C__law_oneS hr (by omega) tk (pa_cons (pv 0) (pa_cons (pv 2) pa_nil))) (pa_cons (pv 6) pa_nil))) pa_nil))))))
    (pss_one (ps_ret (pe_callTy call_tupD (by rfl) T.g_tuple (by decide +kernel) (pa_cons (pv 5) pa_nil))))))), ?_⟩
  try dsimp only [cxOf]
  refine d_startF h fun fd xs n ds k T hF hn hS c hx hM => ?_
  obtain ⟨most, rfl, hm, rfl, rfl⟩ := hS
  refine d_st (δ' := [.ow (.fl fd xs), .fz (.int most), .no, .no, .no, .no, .no, .no, .no]) (by rfl) ?_
  walk_at "dw"
  refine d_callF hx ?_
  walk_at "dw"
  intro p
  walk_at "dw"
  refine ⟨0, _, fd, xs, n, _, 1, _, rfl, rfl, rfl, hF, by omega, ⟨_, _, rfl, rfl, by simp, by simp, rfl, rfl⟩, ?_⟩
  rintro r ys1 hF1 ⟨mk, hmk, rfl⟩
  obtain ⟨z, rfl, hz⟩ : ∃ z, mk = .str z ∧ MksOk z := by
    simp only [List.mem_cons, List.not_mem_nil, or_false] at hmk
    rcases hmk with rfl | rfl | rfl | rfl | rfl
    · exact ⟨_, rfl, mks_of (by decide +kernel)⟩
    · exact ⟨_, rfl, mks_of (by decide +kernel)⟩
    · exact ⟨_, rfl, mks_of (by decide +kernel)⟩
    · exact ⟨_, rfl, mks_of (by decide +kernel)⟩
    · exact ⟨_, rfl, mks_of (by decide +kernel)⟩
  walk_at "dw"
  refine d_callF hx ?_
  walk_at "dw"
  refine ⟨0, _, fd, ys1, n + 1, _, 1, _, rfl, rfl, rfl, hF1, by omega, ⟨_, rfl, by omega, by omega, rfl, rfl⟩, ?_⟩
  rintro r ys2 hF2 ⟨many, hmany, rfl⟩
  walk_at "dw"
  refine d_callF hx ?_
  walk_at "dw"
  refine ⟨0, _, fd, ys2, n + 2, _, 1, _, rfl, rfl, rfl, hF2, by omega, ⟨_, rfl, by decide, by decide, rfl, rfl⟩, ?_⟩
  rintro r ys3 hF3 ⟨way, hway, rfl⟩
  walk_at "dw"
  intro a1
  walk_at "dw"
  intro c1 up1
  walk_at "dw"
  refine ⟨_, _, _, _, rfl, .ow, .fz, ?_⟩
  walk_at "dw"
  refine d_for ?_
  walk_at "dw"
  refine ⟨_, rfl, by omega, by omega, ?_⟩
  refine ⟨fun i δ => ∃ l ys s1 s2, δ = [.ow (.fl fd ys), .fz (.int most), .fz (.str z), .fz (.int many), .fz (.int way), .ow (.fl a1 (docL l)), .fz (.int (lastI (dps l))), s1, s2] ∧ FdD (n + 3 + 3 * i) ys ∧ GoodDoc l i ∧ l.length = i,
    ⟨[], ys3, .no, .no, rfl, hF3, GoodDoc.nil 0, rfl⟩, fun _ _ _ => trivial, ?_, ?_⟩
  · rintro i δ hi ⟨l, ys, s1, s2, rfl, hF, hg, hl⟩
    have hlg := lastI_ge (dps l)
    have hlu : lastI (dps l) < 2000 := by
      have h1 := lastI_up hg.fo
      rw [fo_len] at h1
      omega
    have hi1 : i < 1000 := by omega
    dsimp only
    rw [Int.zero_add]
    walk_at "dw"
    refine d_cut (fun δ => ∃ (dep : Nat) (ys2 : List D) (s2 : Sl), δ = [.ow (.fl fd ys2), .fz (.int most), .fz (.str z), .fz (.int many), .fz (.int way), .ow (.fl a1 (docL l)), .fz (.int dep), .fz (.int i), s2] ∧ FdD (n + 3 + 3 * i + 2) ys2 ∧ (dep : Int) ≤ lastI (dps l) + 1) ?_ ?_
    · walk_at "dw"
      refine i_dec (fun e1 => ?_) (fun e1 => ?_)
      · walk_at "dw"
        refine i_dec (fun e2 => ?_) (fun e2 => ?_)
        · walk_at "dw"
          exact ⟨0, ys, s2, rfl, hF.mono (by omega), by omega⟩
        · walk_at "dw"
          have : 0 ≤ lastI (dps l) := lastI_pos (by intro q; have := congrArg List.length q; rw [fo_len, List.length_nil] at this; omega)
          exact ⟨1, ys, s2, rfl, hF.mono (by omega), by omega⟩
      · walk_at "dw"
        refine i_dec (fun e2 => ?_) (fun e2 => ?_)
        · walk_at "dw"
          refine d_callF hx ?_
          walk_at "dw"
          refine ⟨0, _, fd, ys, _, _, 1, _, rfl, rfl, rfl, hF, by omega, ⟨_, rfl, by decide, by decide, rfl, rfl⟩, ?_⟩
          rintro r ys4 hF4 ⟨k9, hk9, rfl⟩
          walk_at "dw"
          refine i_dec (fun e3 => ?_) (fun e3 => ?_)
          · walk_at "dw"
            exact ⟨(lastI (dps l) + 1).toNat, ys4, s2, by rw [Int.toNat_of_nonneg (by omega)]; rfl, hF4.mono (by omega), by omega⟩
          · walk_at "dw"
            refine d_callF hx ?_
            walk_at "dw"
            refine ⟨0, _, fd, ys4, _, _, 1, _, rfl, rfl, rfl, hF4, by omega, ⟨_, rfl, by omega, by omega, rfl, rfl⟩, ?_⟩
            rintro r ys5 hF5 ⟨k5, hk5, rfl⟩
            walk_at "dw"
            exact ⟨k5, ys5, s2, rfl, hF5, by omega⟩
        · walk_at "dw"
          refine d_callF hx ?_
          walk_at "dw"
          refine ⟨0, _, fd, ys, _, _, 1, _, rfl, rfl, rfl, hF, by omega, ⟨_, rfl, by omega, by omega, rfl, rfl⟩, ?_⟩
          rintro r ys4 hF4 ⟨k4, hk4, rfl⟩
          walk_at "dw"
          intro p5
          walk_at "dw"
          refine d_callF hx ?_
          walk_at "dw"
          refine ⟨0, _, fd, ys4, _, _, 1, _, rfl, rfl, rfl, hF4, by omega, ⟨_, _, rfl, rfl, by simp, by simp, rfl, rfl⟩, ?_⟩
          rintro r ys5 hF5 ⟨x5, hx5, rfl⟩
          obtain ⟨i5, rfl⟩ : ∃ i5 : Int, x5 = .int i5 := by
            simp only [List.mem_cons, List.not_mem_nil, or_false] at hx5
            rcases hx5 with rfl | rfl | rfl | rfl | rfl | rfl | rfl <;> exact ⟨_, rfl⟩
          walk_at "dw"
          exact ⟨(max 0 (min (lastI (dps l) + 1) i5)).toNat, ys5, _, by rw [Int.toNat_of_nonneg (by omega)]; rfl, hF5, by rw [Int.toNat_of_nonneg (by omega)]; omega⟩
    · rintro δ ⟨dep, ys2, s2, rfl, hF2, hdep⟩
      walk_at "dw"
      refine d_callF hx ?_
      walk_at "dw"
      refine ⟨0, _, fd, ys2, _, _, 1, _, rfl, rfl, rfl, hF2, by omega, ⟨z, rfl, hz.1, by have := hz.2.1; omega, rfl, rfl⟩, ?_⟩
      rintro r ys6 hF6 ⟨j6, ch, hch, rfl⟩
      walk_at "dw"
      refine d_append (i := 5) rfl rfl rfl ?_ ?_
      · rw [docL_len]; have : (100000 : Nat) < sizeLine := by decide
        omega
      refine ⟨l ++ [(⟨#[ch]⟩, dep)], ys6, .fz (.int i), s2, ?_, hF6.mono (by omega), hg.more _ dep (hz.2.2 j6 ch hch) hdep, by rw [List.length_append, hl]; rfl⟩
      rw [docL_app]
      show _ = [_, _, _, _, _, _, Sl.fz (.int (lastI ((l ++ [((⟨#[ch]⟩ : Str), dep)]).map (·.2)))), _, _]
      rw [List.map_append, List.map_singleton, lastI_snoc]
      rfl
  · rintro δ ⟨l, ys, s1, s2, rfl, hF, hg, hl⟩
    walk_at "dw"
    refine ⟨rfl, ys, rfl, hF.mono (by omega), l, rfl, hg.mono (by omega)⟩
theorem cd_law_document (T : Txt K mg) : Cal P w K mg base 3 "_law_document" (toSp (gb P w K) (spFd soDocument)) := T.d__law_document.cal sc__law_document (len_spFd fun ds k T ⟨_, h, _⟩ => by rw [h]; rfl) (bd_law_document T (cd_draw T) (cd_one T) (cd_oneS T))
end

end K67

set_option maxHeartbeats 4000000
namespace K67
open PySem PySem.Spec PyProof.Rows L2 KB KM
open KD hiding Dp
section
variable {P : Program} {w : World} {K : PySem.W.Frag} {mg : Str → Option Value} {base : Heap}
/-! ### names and machines: forms -/
def isName (d : D) : Bool := match d with
  | .str s => decide (((s.length : Nat) : Int) = 1) && inStr s "pqrstuvwxyz"
  | _ => false
def soName (ds : List D) (out : Out) : Prop := ∃ d, ds = [d] ∧ ok d = true ∧ out = .ret (.bl (isName d))
abbrev s_is_name : Stmt := (top 14)
theorem sc_is_name : FnScope ["thing"] ["thing"] (defScope s_is_name) := ⟨rfl, rfl, rfl, by decide +kernel, rfl, by decide +kernel, by decide +kernel⟩
theorem bd_is_name (T : Txt K mg) : Body P w K mg base (0) ["thing"] "is_name" (defScope s_is_name) (defBody s_is_name) (toSp (gb P w K) (spO K soName)) := by
  intro f cdv A outer s H vs Q E hr h
  have hu := hu_of hr
  have tk : Takes (cxOf (L2.CX P w) P w K mg base ["thing"] "is_name" (defScope s_is_name) f cdv A outer s H E) (WF E) := takes_of rfl rfl rfl rfl
  refine ⟨_, (pss_one (ps_ret (pe_and (pe_callB call_isD (by rfl) T.g_isinstance (by decide +kernel) (pa_cons (pv 0) (pa_cons (pe_ty "str" T.g_str) pa_nil))) (pe_and (pe_cmpR op_eq (pe_callB call_lenK (by rfl) T.g_len (by decide +kernel) (pa_cons (pv 0) pa_nil)) pe_int (nomark _)) (pe_one (pe_cmpR op_inStrD (pv 0) (pe_gstr T.g_NAMES) (by rfl))))))), ?_⟩
  try dsimp only [cxOf]
  refine d_startO h fun ds out hS c hx hM => ?_
  obtain ⟨d, rfl, hp, rfl⟩ := hS
  have hp2 := ok_pl hp
  refine d_st (δ' := [.fz d]) (by rfl) ?_
  walk_at "dw"
  cases d <;> first | (walk_at "dw"; rfl) | (simp [ok] at hp; done) | skip
  rename_i s
  simp only [ok] at hp
  walk_at "dw"
  refine d_lenS rfl (d_small hp) ?_
  walk_at "dw"
  refine i_dec (fun z => ?_) (fun z => ?_)
  · walk_at "dw"
    simp only [isName, decide_eq_true z, Bool.true_and]
    rfl
  · simp only [isName, decide_eq_false z, Bool.false_and]
    rfl
theorem cd_is_name (T : Txt K mg) : Cal P w K mg base 1 "is_name" (toSp (gb P w K) (spO K soName)) := T.d_is_name.cal sc_is_name (len_spO fun ds out ⟨_, h, _⟩ => by rw [h]; rfl) (bd_is_name T)
end

end K67

set_option maxHeartbeats 4000000
namespace K67
open PySem PySem.Spec PyProof.Rows L2 KB KM
open KD hiding Dp
section
variable {P : Program} {w : World} {K : PySem.W.Frag} {mg : Str → Option Value} {base : Heap}
/-! ### tables -/
section
variable {κ ι : Type} [DecidableEq κ]
def valA : List (κ × ι) → κ → Option ι
  | [], _ => none
  | p :: r, k => if p.1 = k then some p.2 else valA r k
def putA : List (κ × ι) → κ → ι → List (κ × ι)
  | [], k, v => [(k, v)]
  | p :: r, k, v => if p.1 = k then (p.1, v) :: r else p :: putA r k v
theorem valA_d {κ' : Type} [DecidableEq κ'] (f : κ → κ') (inj : ∀ a b, f a = f b → a = b) (h : ι → D) : ∀ (m : List (κ × ι)) (k : κ), valD (m.map fun p => (f p.1, h p.2)) (f k) = (valA m k).map h
  | [], _ => rfl
  | p :: r, k => by
    rw [List.map_cons, valD_cons, valA]
    by_cases e : p.1 = k
    · rw [if_pos (by rw [e]), if_pos e]; rfl
    · rw [if_neg fun z => e (inj _ _ z), if_neg e]; exact valA_d f inj h r k
theorem putA_d {κ' : Type} [DecidableEq κ'] (f : κ → κ') (inj : ∀ a b, f a = f b → a = b) (h : ι → D) (m : List (κ × ι)) (nd : (m.map (·.1)).Nodup) (k : κ) (v : ι) : putD (m.map fun p => (f p.1, h p.2)) (f k) (h v) = (putA m k v).map fun p => (f p.1, h p.2) := by
  have away : ∀ (r : List (κ × ι)), k ∉ r.map (·.1) → ∀ x : D, (r.map fun p => (f p.1, h p.2)).map (fun q => if q.1 = f k then (q.1, x) else q) = r.map fun p => (f p.1, h p.2) := by
    intro r
    induction r with
    | nil => intro _ _; rfl
    | cons p r ih =>
      intro n x
      rw [List.map_cons, List.mem_cons] at n
      rw [List.map_cons, List.map_cons, ih (fun z => n (.inr z)) x, if_neg fun z => n (.inl (inj _ _ z).symm)]
  unfold putD
  rw [valD_any, valA_d f inj h]
  induction m with
  | nil => rfl
  | cons p r ih =>
    rw [List.map_cons, List.nodup_cons] at nd
    have ih := ih nd.2
    rw [valA, putA]
    by_cases e : p.1 = k
    · rw [if_pos e, if_pos e]
      simp only [Option.map_some, Option.isSome_some, if_true, List.map_cons]
      rw [if_pos (by rw [e]), away r (by rw [← e]; exact nd.1)]
    · rw [if_neg e, if_neg e, List.map_cons, List.map_cons, List.map_cons, if_neg fun z => e (inj _ _ z), ← ih]
      split <;> rfl
theorem putA_keys : ∀ (m : List (κ × ι)) (k : κ) (v : ι), (m.map (·.1)).Nodup → ((putA m k v).map (·.1)).Nodup ∧ ∀ j ∈ (putA m k v).map (·.1), j = k ∨ j ∈ m.map (·.1)
  | [], k, v, _ => ⟨by simp [putA], fun j hj => .inl (by simpa [putA] using hj)⟩
  | p :: r, k, v, nd => by
    rw [List.map_cons, List.nodup_cons] at nd
    obtain ⟨h1, h2⟩ := putA_keys r k v nd.2
    rw [putA]
    by_cases e : p.1 = k
    · rw [if_pos e, List.map_cons]
      exact ⟨List.nodup_cons.mpr nd, fun j hj => .inr (by simpa using hj)⟩
    · rw [if_neg e, List.map_cons]
      refine ⟨List.nodup_cons.mpr ⟨fun z => ?_, h1⟩, fun j hj => ?_⟩
      · rcases h2 _ z with q | q
        · exact e q
        · exact nd.1 q
      · rcases List.mem_cons.mp hj with q | q
        · exact .inr (by rw [q]; simp)
        · rcases h2 j q with q | q
          · exact .inl q
          · exact .inr (by rw [List.map_cons]; exact List.mem_cons_of_mem _ q)
theorem putA_len : ∀ (m : List (κ × ι)) (k : κ) (v : ι), (putA m k v).length ≤ m.length + 1
  | [], _, _ => Nat.le_refl _
  | p :: r, k, v => by
    rw [putA]
    split
    · simp
    · have := putA_len r k v
      simp only [List.length_cons]
      omega
end
/-- a table: the numbers of (state, set) -/
abbrev Tab := List ((Int × Int) × Int)
def pairD (p : (Int × Int) × Int) : D := .tup [.tup [.int p.1.1, .int p.1.2], .int p.2]
def tripD (p : (Int × Int) × Int) : D := .tup [.int p.1.1, .int p.1.2, .int p.2]
def keyP (k : Int × Int) : List Key := [.inl k.1, .inl k.2]
theorem keyP_inj (a b : Int × Int) (h : keyP a = keyP b) : a = b := by
  simp only [keyP, List.cons.injEq, Sum.inl.injEq, and_true] at h
  exact Prod.ext h.1 h.2
def tabT (m : Tab) : List (List Key × D) := m.map fun p => (keyP p.1, .int p.2)
def addS (m : Tab) (p : (Int × Int) × Int) : Tab := putA m p.1 ((valA m p.1).getD 0 + p.2)
def added (l : Tab) : Tab := l.foldl addS []
theorem added_snoc (l : Tab) (p : (Int × Int) × Int) : added (l ++ [p]) = addS (added l) p := by rw [added, List.foldl_append]; rfl
theorem added_ok (l : Tab) : ((added l).map (·.1)).Nodup ∧ (added l).length ≤ l.length := by
  have key : ∀ (l m : Tab), (m.map (·.1)).Nodup → ((l.foldl addS m).map (·.1)).Nodup ∧ (l.foldl addS m).length ≤ m.length + l.length := by
    intro l
    induction l with
    | nil => intro m h; exact ⟨h, Nat.le_refl _⟩
    | cons p r ih =>
      intro m h
      obtain ⟨h1, h2⟩ := ih (addS m p) (putA_keys _ _ _ h).1
      have := putA_len m p.1 ((valA m p.1).getD 0 + p.2)
      refine ⟨h1, ?_⟩
      have h2 : (List.foldl addS (addS m p) r).length ≤ (putA m p.1 ((valA m p.1).getD 0 + p.2)).length + r.length := h2
      rw [List.foldl_cons, List.length_cons]
      omega
  obtain ⟨h1, h2⟩ := key l [] List.nodup_nil
  exact ⟨h1, by simpa [added] using h2⟩
theorem tabT_val (m : Tab) (k : Int × Int) : (valD (tabT m) (keyP k)).getD (.int 0) = .int ((valA m k).getD 0) := by
  rw [tabT, valA_d keyP keyP_inj D.int]
  cases valA m k <;> rfl
theorem tabT_put {m : Tab} (nd : (m.map (·.1)).Nodup) (k : Int × Int) (v : Int) : putD (tabT m) (keyP k) (.int v) = tabT (putA m k v) := putA_d keyP keyP_inj D.int m nd k v
theorem take_snoc {α : Type} {l : List α} {i : Nat} {x : α} (h : l[i]? = some x) : l.take (i + 1) = l.take i ++ [x] := by
  rw [List.take_add_one, h]; rfl
def soAdded (ds : List D) (out : Out) : Prop := ∃ l : Tab, ds = [.lst (l.map pairD)] ∧ l.length ≤ 1000000 ∧ out = .lst ((added l).map tripD)
abbrev s_added_up : Stmt := (top 34)
theorem sc_added_up : FnScope ["pairs", "sums", "key", "number", "state", "laid"] ["pairs"] (defScope s_added_up) := ⟨rfl, rfl, rfl, by decide +kernel, rfl, by decide +kernel, by decide +kernel⟩
theorem bd_added_up (T : Txt K mg) : Body P w K mg base (0) ["pairs", "sums", "key", "number", "state", "laid"] "added_up" (defScope s_added_up) (defBody s_added_up) (toSp (gb P w K) (spO K soAdded)) := by
  intro f cdv A outer s H vs Q E hr h
  have hu := hu_of hr
  have tk : Takes (cxOf (L2.CX P w) P w K mg base ["pairs", "sums", "key", "number", "state", "laid"] "added_up" (defScope s_added_up) f cdv A outer s H E) (WF E) := takes_of rfl rfl rfl rfl
  refine ⟨_, (pss_cons (ps_setO (i := 1) sc_added_up.nd rfl (Or.inl rfl) pe_dnewT)
    (pss_cons (ps_for (passes_of rfl) rfl (pi_list (pv 0)) (pg_tup (n := 2) (by rfl) (pgs_cons (pg_name (i := 2) sc_added_up.nd rfl (Or.inl rfl)) (pgs_cons (pg_name (i := 3) sc_added_up.nd rfl (Or.inl rfl)) pgs_nil))) (pss_one (ps_tput hu (pv 1) (pv 2) (pe_op op_add (pe_tget2 hu (pv 1) (pv 2) pe_int ⟨by rfl, by rfl, by rfl, by rfl⟩) (pv 3)) rfl)))
    (pss_one (ps_ret (pe_lock (pe_lc (own := [("state", 4), ("laid", 5), ("number", 3)]) (g := (gTup K 2 (gCons (gTup K 2 (gCons (gName 4) (gCons (gName 5) gNil))) (gCons (gName 3) gNil)))) (by rfl) sc_added_up.nd  (pi_itemsT (pv 1)) (blkOk_by (own := [("state", 4), ("laid", 5), ("number", 3)]) (N := ["pairs", "sums", "key", "number", "state", "laid"]) (sc := defScope s_added_up) (by decide +kernel)) (fun _ _ _ _ _ => (pg_tup (n := 2) (by rfl) (pgs_cons (pg_tup (n := 2) (by rfl) (pgs_cons (pg_name (i := 4) sc_added_up.nd rfl (Or.inl rfl)) (pgs_cons (pg_name (i := 5) sc_added_up.nd rfl (Or.inl rfl)) pgs_nil))) (pgs_cons (pg_name (i := 3) sc_added_up.nd rfl (Or.inl rfl)) pgs_nil)))) (fun _ _ _ _ _ => pts_nil) (fun _ _ _ _ _ => (pe_tup (pa_cons (pv 4) (pa_cons (pv 5) (pa_cons (pv 3) pa_nil))))))))))), ?_⟩
  try dsimp only [cxOf]
  refine d_startO h fun ds out hS c hx hM => ?_
  obtain ⟨l, rfl, hl, rfl⟩ := hS
  have hz : (1000000 : Nat) < sizeLine := by decide
  refine d_st (δ' := [.fz (.lst (l.map pairD)), .no, .no, .no, .no, .no]) (by rfl) ?_
  walk_at "dw"
  refine d_dnewT (fun σ H Q h => h) fun a1 => ?_
  walk_at "dw"
  refine d_for ?_
  walk_at "dw"
  refine ⟨fun i δ => ∃ s1 s2, (s2 = .no ∨ ∃ d, s2 = .fz d) ∧ δ = [.fz (.lst (l.map pairD)), .ow (.dt a1 (tabT (added (l.take i)))), s1, s2, .no, .no], ⟨_, _, .inl rfl, rfl⟩, fun _ _ _ => trivial, ?_, ?_⟩
  · rintro i δ hi ⟨s1, s2, hs2, rfl⟩
    rw [List.length_map] at hi
    have em : (l.map pairD).getD i .non = pairD (l.getD i ((0, 0), 0)) := by
      rw [List.getD_eq_getElem?_getD, List.getElem?_map, List.getD_eq_getElem?_getD, List.getElem?_eq_getElem hi]; rfl
    dsimp only
    rw [em]
    obtain ⟨h1, h2⟩ := added_ok (l.take i)
    have ei : l[i]? = some (l.getD i ((0, 0), 0)) := getD_at hi
    generalize l.getD i ((0, 0), 0) = p at ei ⊢
    have hlen : (added (l.take i)).length < sizeLine := by rw [List.length_take] at h2; omega
    unfold pairD
    walk_at "dw"
    refine ⟨⟨_, rfl⟩, ?_⟩
    walk_at "dw"
    refine ⟨_, _, keyP p.1, _, rfl, rfl, rfl, rfl, ?_⟩
    rw [tabT_val]
    walk_at "dw"
    refine ⟨1, a1, _, _, keyP p.1, _, rfl, rfl, rfl, rfl, rfl, by rw [tabT, List.length_map]; exact hlen, ?_⟩
    rw [tabT_put h1, take_snoc ei, added_snoc]
    exact ⟨_, _, .inr ⟨_, rfl⟩, rfl⟩
  · rintro δ ⟨s1, s2, hs2, rfl⟩
    obtain ⟨h1, h2⟩ := added_ok l
    rw [List.length_map, List.take_length]
    walk_at "dw"
    refine d_lock (i := 1) rfl fun c' od kvs h0 hm hk => ?_
    refine d_lcP (only_tup (only_cons (only_tup (only_cons (only_name (by decide)) (only_cons (only_name (by decide)) only_nil))) (only_cons (only_name (by decide)) only_nil))) ?_
    refine d_iItemsT rfl h0 hm hk ?_
    refine ⟨by rw [tabT, List.length_map]; omega, trivial, ?_, fun j => tripD ((added l).getD j ((0, 0), 0)), fun c2 j hj => ?_, fun p => ?_⟩
    · rcases hs2 with rfl | ⟨d, rfl⟩ <;> rfl
    · rw [tabT, List.length_map] at hj
      have e : itD (tabT (added l)) j = pairD ((added l).getD j ((0, 0), 0)) := by
        have : (tabT (added l)).getD j ([], .non) = (keyP ((added l).getD j ((0, 0), 0)).1, .int ((added l).getD j ((0, 0), 0)).2) := by
          rw [List.getD_eq_getElem?_getD, tabT, List.getElem?_map, getD_at (d := ((0, 0), 0)) hj]; rfl
        rw [itD, this]
        rfl
      rw [e]
      dsimp only
      generalize (added l).getD j ((0, 0), 0) = p
      unfold pairD tripD
      walk_at "dw"
      exact ⟨rfl, rfl⟩
    · refine ⟨rfl, p, _, rfl, p, ?_⟩
      have : ((List.range (tabT (added l)).length).map fun j => tripD ((added l).getD j ((0, 0), 0))) = (added l).map tripD := by
        rw [tabT, List.length_map]
        refine List.ext_getElem? fun j => ?_
        by_cases h : j < (added l).length
        · rw [List.getElem?_map, List.getElem?_range h, List.getElem?_map, getD_at (d := ((0, 0), 0)) h]; rfl
        · rw [List.getElem?_eq_none (by simpa using h), List.getElem?_eq_none (by simpa using h)]
      rw [this]
theorem cd_added_up (T : Txt K mg) : Cal P w K mg base 1 "added_up" (toSp (gb P w K) (spO K soAdded)) := T.d_added_up.cal sc_added_up (len_spO fun ds out ⟨_, h, _⟩ => by rw [h]; rfl) (bd_added_up T)
end

end K67

set_option maxHeartbeats 4000000
namespace K67
open PySem PySem.Spec PyProof.Rows L2 KB KM
open KD hiding Dp
section
variable {P : Program} {w : World} {K : PySem.W.Frag} {mg : Str → Option Value} {base : Heap}
def tabD (t : Tab) : D := .lst (t.map tripD)
def rowD (r : List Int) : D := .tup (r.map D.int)
theorem range_getD {α β : Type} (l : List α) (d : α) (f : α → β) : ((List.range l.length).map fun j => f (l.getD j d)) = l.map f := by
  refine List.ext_getElem? fun j => ?_
  by_cases h : j < l.length
  · rw [List.getElem?_map, List.getElem?_range h, List.getElem?_map, getD_at (d := d) h]; rfl
  · rw [List.getElem?_eq_none (by simpa using h), List.getElem?_eq_none (by simpa using h)]
theorem atI_ints {r : List Int} {i : Int} (h1 : 0 ≤ i) (h2 : i < r.length) : atI (r.map D.int) i = some (.int (r.getD i.toNat 0)) := by
  unfold atI ixN
  rw [if_pos h1, if_pos (by rw [List.length_map]; omega)]
  show (r.map D.int)[i.toNat]? = _
  rw [List.getElem?_map, getD_at (d := 0) (show i.toNat < r.length by omega)]
  rfl
def soNoWays (ds : List D) (out : Out) : Prop := ∃ n : Nat, ds = [.int n] ∧ n ≤ 100000 ∧ out = .lst ((List.range n).map fun s : Nat => tabD [(((s : Int), 0), 1)])
abbrev s_no_ways : Stmt := (top 35)
theorem sc_no_ways : FnScope ["states", "state"] ["states"] (defScope s_no_ways) := ⟨rfl, rfl, rfl, by decide +kernel, rfl, by decide +kernel, by decide +kernel⟩
theorem bd_no_ways (T : Txt K mg) : Body P w K mg base (0) ["states", "state"] "no_ways" (defScope s_no_ways) (defBody s_no_ways) (toSp (gb P w K) (spO K soNoWays)) := by
  intro f cdv A outer s H vs Q E hr h
  have hu := hu_of hr
  have tk : Takes (cxOf (L2.CX P w) P w K mg base ["states", "state"] "no_ways" (defScope s_no_ways) f cdv A outer s H E) (WF E) := takes_of rfl rfl rfl rfl
  refine ⟨_, (pss_one (ps_ret (pe_lc (own := [("state", 1)]) (g := (gName 1)) (by rfl) sc_no_ways.nd  (pi_range1 rfl T.g_range (pa_cons (pv 0) pa_nil)) (blkOk_by (own := [("state", 1)]) (N := ["states", "state"]) (sc := defScope s_no_ways) (by decide +kernel)) (fun _ _ _ _ _ => (pg_name (i := 1) sc_no_ways.nd rfl (Or.inl rfl))) (fun _ _ _ _ _ => pts_nil) (fun _ _ _ _ _ => (pe_lst (pa_cons (pe_tup (pa_cons (pv 1) (pa_cons pe_int (pa_cons pe_int pa_nil)))) pa_nil)))))), ?_⟩
  try dsimp only [cxOf]
  refine d_startO h fun ds out hS c hx hM => ?_
  obtain ⟨n, rfl, hn, rfl⟩ := hS
  have hz : (100000 : Nat) < sizeLine := by decide
  refine d_st (δ' := [.fz (.int n), .no]) (by rfl) ?_
  walk_at "dw"
  refine d_lcP (only_name (by decide)) ?_
  walk_at "dw"
  refine ⟨_, rfl, by omega, by omega, by omega, trivial, rfl, fun s : Nat => tabD [(((s : Int), 0), 1)], fun c2 j hj => ?_, fun p => ?_⟩
  · walk_at "dw"
    intro p
    refine ⟨?_, rfl⟩
    show R.fz (.lst [.tup [.int (0 + (j : Int)), .int 0, .int 1]]) = _
    rw [Int.zero_add]
    rfl
  · exact ⟨p, rfl⟩
theorem cd_no_ways (T : Txt K mg) : Cal P w K mg base 1 "no_ways" (toSp (gb P w K) (spO K soNoWays)) := T.d_no_ways.cal sc_no_ways (len_spO fun ds out ⟨_, h, _⟩ => by rw [h]; rfl) (bd_no_ways T)
def soChild (ds : List D) (out : Out) : Prop := ∃ (S : List (List Int)) (own : Tab), ds = [.tup (S.map rowD), tabD own] ∧ S.length ≤ 1000 ∧ own.length ≤ 1000000 ∧ (∀ r ∈ S, ∀ p ∈ own, 0 ≤ p.1.1 ∧ p.1.1 < r.length) ∧
  out = .lst (S.map fun r => tabD (added (own.map fun p => ((r.getD p.1.1.toNat 0, p.1.2), p.2))))
abbrev s_child_ways : Stmt := (top 36)
theorem sc_child_ways : FnScope ["step", "own", "state", "laid", "number", "row"] ["step", "own"] (defScope s_child_ways) := ⟨rfl, rfl, rfl, by decide +kernel, rfl, by decide +kernel, by decide +kernel⟩
theorem bd_child_ways (T : Txt K mg) (C_added_up : Cal P w K mg base 1 "added_up" (toSp (gb P w K) (spO K soAdded))) : Body P w K mg base (1) ["step", "own", "state", "laid", "number", "row"] "child_ways" (defScope s_child_ways) (defBody s_child_ways) (toSp (gb P w K) (spO K soChild)) := by
  intro f cdv A outer s H vs Q E hr h
  have hu := hu_of hr
  have tk : Takes (cxOf (L2.CX P w) P w K mg base ["step", "own", "state", "laid", "number", "row"] "child_ways" (defScope s_child_ways) f cdv A outer s H E) (WF E) := takes_of rfl rfl rfl rfl
  refine ⟨_, (pss_one (ps_ret (pe_lc (own := [("row", 5)]) (g := (gName 5)) (by rfl) sc_child_ways.nd  (pi_tup (pv 0)) (blkOk_by (own := [("row", 5)]) (N := ["step", "own", "state", "laid", "number", "row"]) (sc := defScope s_child_ways) (by decide +kernel)) (fun _ _ _ _ _ => (pg_name (i := 5) sc_child_ways.nd rfl (Or.inr rfl))) (fun _ _ _ _ _ => pts_nil) (fun _ _ _ _ _ => (pe_cal C_added_up hr (by omega) takesN (pa_cons (pe_lc (own := [("state", 2), ("laid", 3), ("number", 4)]) (g := (gTup K 3 (gCons (gName 2) (gCons (gName 3) (gCons (gName 4) gNil))))) (by rfl) sc_child_ways.nd  (pi_listK (K := K) rfl (pv 1)) (blkOk_by (own := [("state", 2), ("laid", 3), ("number", 4)]) (N := ["step", "own", "state", "laid", "number", "row"]) (sc := _) (by rfl)) (fun _ _ _ _ _ => (pg_tup (n := 3) (by rfl) (pgs_cons (pg_name (i := 2) sc_child_ways.nd rfl (Or.inl rfl)) (pgs_cons (pg_name (i := 3) sc_child_ways.nd rfl (Or.inl rfl)) (pgs_cons (pg_name (i := 4) sc_child_ways.nd rfl (Or.inl rfl)) pgs_nil))))) (fun _ _ _ _ _ => pts_nil) (fun _ _ _ _ _ => (pe_tup (pa_cons (pe_tup (pa_cons (pe_ix (ix_seqK (K := K) rfl) (pv 5) (pv 2) (fun _ _ => rfl)) (pa_cons (pv 3) pa_nil))) (pa_cons (pv 4) pa_nil))))) pa_nil)))))), ?_⟩
  try dsimp only [cxOf]
  refine d_startO h fun ds out hS c hx hM => ?_
  obtain ⟨S, own, rfl, h1, h2, h3, rfl⟩ := hS
  have hz : (1000000 : Nat) < sizeLine := by decide
  refine d_st (δ' := [.fz (.tup (S.map rowD)), .fz (tabD own), .no, .no, .no, .no]) (by rfl) ?_
  walk_at "dw"
  refine d_lcP (only_name (by decide)) ?_
  walk_at "dw"
  refine ⟨by rw [List.length_map]; omega, trivial, rfl, fun j => tabD (added (own.map fun p => (((S.getD j []).getD p.1.1.toNat 0, p.1.2), p.2))), fun c2 j hj => ?_, fun p => ?_⟩
  · rw [List.length_map] at hj
    have e : (S.map rowD).getD j .non = rowD (S.getD j []) := by
      rw [List.getD_eq_getElem?_getD, List.getElem?_map, getD_at (d := []) hj]; rfl
    have hr : S.getD j [] ∈ S := List.mem_of_getElem? (getD_at (d := []) hj)
    dsimp only
    rw [e]
    generalize S.getD j [] = r at hr ⊢
    walk_at "dw"
    refine d_callL (ok0 c2) ?_
    walk_at "dw"
    refine d_lcP (only_tup (only_cons (only_name (by decide)) (only_cons (only_name (by decide)) (only_cons (only_name (by decide)) only_nil)))) ?_
    walk_at "dw"
    refine ⟨by rw [List.length_map]; omega, trivial, rfl, fun j => pairD ((r.getD (own.getD j ((0, 0), 0)).1.1.toNat 0, (own.getD j ((0, 0), 0)).1.2), (own.getD j ((0, 0), 0)).2), fun c3 i hi => ?_, fun p => ?_⟩
    · rw [List.length_map] at hi
      have e2 : (own.map tripD).getD i .non = tripD (own.getD i ((0, 0), 0)) := by
        rw [List.getD_eq_getElem?_getD, List.getElem?_map, getD_at (d := ((0, 0), 0)) hi]; rfl
      have hq : own.getD i ((0, 0), 0) ∈ own := List.mem_of_getElem? (getD_at (d := ((0, 0), 0)) hi)
      dsimp only
      rw [e2]
      generalize own.getD i ((0, 0), 0) = q at hq ⊢
      obtain ⟨b1, b2⟩ := h3 r hr q hq
      unfold tripD
      walk_at "dw"
      refine d_ix (i := q.1.1) (d := .int (r.getD q.1.1.toNat 0)) rfl rfl (atI_ints b1 b2) ?_
      walk_at "dw"
      exact ⟨rfl, rfl⟩
    · have el : ((List.range (own.map tripD).length).map fun j => pairD ((r.getD (own.getD j ((0, 0), 0)).1.1.toNat 0, (own.getD j ((0, 0), 0)).1.2), (own.getD j ((0, 0), 0)).2)) = (own.map fun p => ((r.getD p.1.1.toNat 0, p.1.2), p.2)).map pairD := by
        rw [List.length_map, range_getD own ((0, 0), 0) fun p => pairD ((r.getD p.1.1.toNat 0, p.1.2), p.2), List.map_map]
        rfl
      rw [el]
      walk_at "dw"
      refine ⟨_, _, rfl, ⟨_, rfl, by rw [List.length_map]; exact h2, rfl⟩, fun a => ?_⟩
      exact ⟨rfl, rfl⟩
  · have el : ((List.range (S.map rowD).length).map fun j => tabD (added (own.map fun p => (((S.getD j []).getD p.1.1.toNat 0, p.1.2), p.2)))) = S.map fun r => tabD (added (own.map fun p => ((r.getD p.1.1.toNat 0, p.1.2), p.2))) := by
      rw [List.length_map, range_getD S [] fun r => tabD (added (own.map fun p => ((r.getD p.1.1.toNat 0, p.1.2), p.2)))]
    rw [el]
    exact ⟨p, rfl⟩
theorem cd_child_ways (T : Txt K mg) : Cal P w K mg base 2 "child_ways" (toSp (gb P w K) (spO K soChild)) := T.d_child_ways.cal sc_child_ways (len_spO fun ds out ⟨_, _, h, _⟩ => by rw [h]; rfl) (bd_child_ways T (cd_added_up T))
end

end K67

set_option maxHeartbeats 4000000
namespace K67
open PySem PySem.Spec PyProof.Rows L2 KB KM
open KD hiding Dp
section
variable {P : Program} {w : World} {K : PySem.W.Frag} {mg : Str → Option Value} {base : Heap}
/-! ### both_ways -/
def pairOk (p q : (Int × Int) × Int) : Bool := decide (Builtin.bitAnd p.1.2 q.1.2 = 0)
def pairOf (p q : (Int × Int) × Int) : (Int × Int) × Int := ((q.1.1, Builtin.bitOr p.1.2 q.1.2), p.2 * q.2)
def bothOf (other : List Tab) (p : (Int × Int) × Int) : Tab := ((other.getD p.1.1.toNat []).filter (pairOk p)).map (pairOf p)
def bothRow (other : List Tab) (t : Tab) : Tab := t.flatMap (bothOf other)
def tabsD (l : List Tab) : D := .lst (l.map tabD)
structure BothOk (one other : List Tab) : Prop where
  l1 : one.length ≤ 1000
  ix : ∀ t ∈ one, ∀ p ∈ t, 0 ≤ p.1.1 ∧ p.1.1 < other.length
  ln : ∀ t ∈ one, (bothRow other t).length ≤ 1000000
  l2 : ∀ t ∈ other, t.length ≤ 1000000
  b1 : ∀ t ∈ one, ∀ p ∈ t, -(2 ^ 64) < p.2 ∧ p.2 < 2 ^ 64
def waysAt (one other : List Tab) (i : Nat) : List D := (List.range one.length).map fun j => if j < i then tabD (added (bothRow other (one.getD j []))) else .lst []
theorem waysAt_len (one other : List Tab) (i : Nat) : (waysAt one other i).length = one.length := by rw [waysAt, List.length_map, List.length_range]
theorem waysAt_set {one other : List Tab} {i : Nat} {t : Tab} (h : one[i]? = some t) : (waysAt one other i).set i (tabD (added (bothRow other t))) = waysAt one other (i + 1) := by
  have hi := (List.getElem?_eq_some_iff.mp h).1
  refine List.ext_getElem? fun j => ?_
  rw [List.getElem?_set, waysAt_len]
  by_cases e : i = j
  · subst e
    rw [if_pos rfl, if_pos hi, waysAt, List.getElem?_map, List.getElem?_range hi, Option.map_some, if_pos (by omega), List.getD_eq_getElem?_getD, h]
    rfl
  · rw [if_neg e, waysAt, waysAt, List.getElem?_map, List.getElem?_map]
    by_cases q : j < one.length
    · rw [List.getElem?_range q, Option.map_some, Option.map_some]
      by_cases z : j < i
      · rw [if_pos z, if_pos (by omega)]
      · rw [if_neg z, if_neg (by omega)]
    · rw [List.getElem?_eq_none (by simpa using q)]
      rfl
def Fzs (s : Sl) : Prop := s = .no ∨ ∃ d, s = .fz d
theorem atI_map {α : Type} {l : List α} {f : α → D} {i : Nat} {x : α} (h : l[i]? = some x) : atI (l.map f) ((i : Nat) : Int) = some (f x) := by
  have hi := (List.getElem?_eq_some_iff.mp h).1
  unfold atI ixN
  rw [if_pos (by omega), if_pos (by rw [List.length_map]; omega)]
  show (l.map f)[((i : Nat) : Int).toNat]? = _
  rw [Int.toNat_natCast, List.getElem?_map, h]
  rfl
theorem range_filter {α β : Type} (l : List α) (d : α) (g : α → Bool) (f : α → β) : (((List.range l.length).filter fun j => g (l.getD j d)).map fun j => f (l.getD j d)) = (l.filter g).map f := by
  have e : ((List.range l.length).map fun j => l.getD j d) = l := (range_getD l d id).trans (List.map_id l)
  have e2 : (l.filter g).map f = ((((List.range l.length).map fun j => l.getD j d).filter g).map f) := by rw [e]
  rw [e2, List.filter_map, List.map_map]
  rfl
def soBoth (ds : List D) (out : Out) : Prop := ∃ one other : List Tab, ds = [tabsD one, tabsD other, .lst ((List.range one.length).map fun k : Nat => .int k)] ∧ BothOk one other ∧ out = .lst (one.map fun t => tabD (added (bothRow other t)))
abbrev s_both_ways : Stmt := (top 37)
theorem sc_both_ways : FnScope ["one", "other", "starts", "ways", "entries", "start", "pairs", "middle", "laid", "number", "state", "more", "times"] ["one", "other", "starts"] (defScope s_both_ways) := ⟨rfl, rfl, rfl, by decide +kernel, rfl, by decide +kernel, by decide +kernel⟩
theorem bd_both_ways (T : Txt K mg) (C_added_up : Cal P w K mg base 1 "added_up" (toSp (gb P w K) (spO K soAdded))) : Body P w K mg base (1) ["one", "other", "starts", "ways", "entries", "start", "pairs", "middle", "laid", "number", "state", "more", "times"] "both_ways" (defScope s_both_ways) (defBody s_both_ways) (toSp (gb P w K) (spO K soBoth)) := by
  intro f cdv A outer s H vs Q E hr h
  have hu := hu_of hr
  have tk : Takes (cxOf (L2.CX P w) P w K mg base ["one", "other", "starts", "ways", "entries", "start", "pairs", "middle", "laid", "number", "state", "more", "times"] "both_ways" (defScope s_both_ways) f cdv A outer s H E) (WF E) := takes_of rfl rfl rfl rfl
  refine ⟨_, (pss_cons (ps_setLcO (i := 3) (own := [("entries", 4)]) (g := (gName 4)) (by rfl) sc_both_ways.nd rfl rfl (sw_true rfl rfl rfl (by decide +kernel)) (pi_list (pv 0)) (blkOk_by (own := [("entries", 4)]) (N := ["one", "other", "starts", "ways", "entries", "start", "pairs", "middle", "laid", "number", "state", "more", "times"]) (sc := defScope s_both_ways) (by decide +kernel)) (fun _ _ _ _ _ => (pg_name (i := 4) sc_both_ways.nd rfl (Or.inl rfl))) (fun _ _ _ _ _ => pts_nil) (fun _ _ _ _ _ => (pe_lst pa_nil)))
    (pss_cons (ps_for (passes_of rfl) rfl (pi_list (pv 2)) (pg_name (i := 5) sc_both_ways.nd rfl (Or.inl rfl)) (pss_cons (ps_setO (i := 6) sc_both_ways.nd rfl (Or.inl rfl) (pe_lst pa_nil))
    (pss_cons (ps_for (passes_of rfl) rfl (pi_list (pe_ix ix_seq (pv 0) (pv 5) (fun _ _ => rfl))) (pg_tup (n := 3) (by rfl) (pgs_cons (pg_name (i := 7) sc_both_ways.nd rfl (Or.inl rfl)) (pgs_cons (pg_name (i := 8) sc_both_ways.nd rfl (Or.inr rfl)) (pgs_cons (pg_name (i := 9) sc_both_ways.nd rfl (Or.inr rfl)) pgs_nil)))) (pss_one (ps_expr (pe_bm PySem.F.plainAttrs_list PySem.F.slot_list_extend PySem.F.type_list_extend mt_extend (pv 6) (pa_cons (pe_lc (own := [("state", 10), ("more", 11), ("times", 12)]) (g := (gTup K 3 (gCons (gName 10) (gCons (gName 11) (gCons (gName 12) gNil))))) (by rfl) sc_both_ways.nd  (pi_list (pe_ix (ix_seqK (K := K) rfl) (pv 1) (pv 7) (fun _ _ => rfl))) (blkOk_by (own := [("state", 10), ("more", 11), ("times", 12)]) (N := ["one", "other", "starts", "ways", "entries", "start", "pairs", "middle", "laid", "number", "state", "more", "times"]) (sc := defScope s_both_ways) (by decide +kernel)) (fun _ _ _ _ _ => (pg_tup (n := 3) (by rfl) (pgs_cons (pg_name (i := 10) sc_both_ways.nd rfl (Or.inl rfl)) (pgs_cons (pg_name (i := 11) sc_both_ways.nd rfl (Or.inl rfl)) (pgs_cons (pg_name (i := 12) sc_both_ways.nd rfl (Or.inl rfl)) pgs_nil))))) (fun _ _ _ _ _ => (pts_one (pt_cmpR op_eq (pe_op op_and (pv 8) (pv 11)) pe_int (nomark _)))) (fun _ _ _ _ _ => (pe_tup (pa_cons (pe_tup (pa_cons (pv 10) (pa_cons (pe_op op_or (pv 8) (pv 11)) pa_nil))) (pa_cons (pe_op op_mul (pv 9) (pv 12)) pa_nil))))) pa_nil)))))
    (pss_one (ps_asg (pe_cal C_added_up hr (by omega) tk (pa_cons (pv 6) pa_nil)) (pg_sub (pv 3) (pv 5) set_list))))))
    (pss_one (ps_ret (pv 3))))), ?_⟩
  try dsimp only [cxOf]
  refine d_startO h fun ds out hS c hx hM => ?_
  obtain ⟨one, other, rfl, ok, rfl⟩ := hS
  have hz : (1000000 : Nat) < sizeLine := by decide
  refine d_st (δ' := [.fz (tabsD one), .fz (tabsD other), .fz (.lst ((List.range one.length).map fun k : Nat => .int k)), .no, .no, .no, .no, .no, .no, .no, .no, .no, .no]) (by rfl) ?_
  walk_at "dw"
  refine d_lcP (only_name (by decide)) ?_
  walk_at "dw"
  refine ⟨by rw [List.length_map]; have := ok.l1; omega, trivial, rfl, fun _ => .lst [], fun c2 j hj => ?_, fun a1 => ?_⟩
  · walk_at "dw"
    intro p
    exact ⟨rfl, rfl⟩
  rw [show ((List.range (one.map tabD).length).map fun _ => D.lst []) = waysAt one other 0 by rw [List.length_map]; rfl]
  walk_at "dw"
  refine d_for ?_
  walk_at "dw"
  refine ⟨fun i δ => ∃ s4 s5 s6 s7 s8 s9, Fzs s7 ∧ Fzs s8 ∧ Fzs s9 ∧ δ = [.fz (tabsD one), .fz (tabsD other), .fz (.lst ((List.range one.length).map fun k : Nat => .int k)), .ow (.fl a1 (waysAt one other i)), s4, s5, s6, s7, s8, s9, .no, .no, .no],
    ⟨_, _, _, _, _, _, .inl rfl, .inl rfl, .inl rfl, rfl⟩, fun _ _ _ => trivial, ?_, ?_⟩
  · rintro i δ hi ⟨s4, s5, s6, s7, s8, s9, f7, f8, f9, rfl⟩
    rw [List.length_map, List.length_range] at hi
    have e : ((List.range one.length).map fun k : Nat => D.int k).getD i .non = .int i := by
      rw [List.getD_eq_getElem?_getD, List.getElem?_map, List.getElem?_range hi]; rfl
    dsimp only
    rw [e]
    have ht : one.getD i [] ∈ one := List.mem_of_getElem? (getD_at (d := []) hi)
    have et : one[i]? = some (one.getD i []) := getD_at hi
    walk_at "dw"
    intro a2
    walk_at "dw"
    refine d_for ?_
    walk_at "dw"
    refine d_ix (i := (i : Nat)) (d := tabD (one.getD i [])) rfl rfl (atI_map et) ?_
    generalize one.getD i [] = t at ht et ⊢
    have ix := ok.ix t ht
    have ln := ok.ln t ht
    have b1 := ok.b1 t ht
    refine ⟨t.map tripD, rfl, fun k δ => ∃ s7 s8 s9, Fzs s7 ∧ Fzs s8 ∧ Fzs s9 ∧ δ = [.fz (tabsD one), .fz (tabsD other), .fz (.lst ((List.range one.length).map fun k : Nat => .int k)), .ow (.fl a1 (waysAt one other i)), s4, .fz (.int i), .ow (.fl a2 ((bothRow other (t.take k)).map pairD)), s7, s8, s9, .no, .no, .no],
      ⟨_, _, _, f7, f8, f9, rfl⟩, fun _ _ _ => trivial, ?_, ?_⟩
    · rintro k δ hk ⟨s7, s8, s9, _, _, _, rfl⟩
      rw [List.length_map] at hk
      have ep : (t.map tripD).getD k .non = tripD (t.getD k ((0, 0), 0)) := by
        rw [List.getD_eq_getElem?_getD, List.getElem?_map, getD_at (d := ((0, 0), 0)) hk]; rfl
      have epk : t[k]? = some (t.getD k ((0, 0), 0)) := getD_at hk
      dsimp only
      rw [ep]
      generalize t.getD k ((0, 0), 0) = pp at epk ⊢
      have hpm := List.mem_of_getElem? epk
      obtain ⟨m1, m2⟩ := ix pp hpm
      have nb := b1 pp hpm
      have esn : bothRow other (t.take (k + 1)) = bothRow other (t.take k) ++ bothOf other pp := by
        rw [take_snoc epk, bothRow, List.flatMap_append]
        simp [bothRow]
      have lle : (bothRow other (t.take (k + 1))).length ≤ (bothRow other t).length := by
        have : bothRow other t = bothRow other (t.take (k + 1)) ++ bothRow other (t.drop (k + 1)) := by
          rw [bothRow, bothRow, bothRow, ← List.flatMap_append, List.take_append_drop]
        rw [this, List.length_append]
        omega
      have hmid : (pp.1.1.toNat : Int) = pp.1.1 := by omega
      have eo : other[pp.1.1.toNat]? = some (other.getD pp.1.1.toNat []) := getD_at (by omega)
      have lo : (other.getD pp.1.1.toNat []).length ≤ 1000000 := ok.l2 _ (List.mem_of_getElem? eo)
      have eat := atI_map (f := tabD) eo
      rw [hmid] at eat
      have ebo : bothOf other pp = ((other.getD pp.1.1.toNat []).filter (pairOk pp)).map (pairOf pp) := rfl
      generalize other.getD pp.1.1.toNat [] = o at eat ebo lo
      unfold tripD
      walk_at "dw"
      refine d_lcPF (only_tup (only_cons (only_name (by decide)) (only_cons (only_name (by decide)) (only_cons (only_name (by decide)) only_nil)))) ?_
      walk_at "dw"
      refine d_ix (i := pp.1.1) (d := tabD o) rfl rfl eat ?_
      refine ⟨_, rfl, by rw [List.length_map]; omega, trivial, rfl, fun j => pairD (pairOf pp (o.getD j ((0, 0), 0))), fun j => pairOk pp (o.getD j ((0, 0), 0)), fun c3 j hj => ?_, fun a3 => ?_⟩
      · rw [List.length_map] at hj
        have e3 : (o.map tripD).getD j .non = tripD (o.getD j ((0, 0), 0)) := by
          rw [List.getD_eq_getElem?_getD, List.getElem?_map, getD_at (d := ((0, 0), 0)) hj]; rfl
        dsimp only
        rw [e3]
        generalize o.getD j ((0, 0), 0) = q
        unfold tripD
        walk_at "dw"
        refine ⟨rfl, ?_⟩
        refine i_dec (fun z => ?_) (fun z => rfl)
        walk_at "dw"
        refine d_rI (i := pp.2) (j := q.2) rfl rfl rfl (.inl nb) ?_
        walk_at "dw"
        exact ⟨rfl, rfl⟩
      · rw [List.length_map, range_filter o ((0, 0), 0) (pairOk pp) fun q => pairD (pairOf pp q)]
        rw [show ((o.filter (pairOk pp)).map fun q => pairD (pairOf pp q)) = (bothOf other pp).map pairD by rw [ebo, List.map_map]; rfl]
        walk_at "dw"
        refine d_extend (i := 6) rfl rfl rfl ?_ ?_
        · rw [← List.length_append, ← List.map_append, ← esn, List.length_map]; omega
        rw [← List.map_append, ← esn]
        exact ⟨_, _, _, .inr ⟨_, rfl⟩, .inr ⟨_, rfl⟩, .inr ⟨_, rfl⟩, rfl⟩
    · rintro δ ⟨s7, s8, s9, f7, f8, f9, rfl⟩
      rw [List.length_map, List.take_length]
      walk_at "dw"
      refine d_frzE (j := 6) rfl hM ?_
      refine d_callL hx ?_
      walk_at "dw"
      refine ⟨_, _, rfl, ⟨_, rfl, ln, rfl⟩, fun a4 => ?_⟩
      walk_at "dw"
      refine d_setL (a := a1) (k := (i : Nat)) ?_
      walk_at "dw"
      refine ⟨3, a1, _, i, i, _, rfl, rfl, rfl, rfl, ?_, ?_⟩
      · unfold ixN
        rw [waysAt_len, if_pos (by omega), if_pos (by omega)]
        rfl
      refine ⟨s4, .fz (.int i), .fz (.lst ((bothRow other t).map pairD)), s7, s8, s9, f7, f8, f9, ?_⟩
      rw [← waysAt_set et]
      rfl
  · rintro δ ⟨s4, s5, s6, s7, s8, s9, f7, f8, f9, rfl⟩
    rw [List.length_map, List.length_range]
    have e : waysAt one other one.length = one.map fun t => tabD (added (bothRow other t)) := by
      rw [← range_getD one [] fun t => tabD (added (bothRow other t)), waysAt]
      refine List.map_congr_left fun j hj => ?_
      rw [if_pos (List.mem_range.mp hj)]
    rw [e]
    refine d_retO (i := 3) (o := .fl a1 (one.map fun t => tabD (added (bothRow other t)))) rfl hM (.inl rfl) ?_
    exact ⟨a1, rfl⟩
theorem cd_both_ways (T : Txt K mg) : Cal P w K mg base 2 "both_ways" (toSp (gb P w K) (spO K soBoth)) := T.d_both_ways.cal sc_both_ways (len_spO fun ds out ⟨_, _, h, _⟩ => by rw [h]; rfl) (bd_both_ways T (cd_added_up T))
end

end K67

set_option maxHeartbeats 4000000
namespace K67
open PySem PySem.Spec PyProof.Rows L2 KB KM
open KD hiding Dp
section
variable {P : Program} {w : World} {K : PySem.W.Frag} {mg : Str → Option Value} {base : Heap}
/-! ### node_ways_of, no name at the node in another set -/
theorem and0 (n : Nat) : Builtin.bitAnd (n : Int) 0 = 0 := by
  rw [bitAnd_pp (Int.natCast_nonneg n) (by decide)]
  simp
theorem or0 (n : Nat) : Builtin.bitOr (n : Int) 0 = n := by
  rw [bitOr_nn (Int.natCast_nonneg n) (by decide)]
  simp
def nodeOk (m : Nat) (q : (Int × Int) × Int) : Bool := decide (Builtin.bitAnd q.1.2 m = 0)
def nodeOf (m : Nat) (q : (Int × Int) × Int) : (Int × Int) × Int := ((q.1.1, Builtin.bitOr q.1.2 m), q.2)
/-- the entries that a lay finds -/
def entOf (ways : Option (List Tab)) (s : Int) : Tab := match ways with
  | none => [((s, 0), 1)]
  | some l => l.getD s.toNat []
def nodePart (ways : Option (List Tab)) (m : Nat) (s : Int) : Tab := ((entOf ways s).filter (nodeOk m)).map (nodeOf m)
def nodeRow (begin : List Int) (ways : Option (List Tab)) (n : Nat) : Tab := (List.range n).flatMap fun m => nodePart ways m (begin.getD m 0)
def waysD : Option (List Tab) → D
  | none => .non
  | some l => tabsD l
structure NodeOk (begin : List Int) (ways : Option (List Tab)) : Prop where
  l1 : begin.length ≤ 1000
  ix : ∀ l, ways = some l → ∀ s ∈ begin, 0 ≤ s ∧ s < l.length
  le : ∀ l, ways = some l → ∀ t ∈ l, t.length ≤ 1000000
  ln : (nodeRow begin ways begin.length).length ≤ 1000000
def soNodeOf (ds : List D) (out : Out) : Prop := ∃ begin ways, ds = [rowD begin, .int 0, waysD ways] ∧ NodeOk begin ways ∧ out = .lst ((added (nodeRow begin ways begin.length)).map tripD)
theorem nodeRow_succ (begin : List Int) (ways : Option (List Tab)) (n : Nat) : nodeRow begin ways (n + 1) = nodeRow begin ways n ++ nodePart ways n (begin.getD n 0) := by
  rw [nodeRow, nodeRow, List.range_succ, List.flatMap_append]
  simp
theorem nodeRow_le (begin : List Int) (ways : Option (List Tab)) {n m : Nat} (h : n ≤ m) : (nodeRow begin ways n).length ≤ (nodeRow begin ways m).length := by
  obtain ⟨k, rfl⟩ := Nat.le.dest h
  induction k with
  | zero => exact Nat.le_refl _
  | succ k ih =>
    have := ih (by omega)
    rw [← Nat.add_assoc, nodeRow_succ, List.length_append]
    omega
abbrev s_node_ways_of : Stmt := (top 38)
theorem sc_node_ways_of : FnScope ["begin", "laid", "ways", "pairs", "more", "here", "entries", "state", "below", "number"] ["begin", "laid", "ways"] (defScope s_node_ways_of) := ⟨rfl, rfl, rfl, by decide +kernel, rfl, by decide +kernel, by decide +kernel⟩
theorem bd_node_ways_of (T : Txt K mg) (C_added_up : Cal P w K mg base 1 "added_up" (toSp (gb P w K) (spO K soAdded))) : Body P w K mg base (1) ["begin", "laid", "ways", "pairs", "more", "here", "entries", "state", "below", "number"] "node_ways_of" (defScope s_node_ways_of) (defBody s_node_ways_of) (toSp (gb P w K) (spO K soNodeOf)) := by
  intro f cdv A outer s H vs Q E hr h
  have hu := hu_of hr
  have tk : Takes (cxOf (L2.CX P w) P w K mg base ["begin", "laid", "ways", "pairs", "more", "here", "entries", "state", "below", "number"] "node_ways_of" (defScope s_node_ways_of) f cdv A outer s H E) (WF E) := takes_of rfl rfl rfl rfl
  refine ⟨_, (pss_cons (ps_setO (i := 3) sc_node_ways_of.nd rfl (Or.inl rfl) (pe_lst pa_nil))
    (pss_cons (ps_for (passes_of rfl) rfl (pi_range1 rfl T.g_range (pa_cons (pe_callB call_lenK (by rfl) T.g_len (by decide +kernel) (pa_cons (pv 0) pa_nil)) pa_nil)) (pg_name (i := 4) sc_node_ways_of.nd rfl (Or.inr rfl)) (pss_one (ps_if (pt_cmpR op_eq (pe_op op_and (pv 4) (pv 1)) pe_int (nomark _)) (pss_cons (ps_set (i := 5) sc_node_ways_of.nd rfl (Or.inr rfl) (pe_op op_or (pv 4) (pv 1)))
    (Evl.pss_cut (ps_set (i := 6) sc_node_ways_of.nd rfl (Or.inl rfl) (pe_ifExp (pt_cmpR op_isN1 (pv 2) pe_non (nomark _)) (pe_lst (pa_cons (pe_tup (pa_cons (pe_ix ix_seq (pv 0) (pv 5) (fun _ _ => rfl)) (pa_cons pe_int (pa_cons pe_int pa_nil)))) pa_nil)) (pe_ix ix_seq (pv 2) (pe_ix ix_seq (pv 0) (pv 5) (fun _ _ => rfl)) (fun _ _ => rfl))))
    (pss_one (ps_expr (pe_bm PySem.F.plainAttrs_list PySem.F.slot_list_extend PySem.F.type_list_extend mt_extend (pv 3) (pa_cons (pe_lc (own := [("state", 7), ("below", 8), ("number", 9)]) (g := (gTup K 3 (gCons (gName 7) (gCons (gName 8) (gCons (gName 9) gNil))))) (by rfl) sc_node_ways_of.nd  (pi_list (pv 6)) (blkOk_by (own := [("state", 7), ("below", 8), ("number", 9)]) (N := ["begin", "laid", "ways", "pairs", "more", "here", "entries", "state", "below", "number"]) (sc := defScope s_node_ways_of) (by decide +kernel)) (fun _ _ _ _ _ => (pg_tup (n := 3) (by rfl) (pgs_cons (pg_name (i := 7) sc_node_ways_of.nd rfl (Or.inl rfl)) (pgs_cons (pg_name (i := 8) sc_node_ways_of.nd rfl (Or.inl rfl)) (pgs_cons (pg_name (i := 9) sc_node_ways_of.nd rfl (Or.inl rfl)) pgs_nil))))) (fun _ _ _ _ _ => (pts_one (pt_cmpR op_eq (pe_op op_and (pv 8) (pv 5)) pe_int (nomark _)))) (fun _ _ _ _ _ => (pe_tup (pa_cons (pe_tup (pa_cons (pv 7) (pa_cons (pe_op op_or (pv 8) (pv 4)) pa_nil))) (pa_cons (pv 9) pa_nil))))) pa_nil)))))) pss_nil)))
    (pss_one (ps_ret (pe_cal C_added_up hr (by omega) tk (pa_cons (pv 3) pa_nil)))))), ?_⟩
  try dsimp only [cxOf]
  refine d_startO h fun ds out hS c hx hM => ?_
  obtain ⟨begin, ways, rfl, ok, rfl⟩ := hS
  have hz : (1000000 : Nat) < sizeLine := by decide
  have l1 := ok.l1
  refine d_st (δ' := [.fz (rowD begin), .fz (.int 0), .fz (waysD ways), .no, .no, .no, .no, .no, .no, .no]) (by rfl) ?_
  walk_at "dw"
  intro a1
  walk_at "dw"
  refine d_for ?_
  walk_at "dw"
  refine ⟨_, rfl, by rw [List.length_map]; omega, by rw [List.length_map]; omega, ?_⟩
  refine ⟨fun i δ => ∃ s4 s5 s6 s7 s8 s9, Fzs s7 ∧ Fzs s8 ∧ Fzs s9 ∧ δ = [.fz (rowD begin), .fz (.int 0), .fz (waysD ways), .ow (.fl a1 ((nodeRow begin ways i).map pairD)), s4, s5, s6, s7, s8, s9],
    ⟨_, _, _, _, _, _, .inl rfl, .inl rfl, .inl rfl, rfl⟩, fun _ _ _ => trivial, ?_, ?_⟩
  · rintro i δ hi ⟨s4, s5, s6, s7, s8, s9, f7, f8, f9, rfl⟩
    rw [List.length_map, Int.toNat_natCast] at hi
    have eb : begin[i]? = some (begin.getD i 0) := getD_at hi
    have hb : begin.getD i 0 ∈ begin := List.mem_of_getElem? eb
    have esn := nodeRow_succ begin ways i
    have lle := nodeRow_le begin ways (show i + 1 ≤ begin.length by omega)
    have ln := ok.ln
    have eat := atI_map (f := D.int) eb
    generalize begin.getD i 0 = st at eb hb esn eat
    dsimp only
    rw [Int.zero_add]
    walk_at "dw"
    rw [and0]
    refine i_dec (fun _ => ?_) (fun z => absurd rfl z)
    walk_at "dw"
    rw [or0]
    walk_at "dw"
    refine d_cut (fun δ => δ = [.fz (rowD begin), .fz (.int 0), .fz (waysD ways), .ow (.fl a1 ((nodeRow begin ways i).map pairD)), .fz (.int i), .fz (.int i), .fz (tabD (entOf ways st)), s7, s8, s9]) ?_ ?_
    · cases ways with
      | none =>
        walk_at "dw"
        refine d_ix (i := (i : Nat)) (d := .int st) rfl rfl eat ?_
        walk_at "dw"
        intro a2
        walk_at "dw"
        rfl
      | some l =>
        obtain ⟨x1, x2⟩ := ok.ix l rfl st hb
        have el : l[st.toNat]? = some (l.getD st.toNat []) := getD_at (by omega)
        have eat2 := atI_map (f := tabD) el
        rw [show (st.toNat : Int) = st by omega] at eat2
        walk_at "dw"
        refine d_ix (i := (i : Nat)) (d := .int st) rfl rfl eat ?_
        refine d_ix (i := st) (d := tabD (l.getD st.toNat [])) rfl rfl eat2 ?_
        walk_at "dw"
        rfl
    rintro δ rfl
    have lo : (entOf ways st).length ≤ 1000000 := by
      cases ways with
      | none => exact (by decide : 1 ≤ 1000000)
      | some l =>
        obtain ⟨x1, x2⟩ := ok.ix l rfl st hb
        exact ok.le l rfl _ (List.mem_of_getElem? (getD_at (d := []) (by omega)))
    have epn : nodePart ways i st = ((entOf ways st).filter (nodeOk i)).map (nodeOf i) := rfl
    generalize entOf ways st = o at lo epn
    walk_at "dw"
    refine d_lcPF (only_tup (only_cons (only_name (by decide)) (only_cons (only_name (by decide)) (only_cons (only_name (by decide)) only_nil)))) ?_
    walk_at "dw"
    refine ⟨by rw [List.length_map]; omega, trivial, ?_, fun j => pairD (nodeOf i (o.getD j ((0, 0), 0))), fun j => nodeOk i (o.getD j ((0, 0), 0)), fun c3 j hj => ?_, fun a3 => ?_⟩
    · rcases f7 with rfl | ⟨_, rfl⟩ <;> rcases f8 with rfl | ⟨_, rfl⟩ <;> rcases f9 with rfl | ⟨_, rfl⟩ <;> rfl
    · rw [List.length_map] at hj
      have e3 : (o.map tripD).getD j .non = tripD (o.getD j ((0, 0), 0)) := by
        rw [List.getD_eq_getElem?_getD, List.getElem?_map, getD_at (d := ((0, 0), 0)) hj]; rfl
      dsimp only
      rw [e3]
      generalize o.getD j ((0, 0), 0) = q
      unfold tripD
      walk_at "dw"
      refine ⟨rfl, ?_⟩
      refine i_dec (fun z => ?_) (fun z => rfl)
      walk_at "dw"
      exact ⟨rfl, rfl⟩
    · rw [List.length_map, range_filter o ((0, 0), 0) (nodeOk i) fun q => pairD (nodeOf i q)]
      rw [show ((o.filter (nodeOk i)).map fun q => pairD (nodeOf i q)) = (nodePart ways i st).map pairD by rw [epn, List.map_map]; rfl]
      walk_at "dw"
      refine d_extend (i := 3) rfl rfl rfl ?_ ?_
      · rw [← List.length_append, ← List.map_append, ← esn, List.length_map]; omega
      rw [← List.map_append, ← esn]
      exact ⟨.fz (.int i), .fz (.int i), .fz (tabD o), s7, s8, s9, f7, f8, f9, rfl⟩
  · rintro δ ⟨s4, s5, s6, s7, s8, s9, f7, f8, f9, rfl⟩
    rw [List.length_map, Int.toNat_natCast]
    walk_at "dw"
    refine d_frzE (j := 3) rfl hM ?_
    refine d_callL hx ?_
    walk_at "dw"
    refine ⟨_, _, rfl, ⟨_, rfl, ok.ln, rfl⟩, fun a4 => ?_⟩
    exact ⟨a4, rfl⟩
theorem cd_node_ways_of (T : Txt K mg) : Cal P w K mg base 2 "node_ways_of" (toSp (gb P w K) (spO K soNodeOf)) := T.d_node_ways_of.cal sc_node_ways_of (len_spO fun ds out ⟨_, _, h, _⟩ => by rw [h]; rfl) (bd_node_ways_of T (cd_added_up T))
end

end K67

set_option maxHeartbeats 4000000
/-! layings: plain mathematics -/
namespace KW
/-- the sum over a list -/
def sm {α : Type} : List α → (α → Int) → Int
  | [], _ => 0
  | x :: r, f => f x + sm r f
section
variable {α β κ : Type}
theorem sm_app (f : α → Int) : ∀ a b : List α, sm (a ++ b) f = sm a f + sm b f
  | [], b => by simp [sm]
  | x :: a, b => by simp only [List.cons_append, sm, sm_app f a b]; omega
theorem sm_map (g : α → β) (f : β → Int) : ∀ l : List α, sm (l.map g) f = sm l fun x => f (g x)
  | [] => rfl
  | x :: r => by simp only [List.map_cons, sm, sm_map g f r]
theorem sm_congr {f g : α → Int} : ∀ {l : List α}, (∀ x ∈ l, f x = g x) → sm l f = sm l g
  | [], _ => rfl
  | x :: r, h => by
    simp only [sm]
    rw [h x List.mem_cons_self, sm_congr fun y hy => h y (List.mem_cons_of_mem _ hy)]
theorem sm_add (f g : α → Int) : ∀ l : List α, sm l (fun x => f x + g x) = sm l f + sm l g
  | [] => rfl
  | x :: r => by simp only [sm, sm_add f g r]; omega
theorem sm_zero : ∀ l : List α, sm l (fun _ => 0) = 0
  | [] => rfl
  | x :: r => by simp only [sm, sm_zero r]; omega
theorem sm_mul (c : Int) (f : α → Int) : ∀ l : List α, sm l (fun x => c * f x) = c * sm l f
  | [] => by simp [sm]
  | x :: r => by simp only [sm, sm_mul c f r]; rw [Int.mul_add]
theorem sm_flat (g : α → List β) (f : β → Int) : ∀ l : List α, sm (l.flatMap g) f = sm l fun x => sm (g x) f
  | [] => rfl
  | x :: r => by rw [List.flatMap_cons, sm_app, sm_flat g f r]; rfl
theorem sm_swap (f : α → β → Int) (m : List β) : ∀ l : List α, sm l (fun x => sm m fun y => f x y) = sm m fun y => sm l fun x => f x y
  | [] => by simp only [sm, sm_zero]
  | x :: r => by simp only [sm, sm_swap f m r, sm_add]
theorem sm_filter (p : α → Bool) (f : α → Int) : ∀ l : List α, sm (l.filter p) f = sm l fun x => if p x = true then f x else 0
  | [] => rfl
  | x :: r => by
    rw [List.filter_cons]
    cases h : p x <;> simp [sm, sm_filter p f r, h]
theorem sm_one : ∀ l : List α, sm l (fun _ => 1) = l.length
  | [] => rfl
  | x :: r => by simp only [sm, sm_one r, List.length_cons]; omega
theorem sm_le {f g : α → Int} : ∀ {l : List α}, (∀ x ∈ l, f x ≤ g x) → sm l f ≤ sm l g
  | [], _ => Int.le_refl _
  | x :: r, h => by
    simp only [sm]
    have h1 := h x List.mem_cons_self
    have h2 := sm_le (l := r) fun y hy => h y (List.mem_cons_of_mem _ hy)
    omega
theorem sm_mem {f : α → Int} : ∀ {l : List α} {x : α}, (∀ y ∈ l, 0 ≤ f y) → x ∈ l → f x ≤ sm l f
  | y :: r, x, h, m => by
    simp only [sm]
    have h1 := h y List.mem_cons_self
    have h2 : sm r (fun _ => 0) ≤ sm r f := sm_le fun z hz => h z (List.mem_cons_of_mem _ hz)
    rw [sm_zero] at h2
    rcases List.mem_cons.mp m with rfl | m
    · omega
    · have := sm_mem (l := r) (fun z hz => h z (List.mem_cons_of_mem _ hz)) m
      omega
theorem sm_pos {f : α → Int} : ∀ {l : List α}, 0 < sm l f → ∃ x ∈ l, 0 < f x
  | x :: r, h => by
    simp only [sm] at h
    by_cases q : 0 < f x
    · exact ⟨x, List.mem_cons_self, q⟩
    · obtain ⟨y, m, hy⟩ := sm_pos (l := r) (f := f) (by omega)
      exact ⟨y, List.mem_cons_of_mem _ m, hy⟩
/-! ### weighted lists -/
/-- l counts the values of f over Y -/
structure Rg (l : List (κ × Int)) (Y : List β) (f : β → κ) : Prop where
  ps : ∀ p ∈ l, 0 < p.2
  eq : ∀ G : κ → Int, sm l (fun p => G p.1 * p.2) = sm Y fun y => G (f y)
theorem Rg.total {l : List (κ × Int)} {Y : List β} {f : β → κ} (h : Rg l Y f) : sm l (·.2) = Y.length := by
  have := h.eq fun _ => 1
  rw [sm_one] at this
  rw [← this]
  exact sm_congr fun x _ => by simp
theorem Rg.len {l : List (κ × Int)} {Y : List β} {f : β → κ} (h : Rg l Y f) : l.length ≤ Y.length := by
  have h1 : sm l (fun _ => 1) ≤ sm l (·.2) := sm_le fun p hp => by have := h.ps p hp; omega
  rw [sm_one, h.total] at h1
  omega
theorem Rg.num {l : List (κ × Int)} {Y : List β} {f : β → κ} (h : Rg l Y f) {p : κ × Int} (hp : p ∈ l) : p.2 ≤ Y.length := by
  rw [← h.total]
  exact sm_mem (f := (·.2)) (fun q hq => by have := h.ps q hq; omega) hp
theorem Rg.key [DecidableEq κ] {l : List (κ × Int)} {Y : List β} {f : β → κ} (h : Rg l Y f) {p : κ × Int} (hp : p ∈ l) : ∃ y ∈ Y, f y = p.1 := by
  have e := h.eq fun k => if k = p.1 then 1 else 0
  have h1 : (1 : Int) * p.2 ≤ sm l fun q => (if q.1 = p.1 then (1 : Int) else 0) * q.2 := by
    have := sm_mem (l := l) (x := p) (f := fun q => (if q.1 = p.1 then (1 : Int) else 0) * q.2) (fun q hq => by
      have := h.ps q hq
      split <;> omega) hp
    simpa using this
  have h2 := h.ps p hp
  obtain ⟨y, hy, q⟩ := sm_pos (l := Y) (f := fun y => if f y = p.1 then (1 : Int) else 0) (by rw [← e]; omega)
  refine ⟨y, hy, ?_⟩
  by_cases z : f y = p.1
  · exact z
  · rw [if_neg z] at q; omega
theorem Rg.map {γ : Type} {l : List (κ × Int)} {Y : List β} {f : β → κ} (h : Rg l Y f) (g : κ → γ) : Rg (l.map fun p => (g p.1, p.2)) Y fun y => g (f y) := by
  refine ⟨fun p hp => ?_, fun G => ?_⟩
  · obtain ⟨q, hq, rfl⟩ := List.mem_map.mp hp
    exact h.ps q hq
  · rw [sm_map]
    exact h.eq fun k => G (g k)
theorem Rg.ones (Y : List β) (f : β → κ) : Rg (Y.map fun y => (f y, (1 : Int))) Y f := by
  refine ⟨fun p hp => ?_, fun G => ?_⟩
  · obtain ⟨q, _, rfl⟩ := List.mem_map.mp hp
    exact (by decide : (0 : Int) < 1)
  · rw [sm_map]
    exact sm_congr fun y _ => by simp
theorem Rg.congr {l : List (κ × Int)} {Y : List β} {f g : β → κ} (h : Rg l Y f) (e : ∀ y ∈ Y, f y = g y) : Rg l Y g :=
  ⟨h.ps, fun G => (h.eq G).trans (sm_congr fun y hy => by rw [e y hy])⟩
/-- two that count the same, no key twice in either, are one but for the sequence -/
theorem Rg.at_ [DecidableEq κ] : ∀ {l : List (κ × Int)}, (l.map (·.1)).Nodup → ∀ (k : κ) (n : Int), (∀ p ∈ l, 0 < p.2) → ((k, n) ∈ l ↔ 0 < n ∧ sm l (fun p => (if p.1 = k then (1 : Int) else 0) * p.2) = n)
  | [], _, k, n, _ => by simp [sm]; omega
  | p :: r, nd, k, n, ps => by
    rw [List.map_cons, List.nodup_cons] at nd
    have ih := Rg.at_ (l := r) nd.2 k n fun q hq => ps q (List.mem_cons_of_mem _ hq)
    have hp := ps p List.mem_cons_self
    simp only [sm, List.mem_cons]
    by_cases e : p.1 = k
    · have z : sm r (fun q => (if q.1 = k then (1 : Int) else 0) * q.2) = 0 := by
        refine (sm_congr fun q hq => ?_).trans (sm_zero r)
        have hne : ¬ q.1 = k := fun w => nd.1 (by rw [e, ← w]; exact List.mem_map_of_mem hq)
        rw [if_neg hne, Int.zero_mul]
      rw [z, if_pos e, Int.one_mul, Int.add_zero]
      constructor
      · rintro (h | h)
        · rw [← h] at hp ⊢
          exact ⟨hp, rfl⟩
        · exact absurd (by rw [e]; exact List.mem_map_of_mem h) nd.1
      · rintro ⟨h1, h2⟩
        left
        rw [← e, ← h2]
    · rw [if_neg e, Int.zero_mul, Int.zero_add, ← ih]
      constructor
      · rintro (h | h)
        · exact absurd (by rw [← h]) e
        · exact h
      · exact .inr
theorem Rg.perm [DecidableEq κ] {l m : List (κ × Int)} {Y : List β} {f : β → κ} (h : Rg l Y f) (k : Rg m Y f) (nl : (l.map (·.1)).Nodup) (nm : (m.map (·.1)).Nodup) : l.Perm m := by
  have nodup_of : ∀ {l : List (κ × Int)}, (l.map (·.1)).Nodup → l.Nodup := fun {l} hh => (List.pairwise_map.mp hh).imp fun {a b} w e => w (by rw [e])
  refine (List.perm_ext_iff_of_nodup (nodup_of nl) (nodup_of nm)).mpr fun ⟨x, n⟩ => ?_
  rw [Rg.at_ nl x n h.ps, Rg.at_ nm x n k.ps, h.eq fun y => if y = x then 1 else 0, k.eq fun y => if y = x then 1 else 0]
end
/-! ### layings -/
/-- each name at one of the nodes, or nowhere -/
def lays (X : List Nat) : Nat → List (List (Option Nat))
  | 0 => [[]]
  | m + 1 => (lays X m).flatMap fun p => (X.map some ++ [none]).map fun x => p ++ [x]
theorem lays_len (X : List Nat) : ∀ m, (lays X m).length = (X.length + 1) ^ m
  | 0 => rfl
  | m + 1 => by
    have key : ∀ l : List (List (Option Nat)), (l.flatMap fun p => (X.map some ++ [none]).map fun x => p ++ [x]).length = l.length * (X.length + 1) := by
      intro l
      induction l with
      | nil => simp
      | cons p r ih =>
        rw [List.flatMap_cons, List.length_append, ih, List.length_cons, List.length_map, List.length_append, List.length_map, List.length_singleton, Nat.succ_mul, Nat.add_comm]
    rw [lays, key, lays_len X m, Nat.pow_succ]
theorem lays_mem {X : List Nat} : ∀ {m : Nat} {p : List (Option Nat)}, p ∈ lays X m → p.length = m ∧ ∀ x v, x ∈ p → x = some v → v ∈ X
  | 0, p, h => by
    simp only [lays, List.mem_singleton] at h
    subst h
    exact ⟨rfl, fun x v hx => nomatch hx⟩
  | m + 1, p, h => by
    simp only [lays, List.mem_flatMap, List.mem_map] at h
    obtain ⟨q, hq, x, hx, rfl⟩ := h
    obtain ⟨h1, h2⟩ := lays_mem hq
    refine ⟨by rw [List.length_append, h1]; rfl, fun y v hy e => ?_⟩
    rcases List.mem_append.mp hy with z | z
    · exact h2 y v z e
    · rw [List.mem_singleton.mp z] at e
      subst e
      simpa using hx
theorem lays_sm (X : List Nat) (m : Nat) (F : List (Option Nat) → Int) : sm (lays X (m + 1)) F = sm (lays X m) fun p => sm X (fun v => F (p ++ [some v])) + F (p ++ [none]) := by
  rw [lays, sm_flat]
  refine sm_congr fun p _ => ?_
  rw [sm_map, sm_app, sm_map]
  simp only [sm, Int.add_zero]
theorem lays_map (g : Nat → Nat) (X : List Nat) : ∀ m, lays (X.map g) m = (lays X m).map fun p => p.map (Option.map g)
  | 0 => rfl
  | m + 1 => by
    have e1 : ((X.map g).map some ++ [none]) = (X.map some ++ [none]).map (Option.map g) := by
      rw [List.map_append, List.map_map, List.map_map]; rfl
    rw [lays, lays_map g X m, e1, lays]
    generalize X.map some ++ [none] = Y
    rw [List.flatMap_map, List.map_flatMap]
    refine congrArg (fun h => (lays X m).flatMap h) (funext fun p => ?_)
    rw [List.map_map, List.map_map]
    refine List.map_congr_left fun x _ => ?_
    simp only [Function.comp, List.map_append, List.map_cons, List.map_nil]
/-- the bits at which a test holds -/
def bs (t : Option Nat → Bool) : List (Option Nat) → Nat
  | [] => 0
  | x :: r => (t x).toNat + 2 * bs t r
theorem bs_bit (t : Option Nat → Bool) : ∀ (p : List (Option Nat)) (i : Nat), (bs t p).testBit i = ((p[i]?).map t).getD false
  | [], i => by simp [bs]
  | x :: r, 0 => by
    simp only [bs, List.length_cons, Nat.zero_lt_succ, List.getElem?_eq_getElem, List.getElem_cons_zero, Option.map_some, Option.getD_some, Nat.testBit_zero]
    cases t x <;> simp <;> omega
  | x :: r, i + 1 => by
    rw [Nat.testBit_succ, show bs t (x :: r) / 2 = bs t r by simp only [bs]; cases t x <;> simp <;> omega, bs_bit t r i]
    simp
theorem bs_lt (t : Option Nat → Bool) : ∀ p : List (Option Nat), bs t p < 2 ^ p.length
  | [] => by simp [bs]
  | x :: r => by
    have := bs_lt t r
    simp only [bs, List.length_cons, Nat.pow_succ]
    cases t x <;> simp <;> omega
theorem bs_snoc (t : Option Nat → Bool) (x : Option Nat) : ∀ p : List (Option Nat), bs t (p ++ [x]) = bs t p + if t x = true then 2 ^ p.length else 0
  | [] => by simp [bs]; cases t x <;> rfl
  | y :: r => by
    simp only [List.cons_append, bs, bs_snoc t x r, List.length_cons, Nat.pow_succ]
    split <;> omega
def mask (p : List (Option Nat)) : Nat := bs Option.isSome p
def lay (p : List (Option Nat)) (v : Nat) : Nat := bs (fun o => o == some v) p
theorem mask_lt (p : List (Option Nat)) : mask p < 2 ^ p.length := bs_lt _ p
theorem lay_lt (p : List (Option Nat)) (v : Nat) : lay p v < 2 ^ p.length := bs_lt _ p
/-- the part at some nodes -/
def cutL (q : Nat → Bool) (p : List (Option Nat)) : List (Option Nat) := p.map (Option.filter q)
theorem cutL_snoc (q : Nat → Bool) (p : List (Option Nat)) (x : Option Nat) : cutL q (p ++ [x]) = cutL q p ++ [x.filter q] := by
  simp [cutL]
theorem mask_snoc (p : List (Option Nat)) (x : Option Nat) : mask (p ++ [x]) = mask p + if x.isSome = true then 2 ^ p.length else 0 := bs_snoc _ _ _
theorem and_snoc {a b : List (Option Nat)} (h : a.length = b.length) (x y : Option Nat) : (mask (a ++ [x]) &&& mask (b ++ [y])) = 0 ↔ (mask a &&& mask b) = 0 ∧ (x.isSome && y.isSome) = false := by
  have key : ∀ (u v : List (Option Nat)), (mask u &&& mask v) = 0 ↔ ∀ i : Nat, ((u[i]?).map Option.isSome).getD false = false ∨ ((v[i]?).map Option.isSome).getD false = false := by
    intro u v
    constructor
    · intro e i
      have := congrArg (fun n => n.testBit i) e
      simp only [Nat.testBit_and, mask, bs_bit, Nat.zero_testBit, Bool.and_eq_false_iff] at this
      exact this
    · intro e
      refine Nat.eq_of_testBit_eq fun i => ?_
      simp only [Nat.testBit_and, mask, bs_bit, Nat.zero_testBit, Bool.and_eq_false_iff]
      exact e i
  rw [key, key]
  constructor
  · intro e
    refine ⟨fun i => ?_, ?_⟩
    · by_cases hi : i < a.length
      · have := e i
        rw [List.getElem?_append_left hi, List.getElem?_append_left (by omega)] at this
        exact this
      · left
        rw [List.getElem?_eq_none (by omega)]
        rfl
    · have := e a.length
      rw [List.getElem?_append_right (Nat.le_refl _), List.getElem?_append_right (by omega), h, Nat.sub_self] at this
      cases x <;> cases y <;> simp at this ⊢
  · rintro ⟨e, f⟩ i
    rcases Nat.lt_trichotomy i a.length with hi | hi | hi
    · have := e i
      rw [List.getElem?_append_left hi, List.getElem?_append_left (by omega)]
      exact this
    · rw [List.getElem?_append_right (by omega), List.getElem?_append_right (by omega), show i - a.length = 0 by omega, show i - b.length = 0 by omega]
      cases x <;> cases y <;> simp at f ⊢
    · left
      rw [List.getElem?_eq_none (by rw [List.length_append, List.length_singleton]; omega)]
      rfl
/-- a laying of two parts is one of each, no name in both -/
theorem split {A B : List Nat} {q : Nat → Bool} (hA : ∀ x ∈ A, q x = true) (hB : ∀ x ∈ B, q x = false) : ∀ (m : Nat) (F : List (Option Nat) → List (Option Nat) → Int),
    sm (lays (A ++ B) m) (fun p => F (cutL q p) (cutL (fun x => !q x) p)) = sm (lays A m) fun a => sm (lays B m) fun b => if (mask a &&& mask b) = 0 then F a b else 0
  | 0, F => by simp [lays, sm, cutL, mask, bs]
  | m + 1, F => by
    rw [lays_sm]
    have e1 : ∀ p, (sm (A ++ B) (fun v => F (cutL q (p ++ [some v])) (cutL (fun x => !q x) (p ++ [some v]))) + F (cutL q (p ++ [none])) (cutL (fun x => !q x) (p ++ [none]))) =
        (fun a b => sm A (fun v => F (a ++ [some v]) (b ++ [none])) + sm B (fun v => F (a ++ [none]) (b ++ [some v])) + F (a ++ [none]) (b ++ [none])) (cutL q p) (cutL (fun x => !q x) p) := by
      intro p
      simp only [cutL_snoc]
      rw [sm_app]
      have eA : sm A (fun v => F (cutL q p ++ [(some v).filter q]) (cutL (fun x => !q x) p ++ [(some v).filter fun x => !q x])) = sm A (fun v => F (cutL q p ++ [some v]) (cutL (fun x => !q x) p ++ [none])) :=
        sm_congr fun v hv => by simp [Option.filter, hA v hv]
      have eB : sm B (fun v => F (cutL q p ++ [(some v).filter q]) (cutL (fun x => !q x) p ++ [(some v).filter fun x => !q x])) = sm B (fun v => F (cutL q p ++ [none]) (cutL (fun x => !q x) p ++ [some v])) :=
        sm_congr fun v hv => by simp [Option.filter, hB v hv]
      rw [eA, eB]
      simp [Option.filter]
    rw [sm_congr fun p _ => e1 p, split hA hB m fun a b => sm A (fun v => F (a ++ [some v]) (b ++ [none])) + sm B (fun v => F (a ++ [none]) (b ++ [some v])) + F (a ++ [none]) (b ++ [none]), lays_sm]
    refine sm_congr fun a ha => ?_
    have la := (lays_mem ha).1
    -- the right side, by the last name of b
    have e2 : ∀ x : Option Nat, sm (lays B (m + 1)) (fun b => if (mask (a ++ [x]) &&& mask b) = 0 then F (a ++ [x]) b else 0) =
        sm (lays B m) fun b => if (mask a &&& mask b) = 0 then ((if x.isSome = true then 0 else sm B fun w => F (a ++ [x]) (b ++ [some w])) + F (a ++ [x]) (b ++ [none])) else 0 := by
      intro x
      rw [lays_sm]
      refine sm_congr fun b hb => ?_
      have lb := (lays_mem hb).1
      have h1 : ∀ y : Option Nat, ((mask (a ++ [x]) &&& mask (b ++ [y])) = 0) = ((mask a &&& mask b) = 0 ∧ (x.isSome && y.isSome) = false) := fun y => propext (and_snoc (by rw [la, lb]) x y)
      simp only [h1]
      by_cases z : (mask a &&& mask b) = 0
      · cases x <;> simp [z, sm_zero]
      · simp [z, sm_zero]
    rw [e2, show (fun v => sm (lays B (m + 1)) fun b => if (mask (a ++ [some v]) &&& mask b) = 0 then F (a ++ [some v]) b else 0) = fun v => sm (lays B m) fun b => if (mask a &&& mask b) = 0 then ((if (some v).isSome = true then 0 else sm B fun w => F (a ++ [some v]) (b ++ [some w])) + F (a ++ [some v]) (b ++ [none])) else 0 from funext fun v => e2 (some v)]
    rw [sm_swap, ← sm_add]
    refine sm_congr fun b _ => ?_
    by_cases z : (mask a &&& mask b) = 0
    · simp [z]
      omega
    · simp [z, sm_zero]
/-- of one node: the sets -/
theorem one_node (v : Nat) : ∀ (m : Nat) (H : Nat → Int), sm (lays [v] m) (fun p => H (mask p)) = sm (List.range (2 ^ m)) H
  | 0, H => by simp [lays, sm, mask, bs]
  | m + 1, H => by
    have e : ∀ p ∈ lays [v] m, (sm [v] (fun w => H (mask (p ++ [some w]))) + H (mask (p ++ [none]))) = H (2 ^ m + mask p) + H (mask p) := fun p hp => by
      have l := (lays_mem hp).1
      simp only [sm, mask_snoc, l]
      simp
      rw [Nat.add_comm]
    rw [lays_sm, sm_congr e, one_node v m fun n => H (2 ^ m + n) + H n, sm_add, Nat.pow_succ, Nat.mul_two, List.range_add, sm_app, sm_map]
    omega
theorem lay_one {v m : Nat} {p : List (Option Nat)} (h : p ∈ lays [v] m) : lay p v = mask p := by
  have h2 := (lays_mem h).2
  unfold lay mask
  clear h
  induction p with
  | nil => rfl
  | cons x r ih =>
    simp only [bs]
    rw [ih fun y w hy e => h2 y w (List.mem_cons_of_mem _ hy) e]
    have e : (x == some v) = x.isSome := by
      cases x with
      | none => rfl
      | some w =>
        have := h2 (some w) w List.mem_cons_self rfl
        simp only [List.mem_singleton] at this
        subst this
        simp
    rw [e]
theorem lay_cut {q : Nat → Bool} {v : Nat} (h : q v = true) (p : List (Option Nat)) : lay (cutL q p) v = lay p v := by
  unfold lay cutL
  induction p with
  | nil => rfl
  | cons x r ih =>
    simp only [List.map_cons, bs, ih]
    have : (Option.filter q x == some v) = (x == some v) := by
      cases x with
      | none => rfl
      | some w =>
        by_cases e : w = v
        · subst e; simp [Option.filter, h]
        · by_cases z : q w = true <;> simp [Option.filter, z, e]
    rw [this]
theorem mask_cut (q : Nat → Bool) (p : List (Option Nat)) : (mask (cutL q p) ||| mask (cutL (fun x => !q x) p)) = mask p := by
  refine Nat.eq_of_testBit_eq fun i => ?_
  simp only [Nat.testBit_or, mask, bs_bit, cutL, List.getElem?_map]
  cases p[i]? with
  | none => rfl
  | some x =>
    cases x with
    | none => rfl
    | some w => by_cases z : q w = true <;> simp [Option.filter, z]
theorem mask_cut0 (q : Nat → Bool) (p : List (Option Nat)) : (mask (cutL q p) &&& mask (cutL (fun x => !q x) p)) = 0 := by
  refine Nat.eq_of_testBit_eq fun i => ?_
  simp only [Nat.testBit_and, mask, bs_bit, cutL, List.getElem?_map, Nat.zero_testBit]
  cases p[i]? with
  | none => rfl
  | some x =>
    cases x with
    | none => rfl
    | some w => by_cases z : q w = true <;> simp [Option.filter, z]
theorem lay_nil {m v : Nat} {p : List (Option Nat)} (h : p ∈ lays [] m) : mask p = 0 := by
  have h2 := (lays_mem h).2
  clear h
  unfold mask
  induction p with
  | nil => rfl
  | cons x r ih =>
    simp only [bs, ih fun y w hy e => h2 y w (List.mem_cons_of_mem _ hy) e]
    cases x with
    | none => rfl
    | some w => exact absurd (h2 (some w) w List.mem_cons_self rfl) (List.not_mem_nil)
/-! ### states -/
section
variable (stp : Int → Int → Int) (beg : Nat → Nat → Int) (ch : Nat → List Nat)
def stF (ly : Nat → Nat) : Nat → Nat → Int
  | 0, _ => 0
  | f + 1, v => (ch v).foldl (fun s c => stp s (stF ly f c)) (beg v (ly v))
end
/-- [a, b) are the pieces of siblings -/
def Sib (en : Nat → Nat) : Nat → List Nat → Nat → Prop
  | a, [], b => a = b
  | a, c :: r, b => c = a ∧ a < en a ∧ Sib en (en a) r b
theorem Sib.le {en : Nat → Nat} : ∀ {r : List Nat} {a b : Nat}, Sib en a r b → a ≤ b
  | [], a, b, h => Nat.le_of_eq h
  | c :: r, a, b, ⟨_, h1, h2⟩ => by have := Sib.le h2; omega
theorem Sib.mem {en : Nat → Nat} : ∀ {r : List Nat} {a b c : Nat}, Sib en a r b → c ∈ r → a ≤ c ∧ c < en c ∧ en c ≤ b
  | x :: r, a, b, c, ⟨h0, h1, h2⟩, m => by
    rcases List.mem_cons.mp m with rfl | m
    · subst h0
      exact ⟨Nat.le_refl _, h1, h2.le⟩
    · obtain ⟨k1, k2, k3⟩ := Sib.mem h2 m
      exact ⟨by omega, k2, k3⟩
/-- a forest of n nodes -/
structure Frs (n : Nat) (ch : Nat → List Nat) (en : Nat → Nat) : Prop where
  sib : ∀ v, v < n → Sib en (v + 1) (ch v) (en v)
  up : ∀ v, v < n → en v ≤ n
section
variable {stp : Int → Int → Int} {beg : Nat → Nat → Int} {ch : Nat → List Nat} {en : Nat → Nat} {n : Nat}
theorem foldl_congr {f g : Int → Nat → Int} : ∀ {l : List Nat} {s : Int}, (∀ s, ∀ c ∈ l, f s c = g s c) → l.foldl f s = l.foldl g s
  | [], _, _ => rfl
  | c :: r, s, h => by
    rw [List.foldl_cons, List.foldl_cons, h s c List.mem_cons_self]
    exact foldl_congr fun s d hd => h s d (List.mem_cons_of_mem _ hd)
/-- enough fuel is enough, and only the piece counts -/
theorem stF_eq (F : Frs n ch en) {l1 l2 : Nat → Nat} : ∀ (f g v : Nat), v < n → n - v ≤ f → n - v ≤ g → (∀ w, v ≤ w → w < en v → l1 w = l2 w) → stF stp beg ch l1 f v = stF stp beg ch l2 g v
  | 0, g, v, hv, hf, _, _ => by omega
  | f + 1, 0, v, hv, _, hg, _ => by omega
  | f + 1, g + 1, v, hv, hf, hg, h => by
    have hs := F.sib v hv
    have hu := F.up v hv
    have hle := hs.le
    simp only [stF]
    rw [h v (Nat.le_refl _) (by omega)]
    refine foldl_congr fun s c hc => ?_
    obtain ⟨k1, k2, k3⟩ := hs.mem hc
    rw [stF_eq F f g c (by omega) (by omega) (by omega) fun w h1 h2 => h w (by omega) (by omega)]
variable (stp beg ch n)
def st (ly : Nat → Nat) (v : Nat) : Int := stF stp beg ch ly n v
def run (ly : Nat → Nat) (q : Int) (r : List Nat) : Int := r.foldl (fun s c => stp s (st stp beg ch n ly c)) q
variable {stp beg ch n}
theorem st_eq (F : Frs n ch en) (ly : Nat → Nat) {v : Nat} (hv : v < n) : st stp beg ch n ly v = run stp beg ch n ly (beg v (ly v)) (ch v) := by
  unfold st run
  rw [stF_eq F n (n + 1) v hv (by omega) (by omega) fun _ _ _ => rfl]
  rfl
theorem st_loc (F : Frs n ch en) {l1 l2 : Nat → Nat} {v : Nat} (hv : v < n) (h : ∀ w, v ≤ w → w < en v → l1 w = l2 w) : st stp beg ch n l1 v = st stp beg ch n l2 v := stF_eq F n n v hv (by omega) (by omega) h
theorem run_loc (F : Frs n ch en) {l1 l2 : Nat → Nat} : ∀ {r : List Nat} {a b : Nat} {q : Int}, Sib en a r b → b ≤ n → (∀ w, a ≤ w → w < b → l1 w = l2 w) → run stp beg ch n l1 q r = run stp beg ch n l2 q r := fun {r a b q} hs hb h =>
  foldl_congr fun s c hc => by
    obtain ⟨k1, k2, k3⟩ := hs.mem hc
    rw [st_loc F (by omega) fun w h1 h2 => h w (by omega) (by omega)]
end
end KW

set_option maxHeartbeats 4000000
namespace K67
open PySem PySem.Spec PyProof.Rows L2 KB KM
open KD hiding Dp
section
open KW
/-! ### tables count layings -/
section
variable {κ β : Type} [DecidableEq κ]
theorem sm_putA (G : κ → Int) : ∀ (m : List (κ × Int)) (k : κ) (v : Int), sm (putA m k v) (fun p => G p.1 * p.2) = sm m (fun p => G p.1 * p.2) + G k * (v - (valA m k).getD 0)
  | [], k, v => by simp [putA, valA, sm]
  | p :: r, k, v => by
    rw [putA, valA]
    by_cases e : p.1 = k
    · rw [if_pos e, if_pos e]
      simp only [sm, Option.getD_some, e, Int.mul_sub]
      omega
    · rw [if_neg e, if_neg e]
      simp only [sm, sm_putA G r k v]
      omega
theorem valA_pos : ∀ (m : List (κ × Int)) (k : κ), (∀ p ∈ m, 0 < p.2) → 0 ≤ (valA m k).getD 0
  | [], _, _ => Int.le_refl 0
  | p :: r, k, h => by
    rw [valA]
    split
    · have := h p List.mem_cons_self
      simp only [Option.getD_some]
      omega
    · exact valA_pos r k fun q hq => h q (List.mem_cons_of_mem _ hq)
theorem putA_pos : ∀ (m : List (κ × Int)) (k : κ) (v : Int), (∀ p ∈ m, 0 < p.2) → 0 < v → ∀ p ∈ putA m k v, 0 < p.2
  | [], k, v, _, hv => fun p hp => by rw [putA, List.mem_singleton] at hp; subst hp; exact hv
  | q :: r, k, v, h, hv => fun p hp => by
    rw [putA] at hp
    split at hp
    · rcases List.mem_cons.mp hp with rfl | hp
      · exact hv
      · exact h p (List.mem_cons_of_mem _ hp)
    · rcases List.mem_cons.mp hp with rfl | hp
      · exact h _ List.mem_cons_self
      · exact putA_pos r k v (fun x hx => h x (List.mem_cons_of_mem _ hx)) hv p hp
def addSG (m : List (κ × Int)) (p : κ × Int) : List (κ × Int) := putA m p.1 ((valA m p.1).getD 0 + p.2)
def addedG (l : List (κ × Int)) : List (κ × Int) := l.foldl addSG []
theorem addedG_snoc (l : List (κ × Int)) (p : κ × Int) : addedG (l ++ [p]) = addSG (addedG l) p := by rw [addedG, List.foldl_append]; rfl
theorem addSG_all : ∀ (l m : List (κ × Int)), (∀ p ∈ m, 0 < p.2) → (∀ p ∈ l, 0 < p.2) → (m.map (·.1)).Nodup →
    ((l.foldl addSG m).map (·.1)).Nodup ∧ (∀ p ∈ l.foldl addSG m, 0 < p.2) ∧ ∀ G : κ → Int, sm (l.foldl addSG m) (fun p => G p.1 * p.2) = sm m (fun p => G p.1 * p.2) + sm l (fun p => G p.1 * p.2)
  | [], m, h1, _, nd => ⟨nd, h1, fun G => by simp [sm]⟩
  | p :: r, m, h1, h2, nd => by
    have hv : 0 < (valA m p.1).getD 0 + p.2 := by have := valA_pos m p.1 h1; have := h2 p List.mem_cons_self; omega
    obtain ⟨a, b, c⟩ := addSG_all r (addSG m p) (putA_pos m p.1 _ h1 hv) (fun q hq => h2 q (List.mem_cons_of_mem _ hq)) (putA_keys _ _ _ nd).1
    refine ⟨a, b, fun G => ?_⟩
    rw [List.foldl_cons, c G, addSG, sm_putA]
    simp only [sm, show (valA m p.1).getD 0 + p.2 - (valA m p.1).getD 0 = p.2 by omega]
    omega
theorem rg_added {l : List (κ × Int)} {Y : List β} {f : β → κ} (h : Rg l Y f) : Rg (addedG l) Y f ∧ ((addedG l).map (·.1)).Nodup := by
  obtain ⟨a, b, c⟩ := addSG_all l [] (fun p hp => nomatch hp) h.ps List.nodup_nil
  refine ⟨⟨b, fun G => ?_⟩, a⟩
  rw [addedG, c G, ← h.eq G]
  simp [sm]
theorem addedG_len (l : List (κ × Int)) : (addedG l).length ≤ l.length := by
  have key : ∀ (l m : List (κ × Int)), (l.foldl addSG m).length ≤ m.length + l.length := by
    intro l
    induction l with
    | nil => intro m; exact Nat.le_refl _
    | cons p r ih =>
      intro m
      have h1 := ih (addSG m p)
      have := putA_len m p.1 ((valA m p.1).getD 0 + p.2)
      have e : (addSG m p).length ≤ m.length + 1 := this
      rw [List.foldl_cons, List.length_cons]
      omega
  simpa [addedG] using key l []
theorem addedG_nd (l : List (κ × Int)) : ((addedG l).map (·.1)).Nodup := by
  have key : ∀ (l m : List (κ × Int)), (m.map (·.1)).Nodup → ((l.foldl addSG m).map (·.1)).Nodup := by
    intro l
    induction l with
    | nil => intro m h; exact h
    | cons p r ih => intro m h; exact ih _ (putA_keys _ _ _ h).1
  exact key l [] List.nodup_nil
end
theorem bitAnd_nat (x y : Nat) : Builtin.bitAnd (x : Int) (y : Int) = ((x &&& y : Nat) : Int) := by
  rw [bitAnd_pp (Int.natCast_nonneg x) (Int.natCast_nonneg y)]
  simp
theorem bitOr_nat (x y : Nat) : Builtin.bitOr (x : Int) (y : Int) = ((x ||| y : Nat) : Int) := by
  rw [bitOr_nn (Int.natCast_nonneg x) (Int.natCast_nonneg y)]
  simp
/-- two rows side by side -/
theorem rg_both {A B : List Nat} {q : Nat → Bool} (hA : ∀ x ∈ A, q x = true) (hB : ∀ x ∈ B, q x = false) {m : Nat} {t : Tab} {other : List Tab} {f1 : List (Option Nat) → Int} {f2 : Int → List (Option Nat) → Int}
    (h1 : Rg t (lays A m) fun a => (f1 a, (mask a : Int))) (h2 : ∀ a ∈ lays A m, Rg (other.getD (f1 a).toNat []) (lays B m) fun b => (f2 (f1 a) b, (mask b : Int))) :
    Rg (bothRow other t) (lays (A ++ B) m) fun p => (f2 (f1 (cutL q p)) (cutL (fun x => !q x) p), (mask p : Int)) := by
  refine ⟨fun r hr => ?_, fun G => ?_⟩
  · simp only [bothRow, List.mem_flatMap, bothOf, List.mem_map, List.mem_filter] at hr
    obtain ⟨p, hp, s, ⟨hs, _⟩, rfl⟩ := hr
    obtain ⟨a, ha, e⟩ := h1.key hp
    have k1 := h1.ps p hp
    have k2 := (h2 a ha).ps s (by rw [← e] at hs; exact hs)
    exact Int.mul_pos k1 k2
  · rw [bothRow, sm_flat]
    have e1 : ∀ p ∈ t, sm (bothOf other p) (fun r => G r.1 * r.2) = (fun k : Int × Int => sm (lays B m) fun b => if Builtin.bitAnd k.2 (mask b : Int) = 0 then G (f2 k.1 b, Builtin.bitOr k.2 (mask b : Int)) else 0) p.1 * p.2 := by
      intro p hp
      obtain ⟨a, ha, e⟩ := h1.key hp
      have k2 := (h2 a ha).eq fun k => if Builtin.bitAnd p.1.2 k.2 = 0 then G (k.1, Builtin.bitOr p.1.2 k.2) else 0
      have ep : p.1.1 = f1 a := by rw [← e]
      rw [bothOf, sm_map, sm_filter]
      dsimp only
      rw [ep, ← k2, Int.mul_comm, ← sm_mul]
      refine sm_congr fun s _ => ?_
      simp only [pairOk, pairOf, decide_eq_true_eq]
      split
      · rw [Int.mul_left_comm]
      · simp
    rw [sm_congr e1, h1.eq fun k => sm (lays B m) fun b => if Builtin.bitAnd k.2 (mask b : Int) = 0 then G (f2 k.1 b, Builtin.bitOr k.2 (mask b : Int)) else 0]
    have e2 := split hA hB m fun a b => G (f2 (f1 a) b, ((mask a ||| mask b : Nat) : Int))
    have e3 : sm (lays (A ++ B) m) (fun y => G (f2 (f1 (cutL q y)) (cutL (fun x => !q x) y), (mask y : Int))) = sm (lays (A ++ B) m) fun p => G (f2 (f1 (cutL q p)) (cutL (fun x => !q x) p), ((mask (cutL q p) ||| mask (cutL (fun x => !q x) p) : Nat) : Int)) :=
      sm_congr fun p _ => by rw [mask_cut]
    rw [e3, e2]
    refine sm_congr fun a _ => sm_congr fun b _ => ?_
    (try dsimp only)
    rw [bitAnd_nat, bitOr_nat]
    by_cases z : (mask a &&& mask b) = 0
    · rw [if_pos z, if_pos (by rw [z]; rfl)]
    · rw [if_neg z, if_neg (by omega)]
theorem mask_cutOne {q : Nat → Bool} {v : Nat} (hv : q v = true) : ∀ {p : List (Option Nat)}, (∀ x w, x ∈ p → x = some w → q w = true → w = v) → mask (cutL q p) = lay p v
  | [], _ => rfl
  | x :: r, h => by
    have ih := mask_cutOne hv (p := r) fun y w hy => h y w (List.mem_cons_of_mem _ hy)
    unfold mask cutL lay at ih
    simp only [mask, cutL, lay, List.map_cons, bs, ih]
    have e : (Option.filter q x).isSome = (x == some v) := by
      cases x with
      | none => rfl
      | some w =>
        by_cases z : q w = true
        · have := h (some w) w List.mem_cons_self rfl z
          subst this
          simp [Option.filter, z]
        · have : w ≠ v := fun e => z (by rw [e]; exact hv)
          simp [Option.filter, z, this]
    rw [e]
/-- a node ahead of its row -/
theorem rg_node {C : List Nat} {v m : Nat} {q : Nat → Bool} (hq : q v = true) (hC : ∀ x ∈ C, q x = false) {begin : List Int} {ways : Option (List Tab)} {g : Int → List (Option Nat) → Int} (lb : begin.length = 2 ^ m)
    (h : ∀ s ∈ begin, Rg (entOf ways s) (lays C m) fun c => (g s c, (mask c : Int))) :
    Rg (nodeRow begin ways begin.length) (lays (v :: C) m) fun p => (g (begin.getD (lay p v) 0) (cutL (fun x => !q x) p), (mask p : Int)) := by
  have hmem : ∀ x, x < 2 ^ m → begin.getD x 0 ∈ begin := fun x hx => List.mem_of_getElem? (getD_at (d := (0 : Int)) (by omega))
  refine ⟨fun r hr => ?_, fun G => ?_⟩
  · simp only [nodeRow, List.mem_flatMap, nodePart, List.mem_map, List.mem_filter, List.mem_range] at hr
    obtain ⟨x, hx, s, ⟨hs, _⟩, rfl⟩ := hr
    exact (h _ (hmem x (by omega))).ps s hs
  · rw [nodeRow, sm_flat, lb]
    have e1 : ∀ x ∈ List.range (2 ^ m), sm (nodePart ways x (begin.getD x 0)) (fun r => G r.1 * r.2) = (fun x : Nat => sm (lays C m) fun c => if (x &&& mask c) = 0 then G (g (begin.getD x 0) c, ((x ||| mask c : Nat) : Int)) else 0) x := by
      intro x hx
      have k2 := (h _ (hmem x (List.mem_range.mp hx))).eq fun k => if Builtin.bitAnd k.2 (x : Int) = 0 then G (k.1, Builtin.bitOr k.2 (x : Int)) else 0
      rw [nodePart, sm_map, sm_filter]
      have e2 : sm (entOf ways (begin.getD x 0)) (fun s => if nodeOk x s = true then G (nodeOf x s).1 * (nodeOf x s).2 else 0) = sm (entOf ways (begin.getD x 0)) fun s => (if Builtin.bitAnd s.1.2 (x : Int) = 0 then G (s.1.1, Builtin.bitOr s.1.2 (x : Int)) else 0) * s.2 := by
        refine sm_congr fun s _ => ?_
        simp only [nodeOk, nodeOf, decide_eq_true_eq]
        split <;> simp
      rw [e2, k2]
      refine sm_congr fun c _ => ?_
      dsimp only
      rw [bitAnd_nat, bitOr_nat, Nat.and_comm, Nat.or_comm]
      by_cases z : (x &&& mask c) = 0
      · rw [if_pos z, if_pos (by rw [z]; rfl)]
      · rw [if_neg z, if_neg (by omega)]
    rw [sm_congr e1, ← one_node v m, ← split (A := [v]) (B := C) (q := q) (by simpa using hq) hC m fun a b => G (g (begin.getD (mask a) 0) b, ((mask a ||| mask b : Nat) : Int))]
    refine sm_congr fun p hp => ?_
    (try dsimp only)
    rw [mask_cut, mask_cutOne hq]
    intro x w hx e hw
    have := (lays_mem hp).2 x w hx e
    rcases List.mem_append.mp (show w ∈ [v] ++ C from this) with z | z
    · simpa using z
    · rw [hC w z] at hw; cases hw
/-! ### the machine -/
structure MOk (S B : List (List Int)) (m : Nat) : Prop where
  s1 : 1 ≤ S.length
  s2 : S.length ≤ 300
  sr : ∀ r ∈ S, r.length = S.length ∧ ∀ x ∈ r, 0 ≤ x ∧ x < S.length
  bl : B.length = 8
  br : ∀ r ∈ B, r.length = 2 ^ m ∧ ∀ x ∈ r, 0 ≤ x ∧ x < S.length
  hm : m ≤ 5
def stpD (S : List (List Int)) (q r : Int) : Int := (S.getD q.toNat []).getD r.toNat 0
def begD (B : List (List Int)) (mk : Nat → Nat) (v l : Nat) : Int := (B.getD (mk v) []).getD l 0
theorem getD_mem {α : Type} {l : List α} {k : Nat} {d : α} (h : k < l.length) : l.getD k d ∈ l := List.mem_of_getElem? (getD_at h)
section
variable {S B : List (List Int)} {m n : Nat} {mk : Nat → Nat} {ch : Nat → List Nat} {en : Nat → Nat}
theorem stpD_in (h : MOk S B m) {q r : Int} (h1 : 0 ≤ q ∧ q < S.length) (h2 : 0 ≤ r ∧ r < S.length) : 0 ≤ stpD S q r ∧ stpD S q r < S.length := by
  obtain ⟨k1, k2⟩ := h.sr _ (getD_mem (d := []) (show q.toNat < S.length by omega))
  exact k2 _ (getD_mem (d := 0) (by omega))
theorem begD_in (h : MOk S B m) {v l : Nat} (hv : mk v < 8) (hl : l < 2 ^ m) : 0 ≤ begD B mk v l ∧ begD B mk v l < S.length := by
  obtain ⟨k1, k2⟩ := h.br _ (getD_mem (d := []) (show mk v < B.length by rw [h.bl]; exact hv))
  exact k2 _ (getD_mem (d := 0) (by rw [k1]; exact hl))
theorem foldl_in {P : Int → Prop} {f : Int → Nat → Int} : ∀ {l : List Nat} {s : Int}, P s → (∀ s, P s → ∀ c ∈ l, P (f s c)) → P (l.foldl f s)
  | [], _, h, _ => h
  | c :: r, s, h, k => foldl_in (l := r) (k s h c List.mem_cons_self) fun s hs d hd => k s hs d (List.mem_cons_of_mem _ hd)
theorem stF_in (h : MOk S B m) (F : Frs n ch en) (hk : ∀ v, v < n → mk v < 8) {ly : Nat → Nat} (hl : ∀ v, ly v < 2 ^ m) : ∀ (f v : Nat), v < n → n - v ≤ f → 0 ≤ stF (stpD S) (begD B mk) ch ly f v ∧ stF (stpD S) (begD B mk) ch ly f v < S.length
  | 0, v, hv, hf => by omega
  | f + 1, v, hv, hf => by
    simp only [stF]
    refine foldl_in (P := fun s => 0 ≤ s ∧ s < S.length) (begD_in h (hk v hv) (hl v)) fun s hs c hc => ?_
    obtain ⟨k1, k2, k3⟩ := (F.sib v hv).mem hc
    have := F.up v hv
    exact stpD_in h hs (stF_in h F hk hl f c (by omega) (by omega))
variable (S B mk ch n)
abbrev stW (p : List (Option Nat)) (v : Nat) : Int := st (stpD S) (begD B mk) ch n (lay p) v
abbrev runW (p : List (Option Nat)) (q : Int) (r : List Nat) : Int := KW.run (stpD S) (begD B mk) ch n (lay p) q r
abbrev itv (a b : Nat) : List Nat := List.range' a (b - a)
def RgOwn (m : Nat) (en : Nat → Nat) (v : Nat) (t : Tab) : Prop := Rg t (lays (itv v (en v)) m) fun p => (stW S B n mk ch p v, (mask p : Int))
def RgRow (m : Nat) (a : Nat) (r : List Nat) (b : Nat) (ways : List Tab) : Prop := ways.length = S.length ∧ ∀ q : Nat, q < S.length → Rg (ways.getD q []) (lays (itv a b) m) fun p => (runW S B n mk ch p q r, (mask p : Int))
variable {S B mk ch n}
theorem stW_in (h : MOk S B m) (F : Frs n ch en) (hk : ∀ v, v < n → mk v < 8) {p : List (Option Nat)} (hp : p.length = m) {v : Nat} (hv : v < n) : 0 ≤ stW S B n mk ch p v ∧ stW S B n mk ch p v < S.length :=
  stF_in h F hk (fun w => by rw [← hp]; exact lay_lt p w) n v hv (by omega)
theorem runW_in (h : MOk S B m) (F : Frs n ch en) (hk : ∀ v, v < n → mk v < 8) {p : List (Option Nat)} (hp : p.length = m) {q : Int} (hq : 0 ≤ q ∧ q < S.length) {r : List Nat} (hr : ∀ c ∈ r, c < n) : 0 ≤ runW S B n mk ch p q r ∧ runW S B n mk ch p q r < S.length :=
  foldl_in (P := fun s => 0 ≤ s ∧ s < S.length) hq fun s hs c hc => stpD_in h hs (stW_in h F hk hp (hr c hc))
theorem cutL_len (q : Nat → Bool) (p : List (Option Nat)) : (cutL q p).length = p.length := List.length_map ..
/-- a node's table out of its row's -/
theorem rgOwn_of (h : MOk S B m) (F : Frs n ch en) (hk : ∀ v, v < n → mk v < 8) {v : Nat} (hv : v < n) {ways : Option (List Tab)}
    (hw : (ways = none ∧ ch v = []) ∨ ∃ l, ways = some l ∧ RgRow S B n mk ch m (v + 1) (ch v) (en v) l) :
    Rg (nodeRow (B.getD (mk v) []) ways (B.getD (mk v) []).length) (lays (itv v (en v)) m) fun p => (stW S B n mk ch p v, (mask p : Int)) := by
  obtain ⟨b1, b2⟩ := h.br _ (getD_mem (d := []) (show mk v < B.length by rw [h.bl]; exact hk v hv))
  have sb := F.sib v hv
  have le := sb.le
  have ei : itv v (en v) = v :: itv (v + 1) (en v) := by
    unfold itv
    rw [show en v - v = (en v - (v + 1)) + 1 by omega, List.range'_succ]
  have key := rg_node (C := itv (v + 1) (en v)) (v := v) (m := m) (q := fun x => decide (x < v + 1)) (by simp) (fun x hx => by
      have := List.mem_range'_1.mp hx
      simp
      omega) (begin := B.getD (mk v) []) (ways := ways) (g := fun s c => runW S B n mk ch c s (ch v)) b1 (fun s hs => by
      rcases hw with ⟨rfl, e⟩ | ⟨l, rfl, hl⟩
      · have e2 : en v = v + 1 := by rw [e] at sb; exact sb.symm
        have e3 : itv (v + 1) (en v) = [] := by rw [e2]; simp [itv]
        rw [e3, e]
        refine ⟨fun p hp => ?_, fun G => ?_⟩
        · rw [entOf, List.mem_singleton] at hp
          subst hp
          exact (by decide : (0 : Int) < 1)
        · have e4 : ∀ k, lays [] k = [List.replicate k none] := by
            intro k
            induction k with
            | zero => rfl
            | succ k ih => rw [lays, ih]; simp [List.replicate_succ']
          rw [e4]
          simp only [entOf, sm]
          have : mask (List.replicate m none) = 0 := by
            refine lay_nil (m := m) (v := 0) ?_
            rw [e4]; exact List.mem_singleton.mpr rfl
          rw [this]
          simp [runW, KW.run]
      · obtain ⟨k1, k2⟩ := b2 s hs
        have := hl.2 s.toNat (by omega)
        rw [show ((s.toNat : Nat) : Int) = s by omega] at this
        exact this)
  rw [ei]
  refine key.congr fun p hp => ?_
  (try dsimp only)
  congr 1
  rw [stW, st_eq F (lay p) hv]
  unfold runW begD
  refine run_loc F sb (F.up v hv) fun w h1 h2 => lay_cut (by simp; omega) p
/-- one child -/
theorem rgRow_child (h : MOk S B m) (F : Frs n ch en) (hk : ∀ v, v < n → mk v < 8) {v : Nat} (hv : v < n) {t : Tab} (ht : RgOwn S B n mk ch m en v t) :
    RgRow S B n mk ch m v [v] (en v) (S.map fun r => added (t.map fun p => ((r.getD p.1.1.toNat 0, p.1.2), p.2))) := by
  refine ⟨List.length_map .., fun q hq => ?_⟩
  have e : (S.map fun r => added (t.map fun p => ((r.getD p.1.1.toNat 0, p.1.2), p.2))).getD q [] = added (t.map fun p => (((S.getD q []).getD p.1.1.toNat 0, p.1.2), p.2)) := by
    rw [List.getD_eq_getElem?_getD, List.getElem?_map, getD_at (d := []) hq]; rfl
  rw [e]
  have := (rg_added (Rg.map ht fun k => ((S.getD q []).getD k.1.toNat 0, k.2))).1
  refine Rg.congr this fun p _ => ?_
  simp [runW, KW.run, stpD, stW]
/-- a child ahead of a row -/
theorem rgRow_both (h : MOk S B m) (F : Frs n ch en) (hk : ∀ v, v < n → mk v < 8) {v : Nat} (hv : v < n) {r : List Nat} {b : Nat} (sb : Sib en (en v) r b) (hb : b ≤ n) (hlt : v < en v) {one other : List Tab}
    (h1 : RgRow S B n mk ch m v [v] (en v) one) (h2 : RgRow S B n mk ch m (en v) r b other) :
    (∀ t ∈ one, ∃ q : Nat, q < S.length ∧ Rg (bothRow other t) (lays (itv v b) m) fun p => (runW S B n mk ch p q (v :: r), (mask p : Int))) ∧
    RgRow S B n mk ch m v (v :: r) b (one.map fun t => added (bothRow other t)) := by
  have le := sb.le
  have ea : itv v (en v) ++ itv (en v) b = itv v b := by
    unfold itv
    rw [show b - v = (en v - v) + (b - en v) by omega, ← List.range'_append_1]
    rw [show v + (en v - v) = en v by omega]
  have key : ∀ q : Nat, q < S.length → Rg (bothRow other (one.getD q [])) (lays (itv v b) m) fun p => (runW S B n mk ch p q (v :: r), (mask p : Int)) := by
    intro q hq
    rw [← ea]
    have k := rg_both (A := itv v (en v)) (B := itv (en v) b) (q := fun x => decide (x < en v)) (fun x hx => by have := List.mem_range'_1.mp hx; simp; omega) (fun x hx => by have := List.mem_range'_1.mp hx; simp; omega)
      (m := m) (t := one.getD q []) (other := other) (f1 := fun a => runW S B n mk ch a q [v]) (f2 := fun s b => runW S B n mk ch b s r) (h1.2 q hq) (fun a ha => by
        have ha' := (lays_mem ha).1
        obtain ⟨k1, k2⟩ := runW_in h F hk ha' (q := q) (by omega) (r := [v]) (by simpa using hv)
        have := h2.2 (runW S B n mk ch a q [v]).toNat (by omega)
        rw [show (((runW S B n mk ch a q [v]).toNat : Nat) : Int) = runW S B n mk ch a q [v] by omega] at this
        exact this)
    refine k.congr fun p hp => ?_
    (try dsimp only)
    congr 1
    have e1 : runW S B n mk ch (cutL (fun x => decide (x < en v)) p) q [v] = runW S B n mk ch p q [v] :=
      run_loc F (a := v) (b := en v) (r := [v]) ⟨rfl, hlt, rfl⟩ (by omega) fun w g1 g2 => lay_cut (by simpa using g2) p
    rw [e1]
    have e2 : ∀ s, runW S B n mk ch (cutL (fun x => !decide (x < en v)) p) s r = runW S B n mk ch p s r := fun s =>
      run_loc F sb hb fun w g1 g2 => lay_cut (by simp; omega) p
    rw [e2]
    rfl
  refine ⟨fun t ht => ?_, by rw [List.length_map]; exact h1.1, fun q hq => ?_⟩
  · obtain ⟨q, hq, e⟩ := List.getElem_of_mem ht
    have hq' : q < S.length := by rw [← h1.1]; exact hq
    refine ⟨q, hq', ?_⟩
    have := key q hq'
    rw [List.getD_eq_getElem?_getD, List.getElem?_eq_getElem hq, Option.getD_some, e] at this
    exact this
  · have e : (one.map fun t => added (bothRow other t)).getD q [] = added (bothRow other (one.getD q [])) := by
      rw [List.getD_eq_getElem?_getD, List.getElem?_map, getD_at (d := []) (show q < one.length by rw [h1.1]; exact hq)]; rfl
    rw [e]
    exact (rg_added (key q hq)).1
end
end

end K67

set_option maxHeartbeats 4000000
namespace K67
open PySem PySem.Spec PyProof.Rows L2 KB KM
open KD hiding Dp
section
variable {P : Program} {w : World} {K : PySem.W.Frag} {mg : Str → Option Value} {base : Heap}
/-! ### rows of machines -/
def isRow (d : D) (n b : Int) : Bool := match d with
  | .tup l => decide (((l.length : Nat) : Int) = n) && l.all fun x => isBelow x b
  | _ => false
def soRow (ds : List D) (out : Out) : Prop := ∃ d n b, ds = [d, .int n, .int b] ∧ ok d = true ∧ (∀ l, d = .tup l → l.length ≤ sizeLine) ∧ out = .ret (.bl (isRow d n b))
abbrev s_is_row : Stmt := (top 29)
theorem sc_is_row : FnScope ["thing", "length", "bound", "part"] ["thing", "length", "bound"] (defScope s_is_row) := ⟨rfl, rfl, rfl, by decide +kernel, rfl, by decide +kernel, by decide +kernel⟩
theorem bd_is_row (T : Txt K mg) (C_is_below : Cal P w K mg base 2 "is_below" (toSp (gb P w K) (spO K soBelow))) : Body P w K mg base (2) ["thing", "length", "bound", "part"] "is_row" (defScope s_is_row) (defBody s_is_row) (toSp (gb P w K) (spO K soRow)) := by
  intro f cdv A outer s H vs Q E hr h
  have hu := hu_of hr
  have tk : Takes (cxOf (L2.CX P w) P w K mg base ["thing", "length", "bound", "part"] "is_row" (defScope s_is_row) f cdv A outer s H E) (WF E) := takes_of rfl rfl rfl rfl
  refine ⟨_, (pss_cons (ps_if (PW.pt (pw_or (pt_not (pt_val (pe_callB call_isD (by rfl) T.g_isinstance (by decide +kernel) (pa_cons (pv 0) (pa_cons (pe_ty "tuple" T.g_tuple) pa_nil))))) (pw_or1 (pt_cmpR op_ne (pe_callB call_lenK (by rfl) T.g_len (by decide +kernel) (pa_cons (pv 0) pa_nil)) (pv 1) (nomark _))))) (pss_one (ps_ret pe_bl)) pss_nil)
    (pss_one (ps_ret (pe_callB (cr_all rfl) (by rfl) T.g_all (by decide +kernel) (pa_cons (pe_lc (own := [("part", 3)]) (g := (gName 3)) (by rfl) sc_is_row.nd  (pi_tup (pv 0)) (blkOk_by (own := [("part", 3)]) (N := ["thing", "length", "bound", "part"]) (sc := defScope s_is_row) (by decide +kernel)) (fun _ _ _ _ _ => (pg_name (i := 3) sc_is_row.nd rfl (Or.inl rfl))) (fun _ _ _ _ _ => pts_nil) (fun _ _ _ _ _ => (pe_cal C_is_below hr (by omega) takesN (pa_cons (pv 3) (pa_cons (pv 2) pa_nil))))) pa_nil))))), ?_⟩
  try dsimp only [cxOf]
  refine d_startO h fun ds out hS c hx hM => ?_
  obtain ⟨d, n, b, rfl, hp, hlen, rfl⟩ := hS
  have hp2 := ok_pl hp
  refine d_st (δ' := [.fz d, .fz (.int n), .fz (.int b), .no]) (by rfl) ?_
  walk_at "dw"
  cases d <;> first | (walk_at "dw"; rfl) | (simp [ok] at hp; done) | skip
  rename_i l
  simp only [ok] at hp
  have hl := hlen l rfl
  walk_at "dw"
  refine i_ndec (fun z => ?_) (fun z => ?_)
  · walk_at "dw"
    simp only [isRow, decide_eq_false z, Bool.false_and]
    rfl
  walk_at "dw"
  refine d_lcP (only_name (by decide)) ?_
  walk_at "dw"
  refine ⟨hl, trivial, rfl, fun j => .bl (isBelow (l.getD j .non) b), fun c2 j hj => ?_, fun p => ?_⟩
  · have he := okL_get (i := j) hp
    walk_at "dw"
    refine d_callR (ok0 c2) ?_
    walk_at "dw"
    refine ⟨_, _, rfl, ⟨_, _, rfl, ok_pl he, rfl⟩, ?_⟩
    exact ⟨rfl, rfl⟩
  · rw [range_getD l .non fun x => D.bl (isBelow x b)]
    walk_at "dw"
    refine d_all (bs := l.map fun x => isBelow x b) rfl (by rw [List.map_map]; rfl) ?_
    simp only [isRow, decide_eq_true z, Bool.true_and, List.all_map]
    rfl
theorem cd_is_row (T : Txt K mg) : Cal P w K mg base 3 "is_row" (toSp (gb P w K) (spO K soRow)) := T.d_is_row.cal sc_is_row (len_spO fun ds out ⟨_, _, _, h, _⟩ => by rw [h]; rfl) (bd_is_row T (cd_is_below T))
end

end K67

set_option maxHeartbeats 4000000
namespace K67
open PySem PySem.Spec PyProof.Rows L2 KB KM
open KD hiding Dp
section
variable {P : Program} {w : World} {K : PySem.W.Frag} {mg : Str → Option Value} {base : Heap}
/-! ### rising tuples of integers -/
theorem cut_tail : ∀ l : List D, cutD l (some 1) none = l.drop 1
  | [] => rfl
  | x :: r => cutD_from (a := 1) (x :: r) (by simp)
def risesI (l : List Int) : Bool := (List.range (l.length - 1)).all fun j => decide (l.getD j 0 < l.getD (j + 1) 0)
def soRiseI (ds : List D) (out : Out) : Prop := ∃ l : List Int, ds = [rowD l] ∧ l.length ≤ 1000000 ∧ out = .ret (.bl (risesI l))
abbrev s_is_rising : Stmt := (top 15)
theorem sc_is_rising : FnScope ["things", "one", "other"] ["things"] (defScope s_is_rising) := ⟨rfl, rfl, rfl, by decide +kernel, rfl, by decide +kernel, by decide +kernel⟩
theorem bd_is_rising (T : Txt K mg) : Body P w K mg base (0) ["things", "one", "other"] "is_rising" (defScope s_is_rising) (defBody s_is_rising) (toSp (gb P w K) (spO K soRiseI)) := by
  intro f cdv A outer s H vs Q E hr h
  have hu := hu_of hr
  have tk : Takes (cxOf (L2.CX P w) P w K mg base ["things", "one", "other"] "is_rising" (defScope s_is_rising) f cdv A outer s H E) (WF E) := takes_of rfl rfl rfl rfl
  refine ⟨_, (pss_one (ps_ret (pe_callB (cr_all rfl) (by rfl) T.g_all (by decide +kernel) (pa_cons (pe_lc (own := [("one", 1), ("other", 2)]) (g := (gTup K 2 (gCons (gName 1) (gCons (gName 2) gNil)))) (by rfl) sc_is_rising.nd  (RZ.pi_zipA (by rfl) T.g_zip (pa_cons (pv 0) (pa_cons (pe_slice sl_tupA (pv 0) (po_some pe_int) po_none) pa_nil))) (blkOk_by (own := [("one", 1), ("other", 2)]) (N := ["things", "one", "other"]) (sc := defScope s_is_rising) (by decide +kernel)) (fun _ _ _ _ _ => (pg_tup (n := 2) (by rfl) (pgs_cons (pg_name (i := 1) sc_is_rising.nd rfl (Or.inl rfl)) (pgs_cons (pg_name (i := 2) sc_is_rising.nd rfl (Or.inl rfl)) pgs_nil)))) (fun _ _ _ _ _ => pts_nil) (fun _ _ _ _ _ => (pe_cmpR op_lt (pv 1) (pv 2) (nomark _)))) pa_nil)))), ?_⟩
  try dsimp only [cxOf]
  refine d_startO h fun ds out hS c hx hM => ?_
  obtain ⟨l, rfl, hl, rfl⟩ := hS
  have hz : (1000000 : Nat) < sizeLine := by decide
  refine d_st (δ' := [.fz (rowD l), .no, .no]) (by rfl) ?_
  walk_at "dw"
  refine d_lcP (only_tup (only_cons (only_name (by decide)) (only_cons (only_name (by decide)) only_nil))) ?_
  refine d_iZipT rfl ?_
  walk_at "dw"
  refine d_slT rfl rfl ?_
  walk_at "dw"
  rw [cut_tail]
  refine ⟨_, _, rfl, by rw [List.length_map]; omega, trivial, rfl, fun j => .bl (decide (l.getD j 0 < l.getD (j + 1) 0)), fun c2 j hj => ?_, fun p => ?_⟩
  · rw [List.length_map, List.length_drop, List.length_map] at hj
    have e1 : (l.map D.int).getD j .non = .int (l.getD j 0) := by
      rw [List.getD_eq_getElem?_getD, List.getElem?_map, getD_at (d := 0) (by omega)]; rfl
    have e2 : ((l.map D.int).drop 1).getD j .non = .int (l.getD (j + 1) 0) := by
      rw [List.getD_eq_getElem?_getD, List.getElem?_drop, List.getElem?_map, Nat.add_comm 1 j, getD_at (d := 0) (by omega)]; rfl
    dsimp only
    rw [e1, e2]
    walk_at "dw"
    exact ⟨rfl, rfl⟩
  · have e : min (l.map D.int).length ((l.map D.int).drop 1).length = l.length - 1 := by rw [List.length_drop, List.length_map]; omega
    rw [e]
    walk_at "dw"
    refine d_all (bs := (List.range (l.length - 1)).map fun j => decide (l.getD j 0 < l.getD (j + 1) 0)) rfl (by rw [List.map_map]; rfl) ?_
    rw [List.all_map]
    rfl
theorem cd_is_risingI (T : Txt K mg) : Cal P w K mg base 1 "is_rising" (toSp (gb P w K) (spO K soRiseI)) := T.d_is_rising.cal sc_is_rising (len_spO fun ds out ⟨_, h, _⟩ => by rw [h]; rfl) (bd_is_rising T)
end

end K67

set_option maxHeartbeats 4000000
namespace K67
open PySem PySem.Spec PyProof.Rows L2 KB KM
open KD hiding Dp
section
variable {P : Program} {w : World} {K : PySem.W.Frag} {mg : Str → Option Value} {base : Heap}
/-! ### ascending rows -/
def unI : D → Int
  | .int i => i
  | _ => 0
theorem unI_all {b : Int} : ∀ {l : List D}, l.all (fun x => isBelow x b) = true → l = (l.map unI).map D.int
  | [], _ => rfl
  | x :: r, h => by
    simp only [List.all_cons, Bool.and_eq_true] at h
    rw [List.map_cons, List.map_cons, ← unI_all h.2]
    cases x <;> first | rfl | (simp [isBelow] at h)
def isGood (d : D) (b : Int) : Bool := match d with
  | .tup l => (l.all fun x => isBelow x b) && risesI (l.map unI)
  | _ => false
def soGood (ds : List D) (out : Out) : Prop := ∃ d b, ds = [d, .int b] ∧ ok d = true ∧ (∀ l, d = .tup l → l.length ≤ 1000000) ∧ out = .ret (.bl (isGood d b))
abbrev s_is_good_row : Stmt := (top 30)
theorem sc_is_good_row : FnScope ["thing", "bound", "part"] ["thing", "bound"] (defScope s_is_good_row) := ⟨rfl, rfl, rfl, by decide +kernel, rfl, by decide +kernel, by decide +kernel⟩
theorem bd_is_good_row (T : Txt K mg) (C_is_below : Cal P w K mg base 2 "is_below" (toSp (gb P w K) (spO K soBelow))) (C_is_rising : Cal P w K mg base 1 "is_rising" (toSp (gb P w K) (spO K soRiseI))) : Body P w K mg base (2) ["thing", "bound", "part"] "is_good_row" (defScope s_is_good_row) (defBody s_is_good_row) (toSp (gb P w K) (spO K soGood)) := by
  intro f cdv A outer s H vs Q E hr h
  have hu := hu_of hr
  have tk : Takes (cxOf (L2.CX P w) P w K mg base ["thing", "bound", "part"] "is_good_row" (defScope s_is_good_row) f cdv A outer s H E) (WF E) := takes_of rfl rfl rfl rfl
  refine ⟨_, (pss_cons (ps_if (pt_not (pt_val (pe_callB call_isD (by rfl) T.g_isinstance (by decide +kernel) (pa_cons (pv 0) (pa_cons (pe_ty "tuple" T.g_tuple) pa_nil))))) (pss_one (ps_ret pe_bl)) pss_nil)
    (pss_one (ps_ret (pe_and (pe_callB (cr_all rfl) (by rfl) T.g_all (by decide +kernel) (pa_cons (pe_lc (own := [("part", 2)]) (g := (gName 2)) (by rfl) sc_is_good_row.nd  (pi_tup (pv 0)) (blkOk_by (own := [("part", 2)]) (N := ["thing", "bound", "part"]) (sc := defScope s_is_good_row) (by decide +kernel)) (fun _ _ _ _ _ => (pg_name (i := 2) sc_is_good_row.nd rfl (Or.inl rfl))) (fun _ _ _ _ _ => pts_nil) (fun _ _ _ _ _ => (pe_cal C_is_below hr (by omega) takesN (pa_cons (pv 2) (pa_cons (pv 1) pa_nil))))) pa_nil)) (pe_one (pe_cal C_is_rising hr (by omega) tk (pa_cons (pv 0) pa_nil))))))), ?_⟩
  try dsimp only [cxOf]
  refine d_startO h fun ds out hS c hx hM => ?_
  obtain ⟨d, b, rfl, hp, hlen, rfl⟩ := hS
  have hp2 := ok_pl hp
  have hz : (1000000 : Nat) < sizeLine := by decide
  refine d_st (δ' := [.fz d, .fz (.int b), .no]) (by rfl) ?_
  walk_at "dw"
  cases d <;> first | (walk_at "dw"; rfl) | (simp [ok] at hp; done) | skip
  rename_i l
  simp only [ok] at hp
  have hl := hlen l rfl
  walk_at "dw"
  refine d_lcP (only_name (by decide)) ?_
  walk_at "dw"
  refine ⟨by omega, trivial, rfl, fun j => .bl (isBelow (l.getD j .non) b), fun c2 j hj => ?_, fun p => ?_⟩
  · have he := okL_get (i := j) hp
    walk_at "dw"
    refine d_callR (ok0 c2) ?_
    walk_at "dw"
    refine ⟨_, _, rfl, ⟨_, _, rfl, ok_pl he, rfl⟩, ?_⟩
    exact ⟨rfl, rfl⟩
  · rw [range_getD l .non fun x => D.bl (isBelow x b)]
    walk_at "dw"
    refine d_all (bs := l.map fun x => isBelow x b) rfl (by rw [List.map_map]; rfl) ?_
    have e0 : (l.map fun x => isBelow x b).all id = l.all fun x => isBelow x b := by rw [List.all_map]; rfl
    rw [e0]
    cases e : l.all fun x => isBelow x b with
    | false =>
      walk_at "dw"
      simp only [isGood, e, Bool.false_and]
      rfl
    | true =>
      walk_at "dw"
      refine d_callR hx ?_
      walk_at "dw"
      refine ⟨_, _, rfl, ⟨l.map unI, ?_, by rw [List.length_map]; exact hl, rfl⟩, ?_⟩
      · rw [rowD, ← unI_all e]
      · simp only [isGood, e, Bool.true_and]
        rfl
theorem cd_is_good_row (T : Txt K mg) : Cal P w K mg base 3 "is_good_row" (toSp (gb P w K) (spO K soGood)) := T.d_is_good_row.cal sc_is_good_row (len_spO fun ds out ⟨_, _, h, _⟩ => by rw [h]; rfl) (bd_is_good_row T (cd_is_below T) (cd_is_risingI T))
end

end K67

set_option maxHeartbeats 4000000
namespace K67
open PySem PySem.Spec PyProof.Rows L2 KB KM
open KD hiding Dp
section
variable {P : Program} {w : World} {K : PySem.W.Frag} {mg : Str → Option Value} {base : Heap}
/-! ### ascending names -/
def risesS (l : List Str) : Bool := (List.range (l.length - 1)).all fun j => decide ((l.getD j "").cps.toList < (l.getD (j + 1) "").cps.toList)
def soRiseS (ds : List D) (out : Out) : Prop := ∃ l : List Str, ds = [.tup (l.map D.str)] ∧ l.length ≤ 1000000 ∧ out = .ret (.bl (risesS l))
theorem bd_is_risingS (T : Txt K mg) : Body P w K mg base (0) ["things", "one", "other"] "is_rising" (defScope s_is_rising) (defBody s_is_rising) (toSp (gb P w K) (spO K soRiseS)) := by
  intro f cdv A outer s H vs Q E hr h
  have hu := hu_of hr
  have tk : Takes (cxOf (L2.CX P w) P w K mg base ["things", "one", "other"] "is_rising" (defScope s_is_rising) f cdv A outer s H E) (WF E) := takes_of rfl rfl rfl rfl
  refine ⟨_, (pss_one (ps_ret (pe_callB (cr_all rfl) (by rfl) T.g_all (by decide +kernel) (pa_cons (pe_lc (own := [("one", 1), ("other", 2)]) (g := (gTup K 2 (gCons (gName 1) (gCons (gName 2) gNil)))) (by rfl) sc_is_rising.nd  (RZ.pi_zipA (by rfl) T.g_zip (pa_cons (pv 0) (pa_cons (pe_slice sl_tupA (pv 0) (po_some pe_int) po_none) pa_nil))) (blkOk_by (own := [("one", 1), ("other", 2)]) (N := ["things", "one", "other"]) (sc := defScope s_is_rising) (by decide +kernel)) (fun _ _ _ _ _ => (pg_tup (n := 2) (by rfl) (pgs_cons (pg_name (i := 1) sc_is_rising.nd rfl (Or.inl rfl)) (pgs_cons (pg_name (i := 2) sc_is_rising.nd rfl (Or.inl rfl)) pgs_nil)))) (fun _ _ _ _ _ => pts_nil) (fun _ _ _ _ _ => (pe_cmpR op_lt_strD (pv 1) (pv 2) (nomark _)))) pa_nil)))), ?_⟩
  try dsimp only [cxOf]
  refine d_startO h fun ds out hS c hx hM => ?_
  obtain ⟨l, rfl, hl, rfl⟩ := hS
  have hz : (1000000 : Nat) < sizeLine := by decide
  refine d_st (δ' := [.fz (.tup (l.map D.str)), .no, .no]) (by rfl) ?_
  walk_at "dw"
  refine d_lcP (only_tup (only_cons (only_name (by decide)) (only_cons (only_name (by decide)) only_nil))) ?_
  refine d_iZipT rfl ?_
  walk_at "dw"
  refine d_slT rfl rfl ?_
  walk_at "dw"
  rw [cut_tail]
  refine ⟨_, _, rfl, by rw [List.length_map]; omega, trivial, rfl, fun j => .bl (decide ((l.getD j "").cps.toList < (l.getD (j + 1) "").cps.toList)), fun c2 j hj => ?_, fun p => ?_⟩
  · rw [List.length_map, List.length_drop, List.length_map] at hj
    have e1 : (l.map D.str).getD j .non = .str (l.getD j "") := by
      rw [List.getD_eq_getElem?_getD, List.getElem?_map, getD_at (d := ("" : Str)) (by omega)]; rfl
    have e2 : ((l.map D.str).drop 1).getD j .non = .str (l.getD (j + 1) "") := by
      rw [List.getD_eq_getElem?_getD, List.getElem?_drop, List.getElem?_map, Nat.add_comm 1 j, getD_at (d := ("" : Str)) (by omega)]; rfl
    dsimp only
    rw [e1, e2]
    walk_at "dw"
    refine d_ltS rfl rfl ?_
    exact ⟨rfl, rfl⟩
  · have e : min (l.map D.str).length ((l.map D.str).drop 1).length = l.length - 1 := by rw [List.length_drop, List.length_map]; omega
    rw [e]
    walk_at "dw"
    refine d_all (bs := (List.range (l.length - 1)).map fun j => decide ((l.getD j "").cps.toList < (l.getD (j + 1) "").cps.toList)) rfl (by rw [List.map_map]; rfl) ?_
    rw [List.all_map]
    rfl
theorem cd_is_risingS (T : Txt K mg) : Cal P w K mg base 1 "is_rising" (toSp (gb P w K) (spO K soRiseS)) := T.d_is_rising.cal sc_is_rising (len_spO fun ds out ⟨_, h, _⟩ => by rw [h]; rfl) (bd_is_risingS T)
end

end K67

set_option maxHeartbeats 4000000
namespace K67
open PySem PySem.Spec PyProof.Rows L2 KB KM
open KD hiding Dp
section
variable {P : Program} {w : World} {K : PySem.W.Frag} {mg : Str → Option Value} {base : Heap}
/-! ### names -/
def unS : D → Str
  | .str s => s
  | _ => ""
theorem unS_all : ∀ {l : List D}, l.all isName = true → l = (l.map unS).map D.str
  | [], _ => rfl
  | x :: r, h => by
    simp only [List.all_cons, Bool.and_eq_true] at h
    rw [List.map_cons, List.map_cons, ← unS_all h.2]
    cases x <;> first | rfl | (simp [isName] at h)
def isNames (d : D) (m : Int) : Bool := match d with
  | .tup l => decide (((l.length : Nat) : Int) ≤ m) && (l.all isName && risesS (l.map unS))
  | _ => false
def soNames (ds : List D) (out : Out) : Prop := ∃ d m, ds = [d, .int m] ∧ ok d = true ∧ (∀ l, d = .tup l → l.length ≤ 1000000) ∧ out = .ret (.bl (isNames d m))
abbrev s_is_names : Stmt := (top 16)
theorem sc_is_names : FnScope ["thing", "most", "part"] ["thing", "most"] (defScope s_is_names) := ⟨rfl, rfl, rfl, by decide +kernel, rfl, by decide +kernel, by decide +kernel⟩
theorem bd_is_names (T : Txt K mg) (C_is_name : Cal P w K mg base 1 "is_name" (toSp (gb P w K) (spO K soName))) (C_is_risingS : Cal P w K mg base 1 "is_rising" (toSp (gb P w K) (spO K soRiseS))) : Body P w K mg base (1) ["thing", "most", "part"] "is_names" (defScope s_is_names) (defBody s_is_names) (toSp (gb P w K) (spO K soNames)) := by
  intro f cdv A outer s H vs Q E hr h
  have hu := hu_of hr
  have tk : Takes (cxOf (L2.CX P w) P w K mg base ["thing", "most", "part"] "is_names" (defScope s_is_names) f cdv A outer s H E) (WF E) := takes_of rfl rfl rfl rfl
  refine ⟨_, (pss_cons (ps_if (PW.pt (pw_or (pt_not (pt_val (pe_callB call_isD (by rfl) T.g_isinstance (by decide +kernel) (pa_cons (pv 0) (pa_cons (pe_ty "tuple" T.g_tuple) pa_nil))))) (pw_or1 (pt_cmpR op_gt (pe_callB call_lenK (by rfl) T.g_len (by decide +kernel) (pa_cons (pv 0) pa_nil)) (pv 1) (nomark _))))) (pss_one (ps_ret pe_bl)) pss_nil)
    (pss_one (ps_ret (pe_and (pe_callB (cr_all rfl) (by rfl) T.g_all (by decide +kernel) (pa_cons (pe_lc (own := [("part", 2)]) (g := (gName 2)) (by rfl) sc_is_names.nd  (pi_tup (pv 0)) (blkOk_by (own := [("part", 2)]) (N := ["thing", "most", "part"]) (sc := defScope s_is_names) (by decide +kernel)) (fun _ _ _ _ _ => (pg_name (i := 2) sc_is_names.nd rfl (Or.inl rfl))) (fun _ _ _ _ _ => pts_nil) (fun _ _ _ _ _ => (pe_cal C_is_name hr (by omega) takesN (pa_cons (pv 2) pa_nil)))) pa_nil)) (pe_one (pe_cal C_is_risingS hr (by omega) tk (pa_cons (pv 0) pa_nil))))))), ?_⟩
  try dsimp only [cxOf]
  refine d_startO h fun ds out hS c hx hM => ?_
  obtain ⟨d, m, rfl, hp, hlen, rfl⟩ := hS
  have hp2 := ok_pl hp
  have hz : (1000000 : Nat) < sizeLine := by decide
  refine d_st (δ' := [.fz d, .fz (.int m), .no]) (by rfl) ?_
  walk_at "dw"
  cases d <;> first | (walk_at "dw"; rfl) | (simp [ok] at hp; done) | skip
  rename_i l
  simp only [ok] at hp
  have hl := hlen l rfl
  walk_at "dw"
  refine i_dec (fun z => ?_) (fun z => ?_)
  · walk_at "dw"
    simp only [isNames, decide_eq_false (show ¬ ((l.length : Nat) : Int) ≤ m by omega), Bool.false_and]
    rfl
  walk_at "dw"
  refine d_lcP (only_name (by decide)) ?_
  walk_at "dw"
  refine ⟨by omega, trivial, rfl, fun j => .bl (isName (l.getD j .non)), fun c2 j hj => ?_, fun p => ?_⟩
  · have he := okL_get (i := j) hp
    walk_at "dw"
    refine d_callR (ok0 c2) ?_
    walk_at "dw"
    refine ⟨_, _, rfl, ⟨_, rfl, he, rfl⟩, ?_⟩
    exact ⟨rfl, rfl⟩
  · rw [range_getD l .non fun x => D.bl (isName x)]
    walk_at "dw"
    refine d_all (bs := l.map isName) rfl (by rw [List.map_map]; rfl) ?_
    have e0 : (l.map isName).all id = l.all isName := by rw [List.all_map]; rfl
    have e1 : decide (((l.length : Nat) : Int) ≤ m) = true := decide_eq_true (by omega)
    rw [e0]
    cases e : l.all isName with
    | false =>
      walk_at "dw"
      simp only [isNames, e, Bool.false_and, Bool.and_false]
      rfl
    | true =>
      walk_at "dw"
      refine d_callR hx ?_
      walk_at "dw"
      refine ⟨_, _, rfl, ⟨l.map unS, ?_, by rw [List.length_map]; exact hl, rfl⟩, ?_⟩
      · rw [← unS_all e]
      · simp only [isNames, e, e1, Bool.true_and]
        rfl
theorem cd_is_names (T : Txt K mg) : Cal P w K mg base 2 "is_names" (toSp (gb P w K) (spO K soNames)) := T.d_is_names.cal sc_is_names (len_spO fun ds out ⟨_, _, h, _⟩ => by rw [h]; rfl) (bd_is_names T (cd_is_name T) (cd_is_risingS T))
def soNamesForm (ds : List D) (out : Out) : Prop := ∃ d, ds = [d] ∧ ok d = true ∧ (∀ l, d = .tup l → l.length ≤ 1000000) ∧ out = .ret (.bl (isNames d 5))
abbrev s_is_names_form : Stmt := (top 27)
theorem sc_is_names_form : FnScope ["thing"] ["thing"] (defScope s_is_names_form) := ⟨rfl, rfl, rfl, by decide +kernel, rfl, by decide +kernel, by decide +kernel⟩
theorem bd_is_names_form (T : Txt K mg) (C_is_names : Cal P w K mg base 2 "is_names" (toSp (gb P w K) (spO K soNames))) : Body P w K mg base (2) ["thing"] "is_names_form" (defScope s_is_names_form) (defBody s_is_names_form) (toSp (gb P w K) (spO K soNamesForm)) := by
  intro f cdv A outer s H vs Q E hr h
  have hu := hu_of hr
  have tk : Takes (cxOf (L2.CX P w) P w K mg base ["thing"] "is_names_form" (defScope s_is_names_form) f cdv A outer s H E) (WF E) := takes_of rfl rfl rfl rfl
  refine ⟨_, (pss_one (ps_ret (pe_cal C_is_names hr (by omega) tk (pa_cons (pv 0) (pa_cons (pe_gint T.g_MOST_NAMES) pa_nil))))), ?_⟩
  try dsimp only [cxOf]
  refine d_startO h fun ds out hS c hx hM => ?_
  obtain ⟨d, rfl, hp, hlen, rfl⟩ := hS
  refine d_st (δ' := [.fz d]) (by rfl) ?_
  walk_at "dw"
  refine d_callR hx ?_
  walk_at "dw"
  refine ⟨_, _, rfl, ⟨d, _, rfl, hp, hlen, rfl⟩, ?_⟩
  rfl
theorem cd_is_names_form (T : Txt K mg) : Cal P w K mg base 3 "is_names_form" (toSp (gb P w K) (spO K soNamesForm)) := T.d_is_names_form.cal sc_is_names_form (len_spO fun ds out ⟨_, h, _⟩ => by rw [h]; rfl) (bd_is_names_form T (cd_is_names T))
end

end K67

set_option maxHeartbeats 4000000
namespace K67
open PySem PySem.Spec PyProof.Rows L2 KB KM
open KD hiding Dp
section
variable {P : Program} {w : World} {K : PySem.W.Frag} {mg : Str → Option Value} {base : Heap}
/-! ### machines -/
def soLays (ds : List D) (out : Out) : Prop := ∃ l : List D, ds = [.tup l] ∧ l.length ≤ 5 ∧ out = .ret (.int (2 ^ l.length))
abbrev s_lays_of : Stmt := (top 28)
theorem sc_lays_of : FnScope ["names"] ["names"] (defScope s_lays_of) := ⟨rfl, rfl, rfl, by decide +kernel, rfl, by decide +kernel, by decide +kernel⟩
theorem bd_lays_of (T : Txt K mg) : Body P w K mg base (0) ["names"] "lays_of" (defScope s_lays_of) (defBody s_lays_of) (toSp (gb P w K) (spO K soLays)) := by
  intro f cdv A outer s H vs Q E hr h
  have hu := hu_of hr
  have tk : Takes (cxOf (L2.CX P w) P w K mg base ["names"] "lays_of" (defScope s_lays_of) f cdv A outer s H E) (WF E) := takes_of rfl rfl rfl rfl
  refine ⟨_, (pss_one (ps_ret (pe_op op_shl pe_int (pe_callB call_lenK (by rfl) T.g_len (by decide +kernel) (pa_cons (pv 0) pa_nil))))), ?_⟩
  try dsimp only [cxOf]
  refine d_startO h fun ds out hS c hx hM => ?_
  obtain ⟨l, rfl, hl, rfl⟩ := hS
  refine d_st (δ' := [.fz (.tup l)]) (by rfl) ?_
  walk_at "dw"
  refine d_rI (i := 1) (j := (l.length : Nat)) rfl rfl rfl ?_ ?_
  · unfold CPow; omega
  rw [Int.toNat_natCast, Int.one_mul]
  rfl
theorem cd_lays_of (T : Txt K mg) : Cal P w K mg base 1 "lays_of" (toSp (gb P w K) (spO K soLays)) := T.d_lays_of.cal sc_lays_of (len_spO fun ds out ⟨_, h, _⟩ => by rw [h]; rfl) (bd_lays_of T)
def Sm (d : D) : Prop := ∀ l, d = .tup l → l.length ≤ 1000000
/-- its tuples are small -/
def SmM (d : D) : Prop := Sm d ∧ ∀ l, d = .tup l → ∀ x ∈ l, Sm x ∧ ∀ k, x = .tup k → ∀ y ∈ k, Sm y
def isMachP (nm bg tp st gd : D) : Bool := match bg, st with
  | .tup B, .tup S => isNames nm 5 && (decide (1 ≤ ((S.length : Nat) : Int)) && decide (((S.length : Nat) : Int) ≤ 300) && decide (((B.length : Nat) : Int) = 8)) && (S.all fun r => isRow r (S.length : Nat) (S.length : Nat)) &&
    (B.all fun r => isRow r (match nm with | .tup N => 2 ^ N.length | _ => 0) (S.length : Nat)) && isBelow tp (S.length : Nat) && isGood gd (S.length : Nat)
  | _, _ => false
def isMach (d : D) : Bool := match d with
  | .tup [nm, bg, tp, st, gd] => isMachP nm bg tp st gd
  | _ => false
def soMach (ds : List D) (out : Out) : Prop := ∃ d, ds = [d] ∧ ok d = true ∧ SmM d ∧ out = .ret (.bl (isMach d))
abbrev s_is_machine_form : Stmt := (top 31)
theorem sc_is_machine_form : FnScope ["thing", "names", "begin", "top", "step", "good", "many", "row"] ["thing"] (defScope s_is_machine_form) := ⟨rfl, rfl, rfl, by decide +kernel, rfl, by decide +kernel, by decide +kernel⟩
theorem bd_is_machine_form (T : Txt K mg) (C_is_names_form : Cal P w K mg base 3 "is_names_form" (toSp (gb P w K) (spO K soNamesForm))) (C_is_row : Cal P w K mg base 3 "is_row" (toSp (gb P w K) (spO K soRow)))
    (C_lays_of : Cal P w K mg base 1 "lays_of" (toSp (gb P w K) (spO K soLays))) (C_is_below : Cal P w K mg base 2 "is_below" (toSp (gb P w K) (spO K soBelow))) (C_is_good_row : Cal P w K mg base 3 "is_good_row" (toSp (gb P w K) (spO K soGood))) :
    Body P w K mg base (3) ["thing", "names", "begin", "top", "step", "good", "many", "row"] "is_machine_form" (defScope s_is_machine_form) (defBody s_is_machine_form) (toSp (gb P w K) (spO K soMach)) := by
  intro f cdv A outer s H vs Q E hr h
  have hu := hu_of hr
  have tk : Takes (cxOf (L2.CX P w) P w K mg base ["thing", "names", "begin", "top", "step", "good", "many", "row"] "is_machine_form" (defScope s_is_machine_form) f cdv A outer s H E) (WF E) := takes_of rfl rfl rfl rfl
  refine ⟨_, (pss_cons (ps_if (PW.pt (pw_or (pt_not (pt_val (pe_callB call_isD (by rfl) T.g_isinstance (by decide +kernel) (pa_cons (pv 0) (pa_cons (pe_ty "tuple" T.g_tuple) pa_nil))))) (pw_or1 (pt_cmpR op_ne (pe_callB call_lenK (by rfl) T.g_len (by decide +kernel) (pa_cons (pv 0) pa_nil)) pe_int (nomark _))))) (pss_one (ps_ret pe_bl)) pss_nil)
    (pss_cons (ps_asg (pv 0) (pg_tup (n := 5) (by rfl) (pgs_cons (pg_name (i := 1) sc_is_machine_form.nd rfl (Or.inr rfl)) (pgs_cons (pg_name (i := 2) sc_is_machine_form.nd rfl (Or.inl rfl)) (pgs_cons (pg_name (i := 3) sc_is_machine_form.nd rfl (Or.inl rfl)) (pgs_cons (pg_name (i := 4) sc_is_machine_form.nd rfl (Or.inl rfl)) (pgs_cons (pg_name (i := 5) sc_is_machine_form.nd rfl (Or.inl rfl)) pgs_nil)))))))
    (pss_cons (ps_if (PW.pt (pw_or (pt_not (pt_val (pe_cal C_is_names_form hr (by omega) tk (pa_cons (pv 1) pa_nil)))) (pw_or (pt_not (pt_val (pe_callB call_isD (by rfl) T.g_isinstance (by decide +kernel) (pa_cons (pv 2) (pa_cons (pe_ty "tuple" T.g_tuple) pa_nil))))) (pw_or1 (pt_not (pt_val (pe_callB call_isD (by rfl) T.g_isinstance (by decide +kernel) (pa_cons (pv 4) (pa_cons (pe_ty "tuple" T.g_tuple) pa_nil))))))))) (pss_one (ps_ret pe_bl)) pss_nil)
    (pss_cons (ps_set (i := 6) sc_is_machine_form.nd rfl (Or.inr rfl) (pe_callB call_lenK (by rfl) T.g_len (by decide +kernel) (pa_cons (pv 4) pa_nil)))
    (pss_cons (ps_if (PW.pt (pw_or (pt_not (pt_chain op_le op_le pe_int (pv 6) (pe_gint T.g_MOST_STATES))) (pw_or1 (pt_cmpR op_ne (pe_callB call_lenK (by rfl) T.g_len (by decide +kernel) (pa_cons (pv 2) pa_nil)) (pe_callB call_lenK (by rfl) T.g_len (by decide +kernel) (pa_cons (pe_gstr T.g_MARKS) pa_nil)) (nomark _))))) (pss_one (ps_ret pe_bl)) pss_nil)
    (pss_cons (ps_if (pt_not (pt_val (pe_callB (cr_all rfl) (by rfl) T.g_all (by decide +kernel) (pa_cons (pe_lc (own := [("row", 7)]) (g := (gName 7)) (by rfl) sc_is_machine_form.nd  (pi_tup (pv 4)) (blkOk_by (own := [("row", 7)]) (N := ["thing", "names", "begin", "top", "step", "good", "many", "row"]) (sc := defScope s_is_machine_form) (by decide +kernel)) (fun _ _ _ _ _ => (pg_name (i := 7) sc_is_machine_form.nd rfl (Or.inl rfl))) (fun _ _ _ _ _ => pts_nil) (fun _ _ _ _ _ => (pe_cal C_is_row hr (by omega) takesN (pa_cons (pv 7) (pa_cons (pv 6) (pa_cons (pv 6) pa_nil)))))) pa_nil)))) (pss_one (ps_ret pe_bl)) pss_nil)
    (pss_cons (ps_if (pt_not (pt_val (pe_callB (cr_all rfl) (by rfl) T.g_all (by decide +kernel) (pa_cons (pe_lc (own := [("row", 7)]) (g := (gName 7)) (by rfl) sc_is_machine_form.nd  (pi_tup (pv 2)) (blkOk_by (own := [("row", 7)]) (N := ["thing", "names", "begin", "top", "step", "good", "many", "row"]) (sc := defScope s_is_machine_form) (by decide +kernel)) (fun _ _ _ _ _ => (pg_name (i := 7) sc_is_machine_form.nd rfl (Or.inl rfl))) (fun _ _ _ _ _ => pts_nil) (fun _ _ _ _ _ => (pe_cal C_is_row hr (by omega) takesN (pa_cons (pv 7) (pa_cons (pe_cal C_lays_of hr (by omega) takesN (pa_cons (pv 1) pa_nil)) (pa_cons (pv 6) pa_nil)))))) pa_nil)))) (pss_one (ps_ret pe_bl)) pss_nil)
    (pss_one (ps_ret (pe_and (pe_cal C_is_below hr (by omega) tk (pa_cons (pv 3) (pa_cons (pv 6) pa_nil))) (pe_one (pe_cal C_is_good_row hr (by omega) tk (pa_cons (pv 5) (pa_cons (pv 6) pa_nil)))))))))))))), ?_⟩
  try dsimp only [cxOf]
  refine d_startO h fun ds out hS c hx hM => ?_
  obtain ⟨d, rfl, hp, sm, rfl⟩ := hS
  have hp2 := ok_pl hp
  have hz : (1000000 : Nat) < sizeLine := by decide
  refine d_st (δ' := [.fz d, .no, .no, .no, .no, .no, .no, .no]) (by rfl) ?_
  walk_at "dw"
  cases d <;> first | (walk_at "dw"; rfl) | (simp [ok] at hp; done) | skip
  rename_i l
  have hl := sm.1 l rfl
  simp only [ok] at hp
  walk_at "dw"
  refine i_ndec (fun z => ?_) (fun z => ?_)
  · walk_at "dw"
    have e : isMach (.tup l) = false := by
      match l, z with
      | [], _ => rfl
      | [_], _ => rfl
      | [_, _], _ => rfl
      | [_, _, _], _ => rfl
      | [_, _, _, _], _ => rfl
      | [_, _, _, _, _], z => exact absurd rfl z
      | _ :: _ :: _ :: _ :: _ :: _ :: _, _ => rfl
    rw [e]
    rfl
  obtain ⟨nm, bg, tp, st, gd, rfl⟩ : ∃ nm bg tp st gd, l = [nm, bg, tp, st, gd] := by
    match l, z with
    | [a, b, c, d, e], _ => exact ⟨a, b, c, d, e, rfl⟩
    | [], z => exact absurd z (by decide)
    | [_], z => simp only [List.length_cons, List.length_nil] at z; omega
    | [_, _], z => simp only [List.length_cons, List.length_nil] at z; omega
    | [_, _, _], z => simp only [List.length_cons, List.length_nil] at z; omega
    | [_, _, _, _], z => simp only [List.length_cons, List.length_nil] at z; omega
    | _ :: _ :: _ :: _ :: _ :: _ :: r, z => simp only [List.length_cons] at z; omega
  simp only [okL, Bool.and_eq_true, and_true] at hp
  obtain ⟨o1, o2, o3, o4, o5⟩ := hp
  have sx := sm.2 _ rfl
  walk_at "dw"
  refine d_callR hx ?_
  walk_at "dw"
  refine ⟨_, _, rfl, ⟨nm, rfl, o1, (sx nm (by simp)).1, rfl⟩, ?_⟩
  rw [show isMach (.tup [nm, bg, tp, st, gd]) = isMachP nm bg tp st gd from rfl]
  cases e1 : isNames nm 5 with
  | false =>
    walk_at "dw"
    have e : isMachP nm bg tp st gd = false := by unfold isMachP; split <;> simp [e1]
    rw [e]
    rfl
  | true =>
    obtain ⟨N, rfl⟩ : ∃ N, nm = .tup N := by cases nm <;> first | exact ⟨_, rfl⟩ | (simp [isNames] at e1)
    walk_at "dw"
    cases bg <;> first | (walk_at "dw"; rfl) | (simp [ok] at o2; done) | skip
    rename_i B
    walk_at "dw"
    cases st <;> first | (walk_at "dw"; rfl) | (simp [ok] at o4; done) | skip
    rename_i S
    have hB := (sx (.tup B) (by simp)).1 B rfl
    have hS := (sx (.tup S) (by simp)).1 S rfl
    have rB := (sx (.tup B) (by simp)).2 B rfl
    have rS := (sx (.tup S) (by simp)).2 S rfl
    walk_at "dw"
    refine i_dec (fun z1 => ?_) (fun z1 => ?_)
    case refine_2 =>
      walk_at "dw"
      have e : isMachP (.tup N) (.tup B) tp (.tup S) gd = false := by simp [isMachP, decide_eq_false z1]
      rw [e]
      rfl
    walk_at "dw"
    refine i_ndec (fun z2 => ?_) (fun z2 => ?_)
    · walk_at "dw"
      have e : isMachP (.tup N) (.tup B) tp (.tup S) gd = false := by simp [isMachP, decide_eq_false z2]
      rw [e]
      rfl
    walk_at "dw"
    refine d_lenS rfl (by decide +kernel) ?_
    walk_at "dw"
    rw [show (((Str.ofString "abcdefgh").length : Nat) : Int) = 8 by decide +kernel]
    refine i_ndec (fun z3 => ?_) (fun z3 => ?_)
    · walk_at "dw"
      have e : isMachP (.tup N) (.tup B) tp (.tup S) gd = false := by simp [isMachP, decide_eq_false z3]
      rw [e]
      rfl
    walk_at "dw"
    refine d_lcP (only_name (by decide)) ?_
    walk_at "dw"
    refine ⟨by omega, trivial, rfl, fun j => .bl ((fun r => isRow r (S.length : Nat) (S.length : Nat)) (S.getD j .non)), fun c2 j hj => ?_, fun p => ?_⟩
    · have hm : S.getD j .non ∈ S := List.mem_of_getElem? (getD_at (d := D.non) hj)
      have ho : ok (S.getD j .non) = true := okL_get (by simpa [ok] using o4)
      walk_at "dw"
      refine d_callR (ok0 c2) ?_
      walk_at "dw"
      refine ⟨_, _, rfl, ⟨_, _, _, rfl, ho, fun l e => by have := rS _ hm l e; omega, rfl⟩, ?_⟩
      exact ⟨rfl, rfl⟩
    rw [range_getD S .non fun x => D.bl ((fun r => isRow r (S.length : Nat) (S.length : Nat)) x)]
    walk_at "dw"
    refine d_all (bs := S.map fun x => (fun r => isRow r (S.length : Nat) (S.length : Nat)) x) rfl (by rw [List.map_map]; rfl) ?_
    rw [show (S.map fun x => (fun r => isRow r (S.length : Nat) (S.length : Nat)) x).all id = S.all fun x => (fun r => isRow r (S.length : Nat) (S.length : Nat)) x by rw [List.all_map]; rfl]
    cases e4 : S.all fun x => (fun r => isRow r (S.length : Nat) (S.length : Nat)) x with
    | false =>
      walk_at "dw"
      have e : isMachP (.tup N) (.tup B) tp (.tup S) gd = false := by
        have e4 : (S.all fun r => isRow r (S.length : Nat) (S.length : Nat)) = false := e4
        simp [isMachP, e4]
      rw [e]
      rfl
    | true =>
    have hN : N.length ≤ 5 := by
      simp only [isNames, Bool.and_eq_true, decide_eq_true_eq] at e1
      omega
    walk_at "dw"
    refine d_lcP (only_name (by decide)) ?_
    walk_at "dw"
    refine ⟨by omega, trivial, rfl, fun j => .bl ((fun r => isRow r (2 ^ N.length) (S.length : Nat)) (B.getD j .non)), fun c2 j hj => ?_, fun p => ?_⟩
    · have hm : B.getD j .non ∈ B := List.mem_of_getElem? (getD_at (d := D.non) hj)
      have ho : ok (B.getD j .non) = true := okL_get (by simpa [ok] using o2)
      walk_at "dw"
      refine d_callR (ok0 c2) ?_
      walk_at "dw"
      refine d_callR (ok0 c2) ?_
      walk_at "dw"
      refine ⟨_, _, rfl, ⟨N, rfl, hN, rfl⟩, ?_⟩
      walk_at "dw"
      refine ⟨_, _, rfl, ⟨_, _, _, rfl, ho, fun l e => by have := rB _ hm l e; omega, rfl⟩, ?_⟩
      exact ⟨rfl, rfl⟩
    rw [range_getD B .non fun x => D.bl ((fun r => isRow r (2 ^ N.length) (S.length : Nat)) x)]
    walk_at "dw"
    refine d_all (bs := B.map fun x => (fun r => isRow r (2 ^ N.length) (S.length : Nat)) x) rfl (by rw [List.map_map]; rfl) ?_
    rw [show (B.map fun x => (fun r => isRow r (2 ^ N.length) (S.length : Nat)) x).all id = B.all fun x => (fun r => isRow r (2 ^ N.length) (S.length : Nat)) x by rw [List.all_map]; rfl]
    have e4 : (S.all fun r => isRow r (S.length : Nat) (S.length : Nat)) = true := e4
    cases e5 : B.all fun x => (fun r => isRow r (2 ^ N.length) (S.length : Nat)) x with
    | false =>
      walk_at "dw"
      have e5 : (B.all fun r => isRow r (2 ^ N.length) (S.length : Nat)) = false := e5
      have e : isMachP (.tup N) (.tup B) tp (.tup S) gd = false := by simp [isMachP, e5]
      rw [e]
      rfl
    | true =>
    have e5 : (B.all fun r => isRow r (2 ^ N.length) (S.length : Nat)) = true := e5
    have e : isMachP (.tup N) (.tup B) tp (.tup S) gd = (isBelow tp (S.length : Nat) && isGood gd (S.length : Nat)) := by
      simp only [isMachP, e1, e4, e5, decide_eq_true z1, decide_eq_true z2, decide_eq_true z3, Bool.and_self, Bool.true_and]
    rw [e]
    walk_at "dw"
    refine d_callR hx ?_
    walk_at "dw"
    refine ⟨_, _, rfl, ⟨tp, _, rfl, ok_pl o3, rfl⟩, ?_⟩
    cases e6 : isBelow tp (S.length : Nat) with
    | false =>
      walk_at "dw"
      rfl
    | true =>
      walk_at "dw"
      refine d_callR hx ?_
      walk_at "dw"
      refine ⟨_, _, rfl, ⟨gd, _, rfl, o5, (sx gd (by simp)).1, rfl⟩, ?_⟩
      rw [Bool.true_and]
      rfl
theorem cd_is_machine_form (T : Txt K mg) : Cal P w K mg base 4 "is_machine_form" (toSp (gb P w K) (spO K soMach)) := T.d_is_machine_form.cal sc_is_machine_form (len_spO fun ds out ⟨_, h, _⟩ => by rw [h]; rfl) (bd_is_machine_form T (cd_is_names_form T) (cd_is_row T) (cd_lays_of T) (cd_is_below T) (cd_is_good_row T))
end

end K67

set_option maxHeartbeats 4000000
namespace K67
open PySem PySem.Spec PyProof.Rows L2 KB KM
open KD hiding Dp
section
variable {P : Program} {w : World} {K : PySem.W.Frag} {mg : Str → Option Value} {base : Heap}
/-! ### what is wanted -/
def soNeedMach (ds : List D) (out : Out) : Prop := ∃ d, ds = [d] ∧ ok d = true ∧ SmM d ∧ out = if isMach d = true then .ret .non else .exc "BadMachine"
abbrev s_need_machine : Stmt := (top 32)
theorem sc_need_machine : FnScope ["machine"] ["machine"] (defScope s_need_machine) := ⟨rfl, rfl, rfl, by decide +kernel, rfl, by decide +kernel, by decide +kernel⟩
theorem bd_need_machine (T : Txt K mg) (C_is_machine_form : Cal P w K mg base 4 "is_machine_form" (toSp (gb P w K) (spO K soMach))) : Body P w K mg base (4) ["machine"] "need_machine" (defScope s_need_machine) (defBody s_need_machine) (toSp (gb P w K) (spO K soNeedMach)) := by
  intro f cdv A outer s H vs Q E hr h
  have hu := hu_of hr
  have tk : Takes (cxOf (L2.CX P w) P w K mg base ["machine"] "need_machine" (defScope s_need_machine) f cdv A outer s H E) (WF E) := takes_of rfl rfl rfl rfl
  refine ⟨_, (pss_one (ps_if (pt_not (pt_val (pe_cal C_is_machine_form hr (by omega) tk (pa_cons (pv 0) pa_nil)))) (pss_one (ps_raiseD T.x_BadMachine tk)) pss_nil)), ?_⟩
  try dsimp only [cxOf]
  refine d_startO h fun ds out hS c hx hM => ?_
  obtain ⟨d, rfl, hp, sm, rfl⟩ := hS
  refine d_st (δ' := [.fz d]) (by rfl) ?_
  walk_at "dw"
  refine d_callR hx ?_
  walk_at "dw"
  refine ⟨_, _, rfl, ⟨d, rfl, hp, sm, rfl⟩, ?_⟩
  walk_at "dw"
  cases e : isMach d with
  | false =>
    walk_at "dw"
    refine d_raise hx ?_
    first | rfl | (rw [e]; rfl)
  | true =>
    walk_at "dw"
    first | rfl | (rw [e]; rfl)
theorem cd_need_machine (T : Txt K mg) : Cal P w K mg base 5 "need_machine" (toSp (gb P w K) (spO K soNeedMach)) := T.d_need_machine.cal sc_need_machine (len_spO fun ds out ⟨_, h, _⟩ => by rw [h]; rfl) (bd_need_machine T (cd_is_machine_form T))
def soNeedNode (ds : List D) (out : Out) : Prop := ∃ l d, ds = [.tup l, d] ∧ l.length ≤ 1000000 ∧ d.pl = true ∧ out = if isBelow d (l.length : Nat) = true then .ret .non else .exc "BadNode"
abbrev s_need_node : Stmt := (top 20)
theorem sc_need_node : FnScope ["document", "node"] ["document", "node"] (defScope s_need_node) := ⟨rfl, rfl, rfl, by decide +kernel, rfl, by decide +kernel, by decide +kernel⟩
theorem bd_need_node (T : Txt K mg) (C_is_below : Cal P w K mg base 2 "is_below" (toSp (gb P w K) (spO K soBelow))) : Body P w K mg base (2) ["document", "node"] "need_node" (defScope s_need_node) (defBody s_need_node) (toSp (gb P w K) (spO K soNeedNode)) := by
  intro f cdv A outer s H vs Q E hr h
  have hu := hu_of hr
  have tk : Takes (cxOf (L2.CX P w) P w K mg base ["document", "node"] "need_node" (defScope s_need_node) f cdv A outer s H E) (WF E) := takes_of rfl rfl rfl rfl
  refine ⟨_, (pss_one (ps_if (pt_not (pt_val (pe_cal C_is_below hr (by omega) tk (pa_cons (pv 1) (pa_cons (pe_callB call_lenK (by rfl) T.g_len (by decide +kernel) (pa_cons (pv 0) pa_nil)) pa_nil))))) (pss_one (ps_raiseD T.x_BadNode tk)) pss_nil)), ?_⟩
  try dsimp only [cxOf]
  refine d_startO h fun ds out hS c hx hM => ?_
  obtain ⟨l, d, rfl, hl, hp, rfl⟩ := hS
  have hz : (1000000 : Nat) < sizeLine := by decide
  refine d_st (δ' := [.fz (.tup l), .fz d]) (by rfl) ?_
  walk_at "dw"
  refine d_callR hx ?_
  walk_at "dw"
  refine ⟨_, _, rfl, ⟨d, _, rfl, hp, rfl⟩, ?_⟩
  walk_at "dw"
  cases e : isBelow d (l.length : Nat) with
  | false =>
    walk_at "dw"
    refine d_raise hx ?_
    first | rfl | (rw [e]; rfl)
  | true =>
    walk_at "dw"
    first | rfl | (rw [e]; rfl)
theorem cd_need_node (T : Txt K mg) : Cal P w K mg base 3 "need_node" (toSp (gb P w K) (spO K soNeedNode)) := T.d_need_node.cal sc_need_node (len_spO fun ds out ⟨_, _, h, _⟩ => by rw [h]; rfl) (bd_need_node T (cd_is_below T))
end

end K67

set_option maxHeartbeats 4000000
namespace K67
open PySem PySem.Spec PyProof.Rows L2 KB KM
open KD hiding Dp
section
variable {P : Program} {w : World} {K : PySem.W.Frag} {mg : Str → Option Value} {base : Heap}
/-! ### the end of a piece -/
def inP (ds : List Nat) (nd k : Nat) : Prop := nd < k ∧ k < ds.length ∧ ds.getD nd 0 < ds.getD k 0
/-- e is behind the piece of nd -/
structure EndIs (ds : List Nat) (nd e : Nat) : Prop where
  lo : nd < e
  hi : e ≤ ds.length
  all : ∀ k, nd < k → k < e → ds.getD nd 0 < ds.getD k 0
  stop : e < ds.length → ds.getD e 0 ≤ ds.getD nd 0
def soEnd (ds : List D) (out : Out) : Prop := ∃ l nd e, ds = [.tup (docL l), .int (nd : Nat)] ∧ nd < l.length ∧ l.length ≤ 100000 ∧ EndIs (dps l) nd e ∧ out = .ret (.int (e : Nat))
abbrev s_end_of : Stmt := (top 22)
theorem sc_end_of : FnScope ["document", "node", "end"] ["document", "node"] (defScope s_end_of) := ⟨rfl, rfl, rfl, by decide +kernel, rfl, by decide +kernel, by decide +kernel⟩
theorem bd_end_of (T : Txt K mg) : Body P w K mg base (0) ["document", "node", "end"] "end_of" (defScope s_end_of) (defBody s_end_of) (toSp (gb P w K) (spO K soEnd)) := by
  intro f cdv A outer s H vs Q E hr h
  have hu := hu_of hr
  have tk : Takes (cxOf (L2.CX P w) P w K mg base ["document", "node", "end"] "end_of" (defScope s_end_of) f cdv A outer s H E) (WF E) := takes_of rfl rfl rfl rfl
  refine ⟨_, (pss_cons (ps_set (i := 2) sc_end_of.nd rfl (Or.inl rfl) (pe_op op_add (pv 1) pe_int))
    (pss_cons (ps_while (passes_of rfl) (PW.pt (pw_and (pt_cmpR op_lt (pv 2) (pe_callB call_lenK (by rfl) T.g_len (by decide +kernel) (pa_cons (pv 0) pa_nil)) (nomark _)) (pw_and1 (pt_cmpR op_gt (pe_ix ix_seq (pe_ix ix_seq (pv 0) (pv 2) (fun _ _ => rfl)) pe_int (fun _ _ => rfl)) (pe_ix ix_seq (pe_ix ix_seq (pv 0) (pv 1) (fun _ _ => rfl)) pe_int (fun _ _ => rfl)) (nomark _))))) (pss_one (ps_aug (i := 2) sc_end_of.nd rfl (Or.inl rfl) pe_int ip_add)))
    (pss_one (ps_ret (pv 2))))), ?_⟩
  try dsimp only [cxOf]
  refine d_startO h fun ds out hS c hx hM => ?_
  obtain ⟨l, nd, e, rfl, hnd, hl, he, rfl⟩ := hS
  have hz : (100000 : Nat) < sizeLine := by decide
  have hi := he.hi
  rw [fo_len] at hi
  refine d_st (δ' := [.fz (.tup (docL l)), .fz (.int nd), .no]) (by rfl) ?_
  walk_at "dw"
  rw [show ((nd : Nat) : Int) + 1 = ((nd + 1 : Nat) : Int) by omega]
  refine d_while (fun n δ => ∃ k, n = l.length - k ∧ nd < k ∧ k ≤ e ∧ δ = [.fz (.tup (docL l)), .fz (.int nd), .fz (.int k)]) _ ⟨nd + 1, rfl, by omega, he.lo, rfl⟩ ?_
  rintro n δ ⟨k, rfl, h1, h2, rfl⟩
  walk_at "dw"
  rw [docL_len]
  have end_ : k = e → True := fun _ => trivial
  refine i_dec (fun z => ?_) (fun z => ?_)
  · have hk : k < l.length := by omega
    obtain ⟨m1, e1⟩ := docL_get hk
    obtain ⟨m2, e2⟩ := docL_get hnd
    have a1 : atI (docL l) ((k : Nat) : Int) = some (.tup [.str m1, .int ((dps l).getD k 0 : Nat)]) := by
      unfold atI ixN
      rw [if_pos (by omega), if_pos (by rw [docL_len]; omega)]
      show (docL l)[((k : Nat) : Int).toNat]? = _
      rw [Int.toNat_natCast, getD_at (d := .non) (by rw [docL_len]; omega), e1]
    have a2 : atI (docL l) ((nd : Nat) : Int) = some (.tup [.str m2, .int ((dps l).getD nd 0 : Nat)]) := by
      unfold atI ixN
      rw [if_pos (by omega), if_pos (by rw [docL_len]; omega)]
      show (docL l)[((nd : Nat) : Int).toNat]? = _
      rw [Int.toNat_natCast, getD_at (d := .non) (by rw [docL_len]; omega), e2]
    walk_at "dw"
    refine d_ix (i := (k : Nat)) rfl rfl a1 ?_
    walk_at "dw"
    refine d_ix (i := 1) (d := .int ((dps l).getD k 0 : Nat)) rfl rfl rfl ?_
    walk_at "dw"
    refine d_ix (i := (nd : Nat)) rfl rfl a2 ?_
    walk_at "dw"
    refine d_ix (i := 1) (d := .int ((dps l).getD nd 0 : Nat)) rfl rfl rfl ?_
    walk_at "dw"
    refine i_dec (fun z2 => ?_) (fun z2 => ?_)
    · walk_at "dw"
      refine d_augI (i := 2) (n := (k : Nat)) rfl ?_
      walk_at "dw"
      refine ⟨l.length - (k + 1), by omega, k + 1, rfl, by omega, ?_, ?_⟩
      · by_cases q : k = e
        · subst q
          have := he.stop (by rw [fo_len]; exact hk)
          omega
        · omega
      · rw [show ((k : Nat) : Int) + 1 = ((k + 1 : Nat) : Int) by omega]
        rfl
    · walk_at "dw"
      have q : k = e := by
        by_cases q : k = e
        · exact q
        · have := he.all k h1 (by omega)
          omega
      rw [q]
      rfl
  · have q : k = e := by omega
    walk_at "dw"
    rw [q]
    rfl
theorem cd_end_of (T : Txt K mg) : Cal P w K mg base 1 "end_of" (toSp (gb P w K) (spO K soEnd)) := T.d_end_of.cal sc_end_of (len_spO fun ds out ⟨_, _, _, h, _⟩ => by rw [h]; rfl) (bd_end_of T)
end

end K67

set_option maxHeartbeats 4000000
namespace K67
open PySem PySem.Spec PyProof.Rows L2 KB KM
open KD hiding Dp
section
variable {P : Program} {w : World} {K : PySem.W.Frag} {mg : Str → Option Value} {base : Heap}
/-! ### the children -/
def rowTop (ds : List Nat) : List Nat := (List.range ds.length).filter fun i => decide (ds.getD i 0 = 0)
def soRowTop (ds : List D) (out : Out) : Prop := ∃ l, ds = [.tup (docL l), .non] ∧ l.length ≤ 100000 ∧ out = .lst (intL (rowTop (dps l)))
abbrev s_row_of : Stmt := (top 23)
theorem sc_row_of : FnScope ["document", "node", "child", "mark", "depth", "below"] ["document", "node"] (defScope s_row_of) := ⟨rfl, rfl, rfl, by decide +kernel, rfl, by decide +kernel, by decide +kernel⟩
theorem bd_row_top (T : Txt K mg) (C_end_of : Cal P w K mg base 1 "end_of" (toSp (gb P w K) (spO K soEnd))) : Body P w K mg base (1) ["document", "node", "child", "mark", "depth", "below"] "row_of" (defScope s_row_of) (defBody s_row_of) (toSp (gb P w K) (spO K soRowTop)) := by
  intro f cdv A outer s H vs Q E hr h
  have hu := hu_of hr
  have tk : Takes (cxOf (L2.CX P w) P w K mg base ["document", "node", "child", "mark", "depth", "below"] "row_of" (defScope s_row_of) f cdv A outer s H E) (WF E) := takes_of rfl rfl rfl rfl
  refine ⟨_, (pss_cons (ps_if (pt_cmpR op_isN1 (pv 1) pe_non (nomark _)) (pss_one (ps_ret (pe_lc (own := [("child", 2), ("mark", 3), ("depth", 4)]) (g := (gTup K 2 (gCons (gName 2) (gCons (gTup K 2 (gCons (gName 3) (gCons (gName 4) gNil))) gNil)))) (by rfl) sc_row_of.nd  (pi_enumT (by rfl) T.g_enumerate (pa_cons (pv 0) pa_nil)) (blkOk_by (own := [("child", 2), ("mark", 3), ("depth", 4)]) (N := ["document", "node", "child", "mark", "depth", "below"]) (sc := defScope s_row_of) (by decide +kernel)) (fun _ _ _ _ _ => (pg_tup (n := 2) (by rfl) (pgs_cons (pg_name (i := 2) sc_row_of.nd rfl (Or.inl rfl)) (pgs_cons (pg_tup (n := 2) (by rfl) (pgs_cons (pg_name (i := 3) sc_row_of.nd rfl (Or.inl rfl)) (pgs_cons (pg_name (i := 4) sc_row_of.nd rfl (Or.inl rfl)) pgs_nil))) pgs_nil)))) (fun _ _ _ _ _ => (pts_one (pt_cmpR op_eq (pv 4) pe_int (nomark _)))) (fun _ _ _ _ _ => (pv 2))))) pss_nil)
    (pss_cons (ps_set (i := 5) sc_row_of.nd rfl (Or.inr rfl) (pe_op op_add (pe_ix ix_seq (pe_ix ix_seq (pv 0) (pv 1) (fun _ _ => rfl)) pe_int (fun _ _ => rfl)) pe_int))
    (pss_one (ps_ret (pe_lc (own := [("child", 2)]) (g := (gName 2)) (by rfl) sc_row_of.nd  (pi_range2 rfl T.g_range (pa_cons (pe_op op_add (pv 1) pe_int) (pa_cons (pe_cal C_end_of hr (by omega) takesN (pa_cons (pv 0) (pa_cons (pv 1) pa_nil))) pa_nil))) (blkOk_by (own := [("child", 2)]) (N := ["document", "node", "child", "mark", "depth", "below"]) (sc := defScope s_row_of) (by decide +kernel)) (fun _ _ _ _ _ => (pg_name (i := 2) sc_row_of.nd rfl (Or.inl rfl))) (fun _ _ _ _ _ => (pts_one (pt_cmpR op_eq (pe_ix (ix_seqK (K := K) rfl) (pe_ix (ix_seqK (K := K) rfl) (pv 0) (pv 2) (fun _ _ => rfl)) pe_int (fun _ _ => rfl)) (pv 5) (nomark _)))) (fun _ _ _ _ _ => (pv 2))))))), ?_⟩
  try dsimp only [cxOf]
  refine d_startO h fun ds out hS c hx hM => ?_
  obtain ⟨l, rfl, hl, rfl⟩ := hS
  have hz : (100000 : Nat) < sizeLine := by decide
  refine d_st (δ' := [.fz (.tup (docL l)), .fz .non, .no, .no, .no, .no]) (by rfl) ?_
  walk_at "dw"
  refine d_lcPF (only_tup (only_cons (only_name (by decide)) (only_cons (only_tup (only_cons (only_name (by decide)) (only_cons (only_name (by decide)) only_nil))) only_nil))) ?_
  refine d_iEnumT rfl ?_
  walk_at "dw"
  refine ⟨_, rfl, by rw [docL_len]; omega, trivial, rfl, fun j => .int (j : Nat), fun j => decide ((dps l).getD j 0 = 0), fun c2 j hj => ?_, fun a => ?_⟩
  · rw [docL_len] at hj
    obtain ⟨m, em⟩ := docL_get hj
    dsimp only
    rw [em]
    walk_at "dw"
    refine ⟨decide_eq_decide.mpr (by omega), ?_⟩
    refine i_dec (fun z => ?_) (fun z => rfl)
    walk_at "dw"
    exact ⟨rfl, rfl⟩
  · rw [docL_len]
    refine ⟨a, ?_⟩
    rw [intL, rowTop, fo_len]
theorem cd_row_top (T : Txt K mg) : Cal P w K mg base 2 "row_of" (toSp (gb P w K) (spO K soRowTop)) := T.d_row_of.cal sc_row_of (len_spO fun ds out ⟨_, h, _⟩ => by rw [h]; rfl) (bd_row_top T (cd_end_of T))
end
section
variable {P : Program} {w : World} {K : PySem.W.Frag} {mg : Str → Option Value} {base : Heap}
def rowNode (ds : List Nat) (nd e : Nat) : List Nat := ((List.range (e - (nd + 1))).filter fun j => decide (ds.getD (nd + 1 + j) 0 = ds.getD nd 0 + 1)).map fun j => nd + 1 + j
def soRowNode (ds : List D) (out : Out) : Prop := ∃ l nd e, ds = [.tup (docL l), .int (nd : Nat)] ∧ nd < l.length ∧ l.length ≤ 100000 ∧ EndIs (dps l) nd e ∧ out = .lst (intL (rowNode (dps l) nd e))
theorem bd_row_node (T : Txt K mg) (C_end_of : Cal P w K mg base 1 "end_of" (toSp (gb P w K) (spO K soEnd))) : Body P w K mg base (1) ["document", "node", "child", "mark", "depth", "below"] "row_of" (defScope s_row_of) (defBody s_row_of) (toSp (gb P w K) (spO K soRowNode)) := by
  intro f cdv A outer s H vs Q E hr h
  have hu := hu_of hr
  have tk : Takes (cxOf (L2.CX P w) P w K mg base ["document", "node", "child", "mark", "depth", "below"] "row_of" (defScope s_row_of) f cdv A outer s H E) (WF E) := takes_of rfl rfl rfl rfl
  refine ⟨_, (pss_cons (ps_if (pt_cmpR op_isN1 (pv 1) pe_non (nomark _)) (pss_one (ps_ret (pe_lc (own := [("child", 2), ("mark", 3), ("depth", 4)]) (g := (gTup K 2 (gCons (gName 2) (gCons (gTup K 2 (gCons (gName 3) (gCons (gName 4) gNil))) gNil)))) (by rfl) sc_row_of.nd  (pi_enumT (by rfl) T.g_enumerate (pa_cons (pv 0) pa_nil)) (blkOk_by (own := [("child", 2), ("mark", 3), ("depth", 4)]) (N := ["document", "node", "child", "mark", "depth", "below"]) (sc := defScope s_row_of) (by decide +kernel)) (fun _ _ _ _ _ => (pg_tup (n := 2) (by rfl) (pgs_cons (pg_name (i := 2) sc_row_of.nd rfl (Or.inl rfl)) (pgs_cons (pg_tup (n := 2) (by rfl) (pgs_cons (pg_name (i := 3) sc_row_of.nd rfl (Or.inl rfl)) (pgs_cons (pg_name (i := 4) sc_row_of.nd rfl (Or.inl rfl)) pgs_nil))) pgs_nil)))) (fun _ _ _ _ _ => (pts_one (pt_cmpR op_eq (pv 4) pe_int (nomark _)))) (fun _ _ _ _ _ => (pv 2))))) pss_nil)
    (pss_cons (ps_set (i := 5) sc_row_of.nd rfl (Or.inr rfl) (pe_op op_add (pe_ix ix_seq (pe_ix ix_seq (pv 0) (pv 1) (fun _ _ => rfl)) pe_int (fun _ _ => rfl)) pe_int))
    (pss_one (ps_ret (pe_lc (own := [("child", 2)]) (g := (gName 2)) (by rfl) sc_row_of.nd  (pi_range2 rfl T.g_range (pa_cons (pe_op op_add (pv 1) pe_int) (pa_cons (pe_cal C_end_of hr (by omega) takesN (pa_cons (pv 0) (pa_cons (pv 1) pa_nil))) pa_nil))) (blkOk_by (own := [("child", 2)]) (N := ["document", "node", "child", "mark", "depth", "below"]) (sc := defScope s_row_of) (by decide +kernel)) (fun _ _ _ _ _ => (pg_name (i := 2) sc_row_of.nd rfl (Or.inl rfl))) (fun _ _ _ _ _ => (pts_one (pt_cmpR op_eq (pe_ix (ix_seqK (K := K) rfl) (pe_ix (ix_seqK (K := K) rfl) (pv 0) (pv 2) (fun _ _ => rfl)) pe_int (fun _ _ => rfl)) (pv 5) (nomark _)))) (fun _ _ _ _ _ => (pv 2))))))), ?_⟩
  try dsimp only [cxOf]
  refine d_startO h fun ds out hS c hx hM => ?_
  obtain ⟨l, nd, e, rfl, hnd, hl, he, rfl⟩ := hS
  have hz : (100000 : Nat) < sizeLine := by decide
  have hi := he.hi
  have lo := he.lo
  rw [fo_len] at hi
  obtain ⟨m2, e2⟩ := docL_get hnd
  have at_ : ∀ k, k < l.length → ∃ m, atI (docL l) ((k : Nat) : Int) = some (.tup [.str m, .int ((dps l).getD k 0 : Nat)]) := fun k hk => by
    obtain ⟨m1, e1⟩ := docL_get hk
    refine ⟨m1, ?_⟩
    unfold atI ixN
    rw [if_pos (by omega), if_pos (by rw [docL_len]; omega)]
    show (docL l)[((k : Nat) : Int).toNat]? = _
    rw [Int.toNat_natCast, getD_at (d := .non) (by rw [docL_len]; omega), e1]
  obtain ⟨m, am⟩ := at_ nd hnd
  refine d_st (δ' := [.fz (.tup (docL l)), .fz (.int nd), .no, .no, .no, .no]) (by rfl) ?_
  walk_at "dw"
  refine d_ix (i := (nd : Nat)) rfl rfl am ?_
  walk_at "dw"
  refine d_ix (i := 1) (d := .int ((dps l).getD nd 0 : Nat)) rfl rfl rfl ?_
  walk_at "dw"
  refine d_lcPF (only_name (by decide)) ?_
  walk_at "dw"
  refine d_callR (ok0 c) ?_
  walk_at "dw"
  refine ⟨_, _, rfl, ⟨l, nd, e, rfl, hnd, hl, he, rfl⟩, ?_⟩
  walk_at "dw"
  rw [show ((nd : Nat) : Int) + 1 = ((nd + 1 : Nat) : Int) by omega]
  refine ⟨_, _, rfl, ⟨by omega, by omega, by omega, by omega⟩, by omega, trivial, rfl, fun j => .int ((nd + 1 + j : Nat) : Int), fun j => decide ((dps l).getD (nd + 1 + j) 0 = (dps l).getD nd 0 + 1), fun c2 j hj => ?_, fun a => ?_⟩
  · have hj2 : nd + 1 + j < l.length := by omega
    obtain ⟨m3, am3⟩ := at_ (nd + 1 + j) hj2
    dsimp only
    rw [show ((nd + 1 : Nat) : Int) + (j : Nat) = ((nd + 1 + j : Nat) : Int) by omega]
    walk_at "dw"
    refine d_ix (i := ((nd + 1 + j : Nat) : Int)) rfl rfl am3 ?_
    walk_at "dw"
    refine d_ix (i := 1) (d := .int ((dps l).getD (nd + 1 + j) 0 : Nat)) rfl rfl rfl ?_
    walk_at "dw"
    refine ⟨decide_eq_decide.mpr (by omega), ?_⟩
    refine i_dec (fun z => ?_) (fun z => rfl)
    walk_at "dw"
    exact ⟨rfl, rfl⟩
  · refine ⟨a, ?_⟩
    rw [show (((e : Nat) : Int) - ((nd + 1 : Nat) : Int)).toNat = e - (nd + 1) by omega, intL, rowNode, List.map_map]
    rfl
theorem cd_row_node (T : Txt K mg) : Cal P w K mg base 2 "row_of" (toSp (gb P w K) (spO K soRowNode)) := T.d_row_of.cal sc_row_of (len_spO fun ds out ⟨_, _, _, h, _⟩ => by rw [h]; rfl) (bd_row_node T (cd_end_of T))
end

end K67

set_option maxHeartbeats 4000000
namespace K67
open PySem PySem.Spec PyProof.Rows L2 KB KM
open KD hiding Dp
section
variable {P : Program} {w : World} {K : PySem.W.Frag} {mg : Str → Option Value} {base : Heap}
/-- a text of marks -/
def Mks8 (z : Str) : Prop := 0 < z.length ∧ z.length ≤ 100 ∧ ∀ (i ch : Nat), z.cps.toList[i]? = some ch → isMark (.str ⟨#[ch]⟩) = true ∧ 97 ≤ ch ∧ ch < 105
/-- all marks are plain -/
def M8 (l : List (Str × Nat)) : Prop := ∀ p ∈ l, ∃ ch : Nat, 97 ≤ ch ∧ ch < 105 ∧ p.1 = ⟨#[ch]⟩
theorem mks8_of {z : Str} (h : (decide (0 < z.length) && decide (z.length ≤ 100) && z.cps.toList.all fun ch => isMark (.str ⟨#[ch]⟩) && (decide (97 ≤ ch) && decide (ch < 105))) = true) : Mks8 z := by
  simp only [Bool.and_eq_true, decide_eq_true_eq, List.all_eq_true] at h
  exact ⟨h.1.1, h.1.2, fun i ch e => h.2 ch (List.mem_of_getElem? e)⟩
def soDocument8 (ds : List D) (k : Nat) (T : KD.R → Prop) : Prop := ∃ most : Nat, ds = [.int most] ∧ most ≤ 1000 ∧ k = 3 + 3 * most ∧ T = fun r => ∃ l, r = .fz (.tup (docL l)) ∧ GoodDoc l most ∧ M8 l
theorem bd_law_document8 (T : Txt K mg) (C__law_draw : Cal P w K mg base 1 "_law_draw" (toSp (gb P w K) (spFd soDraw))) (C__law_one : Cal P w K mg base 2 "_law_one" (toSp (gb P w K) (spFd soOne))) (C__law_oneS : Cal P w K mg base 2 "_law_one" (toSp (gb P w K) (spFd soOneS))) :
    Body P w K mg base (2) ["feed", "most", "marks", "many", "way", "got", "depth", "turn", "steps"] "_law_document" (defScope s__law_document) (defBody s__law_document) (toSp (gb P w K) (spFd soDocument8)) := by
  intro f cdv A outer s H vs Q E hr h
  have hu := hu_of hr
  have tk : Takes (cxOf (L2.CX P w) P w K mg base ["feed", "most", "marks", "many", "way", "got", "depth", "turn", "steps"] "_law_document" (defScope s__law_document) f cdv A outer s H E) (WF E) := takes_of rfl rfl rfl rfl
  refine ⟨_, (pss_cons (ps_par3 (i := 2) (j := 3) (l := 4) (by rfl) sc__law_document.nd rfl rfl rfl (by decide) (by decide) (by decide) rfl rfl rfl (pa_cons (pe_cal C__law_one hr (by omega) tk (pa_cons (pv 0) (pa_cons (pe_lst (pa_cons pe_str (pa_cons pe_str (pa_cons pe_str (pa_cons pe_str (pa_cons pe_str pa_nil)))))) pa_nil))) (pa_cons (pe_cal C__law_draw hr (by omega) tk (pa_cons (pv 0) (pa_cons (pe_op op_add (pv 1) pe_int) pa_nil))) (pa_cons (pe_cal C__law_draw hr (by omega) tk (pa_cons (pv 0) (pa_cons pe_int pa_nil))) pa_nil))) (by rfl))
    (pss_cons (ps_x (ps_par (i := 5) (j := 6) (by rfl) sc__law_document.nd rfl rfl (by decide) rfl rfl (pa_cons (pe_lst pa_nil) (pa_cons (pe_un un_neg pe_int) pa_nil)) (by rfl)))
    (pss_cons (ps_for (passes_of rfl) rfl (pi_range1 rfl T.g_range (pa_cons (pv 3) pa_nil)) (pg_name (i := 7) sc__law_document.nd rfl (Or.inl rfl)) (Evl.pss_cut (ps_if (pt_cmpR op_eq (pv 4) pe_int (nomark _)) (pss_one (ps_set (i := 6) sc__law_document.nd rfl (Or.inl rfl) (pe_ifExp (pt_cmpR op_eq (pv 7) pe_int (nomark _)) pe_int pe_int))) (pss_one (ps_if (pt_cmpR op_eq (pv 4) pe_int (nomark _)) (pss_one (ps_set (i := 6) sc__law_document.nd rfl (Or.inl rfl) (pe_ifExp (pt_cmpR op_gt (pe_cal C__law_draw hr (by omega) tk (pa_cons (pv 0) (pa_cons pe_int pa_nil))) pe_int (nomark _)) (pe_op op_add (pv 6) pe_int) (pe_cal C__law_draw hr (by omega) tk (pa_cons (pv 0) (pa_cons (pe_op op_add (pv 6) pe_int) pa_nil)))))) (pss_cons (ps_set (i := 8) sc__law_document.nd rfl (Or.inl rfl) (pe_lst (pa_cons (pe_op op_add (pv 6) pe_int) (pa_cons (pe_op op_add (pv 6) pe_int) (pa_cons (pv 6) (pa_cons (pv 6) (pa_cons (pe_op op_sub (pv 6) pe_int) (pa_cons pe_int (pa_cons (pe_cal C__law_draw hr (by omega) tk (pa_cons (pv 0) (pa_cons (pe_op op_add (pv 6) pe_int) pa_nil))) pa_nil)))))))))
    (pss_one (ps_set (i := 6) sc__law_document.nd rfl (Or.inl rfl) (pe_callB (call_max2K rfl) (by rfl) T.g_max (by decide +kernel) (pa_cons pe_int (pa_cons (pe_callB (call_min2K rfl) (by rfl) T.g_min (by decide +kernel) (pa_cons (pe_op op_add (pv 6) pe_int) (pa_cons (pe_cal C__law_one hr (by omega) tk (pa_cons (pv 0) (pa_cons (pv 8) pa_nil))) pa_nil))) pa_nil)))))))))
    (pss_one (ps_expr (pe_bm PySem.F.plainAttrs_list PySem.F.slot_list_append PySem.F.type_list_append mt_append (pv 5) (pa_cons (pe_tup (pa_cons (pe_cal C__law_oneS hr (by omega) tk (pa_cons (pv 0) (pa_cons (pv 2) pa_nil))) (pa_cons (pv 6) pa_nil))) pa_nil))))))
    (pss_one (ps_ret (pe_callTy call_tupD (by rfl) T.g_tuple (by decide +kernel) (pa_cons (pv 5) pa_nil))))))), ?_⟩
  try dsimp only [cxOf]
  refine d_startF h fun fd xs n ds k T hF hn hS c hx hM => ?_
  obtain ⟨most, rfl, hm, rfl, rfl⟩ := hS
  refine d_st (δ' := [.ow (.fl fd xs), .fz (.int most), .no, .no, .no, .no, .no, .no, .no]) (by rfl) ?_
  walk_at "dw"
  refine d_callF hx ?_
  walk_at "dw"
  intro p
  walk_at "dw"
  refine ⟨0, _, fd, xs, n, _, 1, _, rfl, rfl, rfl, hF, by omega, ⟨_, _, rfl, rfl, by simp, by simp, rfl, rfl⟩, ?_⟩
  rintro r ys1 hF1 ⟨mk, hmk, rfl⟩
  obtain ⟨z, rfl, hz⟩ : ∃ z, mk = .str z ∧ Mks8 z := by
    simp only [List.mem_cons, List.not_mem_nil, or_false] at hmk
    rcases hmk with rfl | rfl | rfl | rfl | rfl
    · exact ⟨_, rfl, mks8_of (by decide +kernel)⟩
    · exact ⟨_, rfl, mks8_of (by decide +kernel)⟩
    · exact ⟨_, rfl, mks8_of (by decide +kernel)⟩
    · exact ⟨_, rfl, mks8_of (by decide +kernel)⟩
    · exact ⟨_, rfl, mks8_of (by decide +kernel)⟩
  walk_at "dw"
  refine d_callF hx ?_
  walk_at "dw"
  refine ⟨0, _, fd, ys1, n + 1, _, 1, _, rfl, rfl, rfl, hF1, by omega, ⟨_, rfl, by omega, by omega, rfl, rfl⟩, ?_⟩
  rintro r ys2 hF2 ⟨many, hmany, rfl⟩
  walk_at "dw"
  refine d_callF hx ?_
  walk_at "dw"
  refine ⟨0, _, fd, ys2, n + 2, _, 1, _, rfl, rfl, rfl, hF2, by omega, ⟨_, rfl, by decide, by decide, rfl, rfl⟩, ?_⟩
  rintro r ys3 hF3 ⟨way, hway, rfl⟩
  walk_at "dw"
  intro a1
  walk_at "dw"
  intro c1 up1
  walk_at "dw"
  refine ⟨_, _, _, _, rfl, .ow, .fz, ?_⟩
  walk_at "dw"
  refine d_for ?_
  walk_at "dw"
  refine ⟨_, rfl, by omega, by omega, ?_⟩
  refine ⟨fun i δ => ∃ l ys s1 s2, δ = [.ow (.fl fd ys), .fz (.int most), .fz (.str z), .fz (.int many), .fz (.int way), .ow (.fl a1 (docL l)), .fz (.int (lastI (dps l))), s1, s2] ∧ FdD (n + 3 + 3 * i) ys ∧ GoodDoc l i ∧ l.length = i ∧ M8 l,
    ⟨[], ys3, .no, .no, rfl, hF3, GoodDoc.nil 0, rfl, fun p m => nomatch m⟩, fun _ _ _ => trivial, ?_, ?_⟩
  · rintro i δ hi ⟨l, ys, s1, s2, rfl, hF, hg, hl, h8⟩
    have hlg := lastI_ge (dps l)
    have hlu : lastI (dps l) < 2000 := by
      have h1 := lastI_up hg.fo
      rw [fo_len] at h1
      omega
    have hi1 : i < 1000 := by omega
    dsimp only
    rw [Int.zero_add]
    walk_at "dw"
    refine d_cut (fun δ => ∃ (dep : Nat) (ys2 : List D) (s2 : Sl), δ = [.ow (.fl fd ys2), .fz (.int most), .fz (.str z), .fz (.int many), .fz (.int way), .ow (.fl a1 (docL l)), .fz (.int dep), .fz (.int i), s2] ∧ FdD (n + 3 + 3 * i + 2) ys2 ∧ (dep : Int) ≤ lastI (dps l) + 1) ?_ ?_
    · walk_at "dw"
      refine i_dec (fun e1 => ?_) (fun e1 => ?_)
      · walk_at "dw"
        refine i_dec (fun e2 => ?_) (fun e2 => ?_)
        · walk_at "dw"
          exact ⟨0, ys, s2, rfl, hF.mono (by omega), by omega⟩
        · walk_at "dw"
          have : 0 ≤ lastI (dps l) := lastI_pos (by intro q; have := congrArg List.length q; rw [fo_len, List.length_nil] at this; omega)
          exact ⟨1, ys, s2, rfl, hF.mono (by omega), by omega⟩
      · walk_at "dw"
        refine i_dec (fun e2 => ?_) (fun e2 => ?_)
        · walk_at "dw"
          refine d_callF hx ?_
          walk_at "dw"
          refine ⟨0, _, fd, ys, _, _, 1, _, rfl, rfl, rfl, hF, by omega, ⟨_, rfl, by decide, by decide, rfl, rfl⟩, ?_⟩
          rintro r ys4 hF4 ⟨k9, hk9, rfl⟩
          walk_at "dw"
          refine i_dec (fun e3 => ?_) (fun e3 => ?_)
          · walk_at "dw"
            exact ⟨(lastI (dps l) + 1).toNat, ys4, s2, by rw [Int.toNat_of_nonneg (by omega)]; rfl, hF4.mono (by omega), by omega⟩
          · walk_at "dw"
            refine d_callF hx ?_
            walk_at "dw"
            refine ⟨0, _, fd, ys4, _, _, 1, _, rfl, rfl, rfl, hF4, by omega, ⟨_, rfl, by omega, by omega, rfl, rfl⟩, ?_⟩
            rintro r ys5 hF5 ⟨k5, hk5, rfl⟩
            walk_at "dw"
            exact ⟨k5, ys5, s2, rfl, hF5, by omega⟩
        · walk_at "dw"
          refine d_callF hx ?_
          walk_at "dw"
          refine ⟨0, _, fd, ys, _, _, 1, _, rfl, rfl, rfl, hF, by omega, ⟨_, rfl, by omega, by omega, rfl, rfl⟩, ?_⟩
          rintro r ys4 hF4 ⟨k4, hk4, rfl⟩
          walk_at "dw"
          intro p5
          walk_at "dw"
          refine d_callF hx ?_
          walk_at "dw"
          refine ⟨0, _, fd, ys4, _, _, 1, _, rfl, rfl, rfl, hF4, by omega, ⟨_, _, rfl, rfl, by simp, by simp, rfl, rfl⟩, ?_⟩
          rintro r ys5 hF5 ⟨x5, hx5, rfl⟩
          obtain ⟨i5, rfl⟩ : ∃ i5 : Int, x5 = .int i5 := by
            simp only [List.mem_cons, List.not_mem_nil, or_false] at hx5
            rcases hx5 with rfl | rfl | rfl | rfl | rfl | rfl | rfl <;> exact ⟨_, rfl⟩
          walk_at "dw"
          exact ⟨(max 0 (min (lastI (dps l) + 1) i5)).toNat, ys5, _, by rw [Int.toNat_of_nonneg (by omega)]; rfl, hF5, by rw [Int.toNat_of_nonneg (by omega)]; omega⟩
    · rintro δ ⟨dep, ys2, s2, rfl, hF2, hdep⟩
      walk_at "dw"
      refine d_callF hx ?_
      walk_at "dw"
      refine ⟨0, _, fd, ys2, _, _, 1, _, rfl, rfl, rfl, hF2, by omega, ⟨z, rfl, hz.1, by have := hz.2.1; omega, rfl, rfl⟩, ?_⟩
      rintro r ys6 hF6 ⟨j6, ch, hch, rfl⟩
      walk_at "dw"
      refine d_append (i := 5) rfl rfl rfl ?_ ?_
      · rw [docL_len]; have : (100000 : Nat) < sizeLine := by decide
        omega
      refine ⟨l ++ [(⟨#[ch]⟩, dep)], ys6, .fz (.int i), s2, ?_, hF6.mono (by omega), hg.more _ dep (hz.2.2 j6 ch hch).1 hdep, by rw [List.length_append, hl]; rfl, fun p hp => ?_⟩
      rotate_left
      · rcases List.mem_append.mp hp with z | z
        · exact h8 p z
        · rw [List.mem_singleton.mp z]; exact ⟨ch, (hz.2.2 j6 ch hch).2.1, (hz.2.2 j6 ch hch).2.2, rfl⟩
      rw [docL_app]
      show _ = [_, _, _, _, _, _, Sl.fz (.int (lastI ((l ++ [((⟨#[ch]⟩ : Str), dep)]).map (·.2)))), _, _]
      rw [List.map_append, List.map_singleton, lastI_snoc]
      rfl
  · rintro δ ⟨l, ys, s1, s2, rfl, hF, hg, hl, h8⟩
    walk_at "dw"
    refine ⟨rfl, ys, rfl, hF.mono (by omega), l, rfl, hg.mono (by omega), h8⟩
theorem cd_law_document8 (T : Txt K mg) : Cal P w K mg base 3 "_law_document" (toSp (gb P w K) (spFd soDocument8)) := T.d__law_document.cal sc__law_document (len_spFd fun ds k T ⟨_, h, _⟩ => by rw [h]; rfl) (bd_law_document8 T (cd_draw T) (cd_one T) (cd_oneS T))
end

end K67

set_option maxHeartbeats 4000000
namespace K67
open PySem PySem.Spec PyProof.Rows L2 KB KM
open KD hiding Dp
section
open KW
/-! ### pieces of a document -/
def enD (ds : List Nat) (v : Nat) : Nat := v + 1 + ((ds.drop (v + 1)).takeWhile fun d => decide (ds.getD v 0 < d)).length
def chD (ds : List Nat) (v : Nat) : List Nat := rowNode ds v (enD ds v)
theorem takeW (p : Nat → Bool) : ∀ l : List Nat, (l.takeWhile p).length ≤ l.length ∧ (∀ k, k < (l.takeWhile p).length → p (l.getD k 0) = true) ∧ ((l.takeWhile p).length < l.length → p (l.getD (l.takeWhile p).length 0) = false)
  | [] => ⟨Nat.le_refl _, fun k h => by simp at h, fun h => by simp at h⟩
  | x :: r => by
    obtain ⟨h1, h2, h3⟩ := takeW p r
    rw [List.takeWhile_cons]
    cases e : p x with
    | false => exact ⟨Nat.zero_le _, fun k h => by simp at h, fun _ => by simpa using e⟩
    | true =>
      refine ⟨by simpa using h1, fun k hk => ?_, fun hk => ?_⟩
      · cases k with
        | zero => simpa using e
        | succ k => simpa using h2 k (by simpa using hk)
      · simpa using h3 (by simpa using hk)
theorem enD_is {ds : List Nat} {v : Nat} (h : v < ds.length) : EndIs ds v (enD ds v) := by
  obtain ⟨h1, h2, h3⟩ := takeW (fun d => decide (ds.getD v 0 < d)) (ds.drop (v + 1))
  rw [List.length_drop] at h1 h3
  have g : ∀ k, (ds.drop (v + 1)).getD k 0 = ds.getD (v + 1 + k) 0 := fun k => by
    rw [List.getD_eq_getElem?_getD, List.getElem?_drop, ← List.getD_eq_getElem?_getD]
  refine ⟨by unfold enD; omega, by unfold enD; omega, fun k k1 k2 => ?_, fun hk => ?_⟩
  · have := h2 (k - (v + 1)) (by unfold enD at k2; omega)
    rw [g, show v + 1 + (k - (v + 1)) = k by omega] at this
    simpa using this
  · have := h3 (by unfold enD at hk; omega)
    rw [g] at this
    have this : decide (ds.getD v 0 < ds.getD (enD ds v) 0) = false := this
    simpa using this
theorem EndIs.uniq {ds : List Nat} {v e f : Nat} (h : EndIs ds v e) (k : EndIs ds v f) : e = f := by
  rcases Nat.lt_trichotomy e f with q | q | q
  · have h1 := h.stop (by have := k.hi; omega)
    have h2 := k.all e h.lo q
    omega
  · exact q
  · have h1 := k.stop (by have := h.hi; omega)
    have h2 := h.all f k.lo q
    omega
theorem rowNode_eq (ds : List Nat) (v e : Nat) : rowNode ds v e = (List.range' (v + 1) (e - (v + 1))).filter fun k => decide (ds.getD k 0 = ds.getD v 0 + 1) := by
  rw [rowNode, List.range'_eq_map_range, List.filter_map]
  rfl
theorem rowTop_eq (ds : List Nat) : rowTop ds = (List.range' 0 (ds.length - 0)).filter fun k => decide (ds.getD k 0 = 0) := by
  rw [rowTop, List.range_eq_range']
  rfl
/-- a stretch in which nothing lies above depth D, as siblings -/
theorem sib_of {ds : List Nat} (hf : Fo 0 ds) (D : Nat) {e : Nat} (he : e ≤ ds.length) (hs : e < ds.length → ds.getD e 0 ≤ D) : ∀ (k a : Nat), e - a ≤ k → a ≤ e → (∀ w, a ≤ w → w < e → D ≤ ds.getD w 0) → (a < e → ds.getD a 0 = D) →
    Sib (enD ds) a ((List.range' a (e - a)).filter fun w => decide (ds.getD w 0 = D)) e
  | 0, a, hk, ha, _, _ => by
    obtain rfl : a = e := by omega
    rw [Nat.sub_self]
    rfl
  | k + 1, a, hk, ha, hall, hat => by
    by_cases q : a = e
    · subst q
      rw [Nat.sub_self]
      rfl
    · have hlt : a < e := by omega
      have ea := hat hlt
      have E := enD_is (ds := ds) (v := a) (by omega)
      have lo := E.lo
      have le : enD ds a ≤ e := by
        rcases Nat.lt_or_ge e (enD ds a) with z | z
        · have h1 := E.all e hlt z
          have h2 := hs (by have := E.hi; omega)
          omega
        · exact z
      have er : (List.range' a (e - a)).filter (fun w => decide (ds.getD w 0 = D)) = a :: (List.range' (enD ds a) (e - enD ds a)).filter fun w => decide (ds.getD w 0 = D) := by
        rw [show e - a = 1 + ((enD ds a - (a + 1)) + (e - enD ds a)) by omega, ← List.range'_append_1, ← List.range'_append_1, List.filter_append, List.filter_append, show a + 1 + (enD ds a - (a + 1)) = enD ds a by omega]
        have e1 : (List.range' a 1).filter (fun w => decide (ds.getD w 0 = D)) = [a] := by
          rw [List.range'_one, List.filter_cons, if_pos (by simpa using ea)]; rfl
        have e2 : (List.range' (a + 1) (enD ds a - (a + 1))).filter (fun w => decide (ds.getD w 0 = D)) = [] := by
          refine List.filter_eq_nil_iff.mpr fun w hw => ?_
          have := List.mem_range'_1.mp hw
          have := E.all w (by omega) (by omega)
          intro z
          rw [decide_eq_true_eq] at z
          omega
        rw [e1, e2]
        rfl
      rw [er]
      refine ⟨rfl, lo, sib_of hf D he hs k (enD ds a) (by omega) le (fun w h1 h2 => hall w (by omega) h2) fun h => ?_⟩
      have h1 := hall (enD ds a) (by omega) h
      have h2 := E.stop (by omega)
      omega
theorem frs_of {ds : List Nat} (hf : Fo 0 ds) : Frs ds.length (chD ds) (enD ds) where
  sib := fun v hv => by
    have E := enD_is hv
    unfold chD
    rw [rowNode_eq]
    refine sib_of hf (ds.getD v 0 + 1) E.hi (fun h => by have := E.stop h; omega) _ (v + 1) (Nat.le_refl _) E.lo (fun w h1 h2 => E.all w (by omega) h2) fun h => ?_
    have h1 := E.all (v + 1) (by omega) h
    have h2 := hf.step (v + 1) (by have := E.hi; omega)
    rw [if_neg (by omega), Nat.add_sub_cancel] at h2
    omega
  up := fun v hv => (enD_is hv).hi
theorem sib_top {ds : List Nat} (hf : Fo 0 ds) : Sib (enD ds) 0 (rowTop ds) ds.length := by
  rw [rowTop_eq]
  refine sib_of hf 0 (Nat.le_refl _) (fun h => absurd h (Nat.lt_irrefl _)) _ 0 (Nat.le_refl _) (Nat.zero_le _) (fun w _ _ => Nat.zero_le _) fun h => ?_
  have := hf.step 0 h
  simpa using this
/-- who is open, told by depths -/
theorem pa_iff {ds : List Nat} (hf : Fo 0 ds) : ∀ i, i ≤ ds.length → ∀ j x, (pa ds i)[j]? = some x ↔ x < i ∧ ds.getD x 0 = j ∧ ∀ k, x < k → k < i → j < ds.getD k 0
  | 0, _, j, x => by simp [pa]
  | i + 1, hi, j, x => by
    have room := pa_room hf (i := i) (by omega)
    have lt : ((pa ds i).take (ds.getD i 0)).length = ds.getD i 0 := by rw [List.length_take]; omega
    have ih := pa_iff hf i (by omega) j x
    simp only [pa]
    rcases Nat.lt_trichotomy j (ds.getD i 0) with c | c | c
    · rw [List.getElem?_append_left (by omega), List.getElem?_take, if_pos c, ih]
      constructor
      · rintro ⟨a, b, d⟩
        refine ⟨by omega, b, fun k k1 k2 => ?_⟩
        by_cases q : k = i
        · subst q; exact c
        · exact d k k1 (by omega)
      · rintro ⟨a, b, d⟩
        have hx : x ≠ i := fun e => by subst e; omega
        exact ⟨by omega, b, fun k k1 k2 => d k k1 (by omega)⟩
    · subst c
      rw [List.getElem?_append_right (by omega), lt, Nat.sub_self]
      constructor
      · intro e
        obtain rfl : i = x := by simpa using e
        exact ⟨by omega, rfl, fun k k1 k2 => by omega⟩
      · rintro ⟨a, b, d⟩
        by_cases q : x = i
        · subst q; rfl
        · have := d i (by omega) (by omega)
          omega
    · rw [List.getElem?_append_right (by omega), lt]
      constructor
      · intro e
        rw [List.getElem?_eq_none (by rw [List.length_singleton]; omega)] at e
        cases e
      · rintro ⟨a, b, d⟩
        by_cases q : x = i
        · subst q; omega
        · have := d i (by omega) (by omega)
          omega
theorem par_iff {ds : List Nat} (hf : Fo 0 ds) {v p : Nat} (hv : v < ds.length) : par ds v = some p ↔ p < v ∧ ds.getD v 0 = ds.getD p 0 + 1 ∧ ∀ k, p < k → k < v → ds.getD p 0 < ds.getD k 0 := by
  unfold par
  by_cases z : ds.getD v 0 = 0
  · rw [if_pos z]
    constructor
    · intro e; cases e
    · rintro ⟨_, e, _⟩; omega
  · rw [if_neg z, pa_iff hf v (by omega)]
    constructor
    · rintro ⟨a, b, c⟩
      exact ⟨a, by omega, fun k k1 k2 => by have := c k k1 k2; omega⟩
    · rintro ⟨a, b, c⟩
      exact ⟨a, by omega, fun k k1 k2 => by have := c k k1 k2; omega⟩
theorem par_none {ds : List Nat} (hf : Fo 0 ds) {v : Nat} (hv : v < ds.length) : par ds v = none ↔ ds.getD v 0 = 0 := by
  unfold par
  by_cases z : ds.getD v 0 = 0
  · rw [if_pos z]; exact ⟨fun _ => z, fun _ => rfl⟩
  · rw [if_neg z]
    have room := pa_room hf hv
    constructor
    · intro e
      rw [List.getElem?_eq_getElem (by omega)] at e
      cases e
    · intro e; exact absurd e z
theorem mem_chD {ds : List Nat} (hf : Fo 0 ds) {v p : Nat} (hv : v < ds.length) (hp : p < ds.length) : v ∈ chD ds p ↔ par ds v = some p := by
  have E := enD_is hp
  rw [par_iff hf hv, chD, rowNode_eq, List.mem_filter, List.mem_range'_1, decide_eq_true_eq]
  have lo := E.lo
  constructor
  · rintro ⟨⟨a, b⟩, c⟩
    exact ⟨by omega, c, fun k k1 k2 => E.all k k1 (by omega)⟩
  · rintro ⟨a, b, c⟩
    refine ⟨⟨by omega, ?_⟩, b⟩
    rcases Nat.lt_or_ge v (enD ds p) with q | q
    · omega
    · by_cases z : enD ds p = v
      · have := E.stop (by omega)
        rw [z] at this
        omega
      · have h1 := c (enD ds p) lo (by omega)
        have h2 := E.stop (by omega)
        omega
theorem mem_rowTop {ds : List Nat} (hf : Fo 0 ds) {v : Nat} : v ∈ rowTop ds ↔ v < ds.length ∧ par ds v = none := by
  rw [rowTop, List.mem_filter, List.mem_range, decide_eq_true_eq]
  constructor
  · rintro ⟨a, b⟩; exact ⟨a, (par_none hf a).mpr b⟩
  · rintro ⟨a, b⟩; exact ⟨a, (par_none hf a).mp b⟩
/-! ### a stretch of siblings and the rows within it -/
structure Str_ (ds : List Nat) (first : Nat) (r : List Nat) (e : Nat) (p0 : Option Nat) : Prop where
  hf : Fo 0 ds
  ne : first < e
  sib : Sib (enD ds) first r e
  he : e ≤ ds.length
  up : ∀ c ∈ r, par ds c = p0
def CH (ds : List Nat) (first : Nat) (r : List Nat) (e : Nat) (p0 p : Option Nat) : List Nat := if p = p0 then r else match p with
  | some v => if first ≤ v ∧ v < e then chD ds v else []
  | none => []
theorem sib_cover {en : Nat → Nat} : ∀ {r : List Nat} {a b v : Nat}, Sib en a r b → a ≤ v → v < b → ∃ c ∈ r, c ≤ v ∧ v < en c
  | [], a, b, v, h, h1, h2 => by have h : a = b := h; omega
  | c :: r, a, b, v, ⟨e, h1, h2⟩, h3, h4 => by
    by_cases q : v < en a
    · exact ⟨c, List.mem_cons_self, by omega, by rw [e]; exact q⟩
    · obtain ⟨d, m, k⟩ := sib_cover h2 (by omega) h4
      exact ⟨d, List.mem_cons_of_mem _ m, k⟩
section
variable {ds : List Nat} {first e : Nat} {r : List Nat} {p0 : Option Nat}
theorem Str_.p0lt (S : Str_ ds first r e p0) {w : Nat} (h : p0 = some w) : w < first := by
  have sb := S.sib
  cases r with
  | nil => have := S.ne; have h2 : first = e := sb; omega
  | cons c r =>
    obtain ⟨h1, h2, h3⟩ := sb
    have hc := S.up c List.mem_cons_self
    have hl := h3.le
    have he := S.he
    rw [h, h1] at hc
    exact ((par_iff S.hf (by omega)).mp hc).1
theorem Str_.inCH (S : Str_ ds first r e p0) {v : Nat} (h1 : first ≤ v) (h2 : v < e) : v ∈ CH ds first r e p0 (par ds v) := by
  have he := S.he
  unfold CH
  by_cases q : par ds v = p0
  · rw [if_pos q]
    obtain ⟨c, hc, k1, k2⟩ := sib_cover S.sib h1 h2
    by_cases z : c = v
    · rw [← z]; exact hc
    · -- v lies deeper than c: its parent is not that of c
      exfalso
      obtain ⟨g1, g2, g3⟩ := S.sib.mem hc
      have E := enD_is (ds := ds) (v := c) (by omega)
      have hd := E.all v (by omega) k2
      have hc0 := S.up c hc
      rw [← q] at hc0
      cases hp : par ds v with
      | none => have := (par_none S.hf (by omega)).mp hp; omega
      | some p =>
        rw [hp] at hc0
        obtain ⟨a1, a2, a3⟩ := (par_iff S.hf (by omega)).mp hp
        obtain ⟨b1, b2, b3⟩ := (par_iff S.hf (v := c) (by omega)).mp hc0
        omega
  · rw [if_neg q]
    obtain ⟨c, hc, k1, k2⟩ := sib_cover S.sib h1 h2
    have z : c ≠ v := fun z => q (by rw [← z]; exact S.up c hc)
    obtain ⟨g1, g2, g3⟩ := S.sib.mem hc
    have E := enD_is (ds := ds) (v := c) (by omega)
    have hd := E.all v (by omega) k2
    cases hp : par ds v with
    | none => have := (par_none S.hf (by omega)).mp hp; omega
    | some p =>
      obtain ⟨a1, a2, a3⟩ := (par_iff S.hf (by omega)).mp hp
      have hcp : c ≤ p := by
        rcases Nat.lt_or_ge p c with w | w
        · have := a3 c w (by omega)
          omega
        · exact w
      simp only
      rw [if_pos ⟨by omega, by omega⟩]
      exact (mem_chD S.hf (by omega) (by omega)).mpr hp
theorem Str_.ofCH (S : Str_ ds first r e p0) {v : Nat} {p : Option Nat} (h : v ∈ CH ds first r e p0 p) : first ≤ v ∧ v < e ∧ par ds v = p := by
  have he := S.he
  unfold CH at h
  by_cases q : p = p0
  · rw [if_pos q] at h
    obtain ⟨g1, g2, g3⟩ := S.sib.mem h
    exact ⟨g1, by omega, by rw [q]; exact S.up v h⟩
  · rw [if_neg q] at h
    cases p with
    | none => cases h
    | some w =>
      simp only at h
      by_cases z : first ≤ w ∧ w < e
      · rw [if_pos z] at h
        have hw : w < ds.length := by omega
        have F := frs_of S.hf
        obtain ⟨k1, k2, k3⟩ := (F.sib w hw).mem h
        -- the piece of w ends within the stretch
        obtain ⟨c, hc, c1, c2⟩ := sib_cover S.sib z.1 z.2
        obtain ⟨g1, g2, g3⟩ := S.sib.mem hc
        have E := enD_is (ds := ds) (v := c) (by omega)
        have Ew := enD_is hw
        have hle : enD ds w ≤ enD ds c := by
          rcases Nat.lt_or_ge (enD ds c) (enD ds w) with y | y
          · have y1 := Ew.all (enD ds c) (by omega) y
            have y2 := E.stop (by have := Ew.hi; omega)
            by_cases y3 : c = w
            · subst y3; omega
            · have := E.all w (by omega) c2
              omega
          · exact y
        exact ⟨by omega, by omega, (mem_chD S.hf (by omega) hw).mp h⟩
      · rw [if_neg z] at h; cases h
theorem Str_.en_le (S : Str_ ds first r e p0) {w : Nat} (h1 : first ≤ w) (h2 : w < e) : enD ds w ≤ e := by
  have he := S.he
  obtain ⟨c, hc, c1, c2⟩ := sib_cover S.sib h1 h2
  obtain ⟨g1, g2, g3⟩ := S.sib.mem hc
  have E := enD_is (ds := ds) (v := c) (by omega)
  have Ew := enD_is (ds := ds) (v := w) (by omega)
  rcases Nat.lt_or_ge (enD ds c) (enD ds w) with y | y
  · have y1 := Ew.all (enD ds c) (by omega) y
    have y2 := E.stop (by have := Ew.hi; omega)
    by_cases y3 : c = w
    · subst y3; omega
    · have := E.all w (by omega) c2
      omega
  · omega
end
/-- from a node of a row on -/
theorem sib_from {en : Nat → Nat} : ∀ {r : List Nat} {a b v : Nat}, Sib en a r b → v ∈ r → r.filter (fun c => decide (v ≤ c)) = v :: r.filter (fun c => decide (v + 1 ≤ c)) ∧ Sib en (en v) (r.filter fun c => decide (v + 1 ≤ c)) b
  | c :: r, a, b, v, ⟨e, h1, h2⟩, m => by
    rcases List.mem_cons.mp m with q | q
    · subst q
      subst e
      have all : ∀ d ∈ r, v + 1 ≤ d := fun d hd => by have := h2.mem hd; omega
      have e2 : r.filter (fun c => decide (v + 1 ≤ c)) = r := List.filter_eq_self.mpr fun d hd => by simpa using all d hd
      have e3 : r.filter (fun c => decide (v ≤ c)) = r := List.filter_eq_self.mpr fun d hd => by have := all d hd; simp; omega
      rw [List.filter_cons, if_pos (by simp), List.filter_cons, if_neg (by simp), e2, e3]
      exact ⟨rfl, h2⟩
    · have hv := h2.mem q
      obtain ⟨k1, k2⟩ := sib_from h2 q
      rw [List.filter_cons, if_neg (by simp; omega), List.filter_cons, if_neg (by simp; omega)]
      exact ⟨k1, k2⟩
end

end K67

set_option maxHeartbeats 4000000
namespace K67
open PySem PySem.Spec PyProof.Rows L2 KB KM
open KD hiding Dp
section
open KW
/-! ### the rows within a stretch, from its end -/
theorem valD_drop {κ : Type} [DecidableEq κ] : ∀ (m : List (κ × D)) (k j : κ), valD (dropD m k) j = if j = k then none else valD m j
  | [], k, j => by simp [dropD, valD]
  | p :: r, k, j => by
    have ih := valD_drop r k j
    unfold dropD at ih ⊢
    rw [List.filter_cons]
    by_cases e : p.1 = k
    · rw [if_neg (by simpa using e), ih, valD_cons]
      by_cases q : j = k
      · rw [if_pos q, if_pos q]
      · rw [if_neg q, if_neg q, if_neg (by rw [e]; exact fun z => q z.symm)]
    · rw [if_pos (by simpa using e), valD_cons, valD_cons, ih]
      by_cases q : j = k
      · rw [if_pos q, if_pos q, if_neg (by rw [q]; exact e)]
      · rw [if_neg q, if_neg q]
theorem len_dropD {κ : Type} [DecidableEq κ] (m : List (κ × D)) (k : κ) : (dropD m k).length ≤ m.length := List.length_filter_le _ _
def kp (p : Option Nat) : Option Key := p.map fun v => .inl (v : Int)
theorem kp_inj {p q : Option Nat} (h : kp p = kp q) : p = q := by
  cases p <;> cases q <;> simp [kp] at h ⊢
  omega
theorem keyN_oN (p : Option Nat) : (oN p).keyN = some (kp p) := by cases p <;> rfl
def HI (ds : List Nat) (e : Nat) (p0 p : Option Nat) : Nat := if p = p0 then e else match p with
  | some v => enD ds v
  | none => 0
section
variable {ds : List Nat} {first e : Nat} {r : List Nat} {p0 : Option Nat} {S B : List (List Int)} {M : Nat} {mk : Nat → Nat}
theorem Str_.sibs (Z : Str_ ds first r e p0) {p : Option Nat} {v : Nat} (h : v ∈ CH ds first r e p0 p) : ∃ lo, Sib (enD ds) lo (CH ds first r e p0 p) (HI ds e p0 p) ∧ HI ds e p0 p ≤ ds.length := by
  unfold CH HI at *
  by_cases q : p = p0
  · rw [if_pos q] at h ⊢
    rw [if_pos q]
    exact ⟨first, Z.sib, Z.he⟩
  · rw [if_neg q] at h ⊢
    rw [if_neg q]
    cases p with
    | none => cases h
    | some w =>
      simp only at h ⊢
      by_cases z : first ≤ w ∧ w < e
      · rw [if_pos z]
        have hw : w < ds.length := by have := Z.he; omega
        exact ⟨w + 1, (frs_of Z.hf).sib w hw, (frs_of Z.hf).up w hw⟩
      · rw [if_neg z] at h; cases h
/-- all tables have their keys once -/
def NDs (l : List Tab) : Prop := ∀ t ∈ l, (t.map (·.1)).Nodup
abbrev RowW (ds : List Nat) (S B : List (List Int)) (mk : Nat → Nat) (M : Nat) (a : Nat) (r : List Nat) (b : Nat) (l : List Tab) : Prop := RgRow S B ds.length mk (chD ds) M a r b l ∧ NDs l
structure RowsI (ds : List Nat) (first e : Nat) (r : List Nat) (p0 : Option Nat) (S B : List (List Int)) (mk : Nat → Nat) (M : Nat) (a : Nat) (m : List (Option Key × D)) : Prop where
  no : ∀ p, (∀ v, p = some v → v < a) → (CH ds first r e p0 p).filter (fun c => decide (a ≤ c)) = [] → valD m (kp p) = none
  yes : ∀ p, (∀ v, p = some v → v < a) → ∀ c k, (CH ds first r e p0 p).filter (fun c => decide (a ≤ c)) = c :: k → ∃ l, valD m (kp p) = some (tabsD l) ∧ RowW ds S B mk M c (c :: k) (HI ds e p0 p) l
theorem RowsI.start (Z : Str_ ds first r e p0) : RowsI ds first e r p0 S B mk M e [] := by
  have key : ∀ p, (CH ds first r e p0 p).filter (fun c => decide (e ≤ c)) = [] := fun p => List.filter_eq_nil_iff.mpr fun c hc => by
    have := Z.ofCH hc
    simp
    omega
  exact ⟨fun p _ _ => rfl, fun p _ c k h => by rw [key p] at h; cases h⟩
/-- the row of the node whose turn it is -/
theorem RowsI.own (Z : Str_ ds first r e p0) {v : Nat} (h1 : first ≤ v) (h2 : v < e) {m : List (Option Key × D)} (I : RowsI ds first e r p0 S B mk M (v + 1) m) :
    (chD ds v = [] ∧ valD m (some (.inl (v : Int))) = none) ∨ ∃ l, valD m (some (.inl (v : Int))) = some (tabsD l) ∧ RowW ds S B mk M (v + 1) (chD ds v) (enD ds v) l := by
  have hv : v < ds.length := by have := Z.he; omega
  have ne : ¬ some v = p0 := fun q => by have := Z.p0lt q.symm; omega
  have eCH : CH ds first r e p0 (some v) = chD ds v := by unfold CH; rw [if_neg ne]; simp only; rw [if_pos ⟨h1, h2⟩]
  have eHI : HI ds e p0 (some v) = enD ds v := by unfold HI; rw [if_neg ne]
  have sb := (frs_of Z.hf).sib v hv
  have eF : (CH ds first r e p0 (some v)).filter (fun c => decide (v + 1 ≤ c)) = chD ds v := by
    rw [eCH]
    exact List.filter_eq_self.mpr fun c hc => by have := sb.mem hc; simpa using this.1
  have lt : ∀ w, some v = some w → w < v + 1 := fun w q => by cases q; omega
  cases ec : chD ds v with
  | nil => exact .inl ⟨rfl, I.no (some v) lt (by rw [eF, ec])⟩
  | cons c k =>
    obtain ⟨l, h3, h4⟩ := I.yes (some v) lt c k (by rw [eF, ec])
    rw [eHI] at h4
    rw [ec] at sb
    have : c = v + 1 := sb.1
    refine .inr ⟨l, h3, ?_⟩
    rw [← this]
    exact h4
/-- a node is done -/
theorem RowsI.next (Z : Str_ ds first r e p0) (hM : MOk S B M) (hk : ∀ v, v < ds.length → mk v < 8) {v : Nat} (h1 : first ≤ v) (h2 : v < e) {m m1 : List (Option Key × D)} (I : RowsI ds first e r p0 S B mk M (v + 1) m)
    (em : ∀ j, valD m1 j = if j = some (.inl (v : Int)) then none else valD m j) {own : Tab} (ho : RgOwn S B ds.length mk (chD ds) M (enD ds) v own) :
    (valD m1 (kp (par ds v)) = none ∧ RowsI ds first e r p0 S B mk M v (putD m1 (kp (par ds v)) (tabsD (S.map fun r => added (own.map fun p => ((r.getD p.1.1.toNat 0, p.1.2), p.2)))))) ∨
    ∃ l, valD m1 (kp (par ds v)) = some (tabsD l) ∧ (∃ k c b, b ≤ ds.length ∧ Sib (enD ds) (enD ds v) (c :: k) b ∧ RowW ds S B mk M (enD ds v) (c :: k) b l) ∧
      RowsI ds first e r p0 S B mk M v (putD m1 (kp (par ds v)) (tabsD ((S.map fun r => added (own.map fun p => ((r.getD p.1.1.toNat 0, p.1.2), p.2))).map fun t => added (bothRow l t)))) := by
  have hv : v < ds.length := by have := Z.he; omega
  have F := frs_of Z.hf
  have inC := Z.inCH h1 h2
  obtain ⟨lo, sb, hb⟩ := Z.sibs inC
  obtain ⟨f1, f2⟩ := sib_from sb inC
  have lt : ∀ w, par ds v = some w → w < v + 1 := fun w q => by have := ((par_iff Z.hf hv).mp q).1; omega
  have nk : ∀ p : Option Nat, (∀ w, p = some w → w < v) → kp p ≠ some (.inl (v : Int)) := fun p hp q => by
    have : p = some v := kp_inj (q := some v) q
    have := hp v this
    omega
  have lt2 : ∀ w, par ds v = some w → w < v := fun w q => ((par_iff Z.hf hv).mp q).1
  have e1 : valD m1 (kp (par ds v)) = valD m (kp (par ds v)) := by rw [em, if_neg (nk _ lt2)]
  have one := rgRow_child hM F hk hv ho
  have oneN : NDs (S.map fun r => added (own.map fun p => ((r.getD p.1.1.toNat 0, p.1.2), p.2))) := fun t ht => by
    obtain ⟨r, _, rfl⟩ := List.mem_map.mp ht
    exact addedG_nd _
  have E := enD_is hv
  -- the other rows stay
  have rest : ∀ (l : List Tab), RowW ds S B mk M v ((CH ds first r e p0 (par ds v)).filter fun c => decide (v ≤ c)) (HI ds e p0 (par ds v)) l → RowsI ds first e r p0 S B mk M v (putD m1 (kp (par ds v)) (tabsD l)) := by
    intro l hl
    have other : ∀ p, p ≠ par ds v → (CH ds first r e p0 p).filter (fun c => decide (v ≤ c)) = (CH ds first r e p0 p).filter (fun c => decide (v + 1 ≤ c)) := fun p hp => by
      refine List.filter_congr fun c hc => decide_eq_decide.mpr ?_
      have := (Z.ofCH hc).2.2
      have : c ≠ v := fun q => hp (by rw [← this, q])
      omega
    refine ⟨fun p hp he => ?_, fun p hp c k he => ?_⟩
    · by_cases q : p = par ds v
      · rw [q, f1] at he; cases he
      · rw [valD_put, if_neg fun z => q (kp_inj z), em, if_neg (nk p hp)]
        rw [other p q] at he
        exact I.no p (fun w hw => by have := hp w hw; omega) he
    · by_cases q : p = par ds v
      · subst q
        rw [he, ] at hl
        have : c = v := by rw [f1] at he; exact (List.cons.inj he).1.symm
        refine ⟨l, by rw [valD_put, if_pos rfl], ?_⟩
        rw [this] at hl ⊢
        exact hl
      · rw [other p q] at he
        obtain ⟨l2, g1, g2⟩ := I.yes p (fun w hw => by have := hp w hw; omega) c k he
        exact ⟨l2, by rw [valD_put, if_neg fun z => q (kp_inj z), em, if_neg (nk p hp)]; exact g1, g2⟩
  cases ef : (CH ds first r e p0 (par ds v)).filter (fun c => decide (v + 1 ≤ c)) with
  | nil =>
    left
    rw [ef] at f2
    have f2 : enD ds v = HI ds e p0 (par ds v) := f2
    refine ⟨by rw [e1]; exact I.no _ lt ef, rest _ ⟨?_, oneN⟩⟩
    rw [f1, ef, ← f2]
    exact one
  | cons c k =>
    right
    obtain ⟨l, g1, g2, g3⟩ := I.yes _ lt c k ef
    rw [ef] at f2
    have ec : c = enD ds v := f2.1
    rw [ec] at g2
    have f2' := f2
    rw [ec] at f2'
    refine ⟨l, by rw [e1]; exact g1, ⟨k, enD ds v, _, hb, f2', ⟨g2, g3⟩⟩, rest _ ⟨?_, ?_⟩⟩
    · rw [f1, ef, ec]
      exact (rgRow_both hM F hk hv f2' hb E.lo one g2).2
    · intro t ht
      obtain ⟨t2, _, rfl⟩ := List.mem_map.mp ht
      exact addedG_nd _
theorem RowsI.last (Z : Str_ ds first r e p0) {m : List (Option Key × D)} (I : RowsI ds first e r p0 S B mk M first m) : ∃ l, valD m (kp p0) = some (tabsD l) ∧ RowW ds S B mk M first r e l := by
  have eC : CH ds first r e p0 p0 = r := by unfold CH; rw [if_pos rfl]
  have eH : HI ds e p0 p0 = e := by unfold HI; rw [if_pos rfl]
  have eF : (CH ds first r e p0 p0).filter (fun c => decide (first ≤ c)) = r := by
    rw [eC]
    exact List.filter_eq_self.mpr fun c hc => by have := Z.sib.mem hc; simpa using this.1
  have sb := Z.sib
  cases er : r with
  | nil => rw [er] at sb; have := Z.ne; have sb : first = e := sb; omega
  | cons c k =>
    obtain ⟨l, h1, h2⟩ := I.yes p0 (fun v q => Z.p0lt q) c k (by rw [eF, er])
    rw [eH] at h2
    rw [er] at sb
    have : c = first := sb.1
    rw [← this]
    exact ⟨l, h1, h2⟩
end
end

end K67

set_option maxHeartbeats 4000000
namespace K67
open PySem PySem.Spec PyProof.Rows L2 KB KM
open KD hiding Dp
section
open KW
variable {P : Program} {w : World} {K : PySem.W.Frag} {mg : Str → Option Value} {base : Heap}
/-! ### need_count -/
def isCount (d : D) (m : Int) : Bool := match d with
  | .int i => decide (0 ≤ i) && decide (i ≤ m)
  | _ => false
def soNeedCount (ds : List D) (out : Out) : Prop := ∃ d m, ds = [d, .int m] ∧ d.pl = true ∧ out = if isCount d m = true then .ret .non else .exc "BadCount"
theorem bd_need_count (T : Txt K mg) (C_is_integer : Cal P w K mg base 1 "is_integer" (toSp (gb P w K) (spO K soIsInt))) : Body P w K mg base (1) ["thing", "most"] "need_count" (defScope s_need_count) (defBody s_need_count) (toSp (gb P w K) (spO K soNeedCount)) := by
  intro f cdv A outer s H vs Q E hr h
  have hu := hu_of hr
  have tk : Takes (cxOf (L2.CX P w) P w K mg base ["thing", "most"] "need_count" (defScope s_need_count) f cdv A outer s H E) (WF E) := takes_of rfl rfl rfl rfl
  refine ⟨_, (pss_cons (ps_if (PW.pt (pw_or (pt_not (pt_val (pe_cal C_is_integer hr (by omega) tk (pa_cons (pv 0) pa_nil)))) (pw_or1 (pt_cmpR op_lt (pv 0) pe_int (nomark _))))) (pss_one (ps_raiseD T.x_BadCount tk)) pss_nil)
    (pss_one (ps_if (PW.pt (pw_and (pt_cmpR op_notN1 (pv 1) pe_non (nomark _)) (pw_and1 (pt_cmpR op_gt (pv 0) (pv 1) (nomark _))))) (pss_one (ps_raiseD T.x_BadCount tk)) pss_nil))), ?_⟩
  try dsimp only [cxOf]
  refine d_startO h fun ds out hS c hx hM => ?_
  obtain ⟨d, m, rfl, hp, rfl⟩ := hS
  refine d_st (δ' := [.fz d, .fz (.int m)]) (by rfl) ?_
  walk_at "dw"
  refine d_callR hx ?_
  walk_at "dw"
  refine ⟨_, _, rfl, ⟨d, rfl, hp, rfl⟩, ?_⟩
  walk_at "dw"
  cases d <;> first | (refine i_nT ?_; walk_at "dw"; refine d_raise hx ?_; rfl) | (simp [D.pl] at hp; done) | skip
  rename_i i
  refine i_nF ?_
  walk_at "dw"
  refine i_dec (fun z => ?_) (fun z => ?_)
  · walk_at "dw"
    refine d_raise hx ?_
    have e : isCount (.int i) m = false := by simp only [isCount, decide_eq_false (show ¬ 0 ≤ i by omega), Bool.false_and]
    rw [e]
    rfl
  walk_at "dw"
  refine i_dec (fun z2 => ?_) (fun z2 => ?_)
  · walk_at "dw"
    refine d_raise hx ?_
    have e : isCount (.int i) m = false := by simp only [isCount, decide_eq_false (show ¬ i ≤ m by omega), Bool.and_false]
    rw [e]
    rfl
  · walk_at "dw"
    have e : isCount (.int i) m = true := by simp only [isCount, decide_eq_true (show 0 ≤ i by omega), decide_eq_true (show i ≤ m by omega), Bool.and_self]
    rw [e]
    rfl
theorem cd_need_count (T : Txt K mg) : Cal P w K mg base 2 "need_count" (toSp (gb P w K) (spO K soNeedCount)) := T.d_need_count.cal sc_need_count (len_spO fun ds out ⟨_, _, h, _⟩ => by rw [h]; rfl) (bd_need_count T (cd_is_integer T))
/-! ### swept -/
def machD (N : List Str) (B : List (List Int)) (tp : Int) (S : List (List Int)) (gd : List Int) : D := .tup [.tup (N.map D.str), .tup (B.map rowD), .int tp, .tup (S.map rowD), rowD gd]
def mkS (s : Str) : Nat := s.cps.toList.getD 0 97 - 97
def mkL (l : List (Str × Nat)) (v : Nat) : Nat := mkS (l.getD v ("", 0)).1
theorem mk_occ : ∀ ch ∈ List.range' 97 8, Builtin.Str.occurrences "abcdefgh" (⟨#[ch]⟩ : Str) 0 (Str.ofString "abcdefgh").length 1 = [ch - 97] := by decide +kernel
theorem M8.occ {l : List (Str × Nat)} (h : M8 l) {v : Nat} (hv : v < l.length) : Builtin.Str.occurrences "abcdefgh" (l.getD v ("", 0)).1 0 (Str.ofString "abcdefgh").length 1 = [mkL l v] ∧ mkL l v < 8 := by
  obtain ⟨ch, h1, h2, h3⟩ := h _ (getD_mem (d := (("" : Str), 0)) hv)
  unfold mkL mkS
  rw [h3]
  refine ⟨mk_occ ch (List.mem_range'_1.mpr ⟨h1, h2⟩), ?_⟩
  show ch - 97 < 8
  omega
theorem docL_at {l : List (Str × Nat)} {v : Nat} (h : v < l.length) : atI (docL l) ((v : Nat) : Int) = some (.tup [.str (l.getD v ("", 0)).1, .int ((dps l).getD v 0 : Nat)]) := by
  have := atI_map (f := ent) (getD_at (d := (("", 0) : Str × Nat)) h)
  rw [show docL l = l.map ent from rfl, this]
  unfold ent dps
  rw [List.getD_eq_getElem?_getD, List.getD_eq_getElem?_getD, List.getElem?_map]
  rw [List.getElem?_eq_getElem h]
  rfl
/-- what a table's length is bound by -/
theorem lays_le {X n M : Nat} {Y : List Nat} (h : Y.length ≤ n) (hb : (n + 1) ^ M ≤ X) : (lays Y M).length ≤ X := by
  rw [lays_len]
  exact Nat.le_trans (Nat.pow_le_pow_left (by omega) M) hb
def soSwept (ds : List D) (T : KD.R → Prop) : Prop := ∃ (l : List (Str × Nat)) (N : List Str) (B : List (List Int)) (tp : Int) (S : List (List Int)) (gd : List Int) (M first e : Nat) (r : List Nat) (p0 : Option Nat),
  ds = [machD N B tp S gd, .tup (docL l), .int (first : Nat), .int (e : Nat)] ∧ MOk S B M ∧ M8 l ∧ l.length ≤ 100000 ∧ Str_ (dps l) first r e p0 ∧ (l.length + 1) ^ M ≤ 1000000 ∧
  T = fun x => ∃ own rw, x = .fz (.tup [tabD own, tabsD rw]) ∧ RgOwn S B (dps l).length (mkL l) (chD (dps l)) M (enD (dps l)) first own ∧ (own.map (·.1)).Nodup ∧ RowW (dps l) S B (mkL l) M first r e rw
abbrev s_swept : Stmt := (top 40)
theorem sc_swept : FnScope ["machine", "document", "first", "end", "parents", "starts", "rows", "own", "node", "begin", "ways", "parent"] ["machine", "document", "first", "end"] (defScope s_swept) := ⟨rfl, rfl, rfl, by decide +kernel, rfl, by decide +kernel, by decide +kernel⟩
theorem bd_swept (T : Txt K mg) (C_parents_of : Cal P w K mg base 1 "parents_of" (toSp (gb P w K) (spO K soParents))) (C_node_ways_of : Cal P w K mg base 2 "node_ways_of" (toSp (gb P w K) (spO K soNodeOf)))
    (C_child_ways : Cal P w K mg base 2 "child_ways" (toSp (gb P w K) (spO K soChild))) (C_both_ways : Cal P w K mg base 2 "both_ways" (toSp (gb P w K) (spO K soBoth))) : Body P w K mg base (2) ["machine", "document", "first", "end", "parents", "starts", "rows", "own", "node", "begin", "ways", "parent"] "swept" (defScope s_swept) (defBody s_swept) (toSp (gb P w K) (spN soSwept)) := by
  intro f cdv A outer s H vs Q E hr h
  have hu := hu_of hr
  have tk : Takes (cxOf (L2.CX P w) P w K mg base ["machine", "document", "first", "end", "parents", "starts", "rows", "own", "node", "begin", "ways", "parent"] "swept" (defScope s_swept) f cdv A outer s H E) (WF E) := takes_of rfl rfl rfl rfl
  refine ⟨_, (pss_cons (ps_set (i := 4) sc_swept.nd rfl (Or.inl rfl) (pe_cal C_parents_of hr (by omega) tk (pa_cons (pv 1) pa_nil)))
    (pss_cons (ps_set (i := 5) sc_swept.nd rfl (Or.inl rfl) (pe_listRg rfl (by rfl) T.g_list (prg_1 (by rfl) T.g_range (pe_callB call_lenK (by rfl) T.g_len (by decide +kernel) (pa_cons (pe_ix ix_seq (pv 0) pe_int (fun _ _ => rfl)) pa_nil)))))
    (pss_cons (ps_setO (i := 6) sc_swept.nd rfl (Or.inl rfl) pe_dnewK)
    (pss_cons (ps_set (i := 7) sc_swept.nd rfl (Or.inl rfl) (pe_lst pa_nil))
    (pss_cons (ps_for (passes_of rfl) rfl (pi_revR rfl T.g_reversed (prg_2 rfl T.g_range (pv 2) (pv 3))) (pg_name (i := 8) sc_swept.nd rfl (Or.inl rfl)) (pss_cons (ps_set (i := 9) sc_swept.nd rfl (Or.inl rfl) (pe_ix ix_seq (pe_ix ix_seq (pv 0) pe_int (fun _ _ => rfl)) (pe_m1 PySem.F.slot_str_index PySem.F.type_str_index mt_sindexD (pe_gstr T.g_MARKS) (pe_ix ix_seq (pe_ix ix_seq (pv 1) (pv 8) (fun _ _ => rfl)) pe_int (fun _ _ => rfl))) (fun _ _ => rfl)))
    (Evl.pss_cut (ps_set (i := 7) sc_swept.nd rfl (Or.inl rfl) (pe_cal C_node_ways_of hr (by omega) tk (pa_cons (pv 9) (pa_cons pe_int (pa_cons (pe_npop2 (pv 6) (pv 8) pe_non ⟨by rfl, by rfl, by rfl, by rfl⟩) pa_nil)))))
    (pss_cons (ps_set (i := 10) sc_swept.nd rfl (Or.inl rfl) (pe_cal C_child_ways hr (by omega) tk (pa_cons (pe_ix ix_seq (pv 0) pe_int (fun _ _ => rfl)) (pa_cons (pv 7) pa_nil))))
    (pss_cons (ps_set (i := 11) sc_swept.nd rfl (Or.inl rfl) (pe_ix ix_seq (pv 4) (pv 8) (fun _ _ => rfl)))
    (pss_one (ps_nput (pv 6) (pv 11) (pe_ifExp (pt_cmp (pc_nin (pv 11) (pv 6))) (pe_cal C_both_ways hr (by omega) tk (pa_cons (pv 10) (pa_cons (pe_nget (pv 6) (pv 11) (fun _ _ => rfl)) (pa_cons (pv 5) pa_nil)))) (pv 10)) rfl)))))))
    (pss_one (ps_ret (pe_tup (pa_cons (pv 7) (pa_cons (pe_nget (pv 6) (pe_ix ix_seq (pv 4) (pv 2) (fun _ _ => rfl)) (fun _ _ => rfl)) pa_nil)))))))))), ?_⟩
  try dsimp only [cxOf]
  refine d_startN h fun ds T' hS c hx hM => ?_
  obtain ⟨l, N, B, tp, S, gd, M, first, e, r, p0, rfl, ok, h8, hl, Z, hb, rfl⟩ := hS
  have hz : (1000000 : Nat) < sizeLine := by decide
  have he := Z.he
  have hne := Z.ne
  have ln := fo_len l
  have s2 := ok.s2
  have F := frs_of Z.hf
  have hk : ∀ v, v < (dps l).length → mkL l v < 8 := fun v hv => (h8.occ (by omega)).2
  have bnd : ∀ a b, b ≤ (dps l).length → (lays (itv a b) M).length ≤ 1000000 := fun a b hb' => lays_le (by rw [List.length_range']; omega) hb
  refine d_st (δ' := [.fz (machD N B tp S gd), .fz (.tup (docL l)), .fz (.int first), .fz (.int e), .no, .no, .no, .no, .no, .no, .no, .no]) (by rfl) ?_
  walk_at "dw"
  refine d_callL hx ?_
  walk_at "dw"
  refine ⟨_, _, rfl, ⟨l, rfl, Z.hf, hl, rfl⟩, fun a0 => ?_⟩
  walk_at "dw"
  refine d_ix (i := 3) (d := .tup (S.map rowD)) rfl rfl rfl ?_
  walk_at "dw"
  rw [List.length_map]
  refine ⟨RgOk.of_le (by omega) (by omega) (by omega) (by omega), fun a2 => ?_⟩
  walk_at "dw"
  refine d_dnewN (fun σ H Q h => h) fun a1 => ?_
  walk_at "dw"
  intro a3
  walk_at "dw"
  have est : ((List.range (((S.length : Nat) : Int) - 0).toNat).map fun i : Nat => D.int (0 + (i : Nat))) = (List.range S.length).map fun k : Nat => D.int k := by
    rw [show (((S.length : Nat) : Int) - 0).toNat = S.length by omega]
    refine List.map_congr_left fun k _ => ?_
    rw [Int.zero_add]
  refine d_st (δ' := [.fz (machD N B tp S gd), .fz (.tup (docL l)), .fz (.int first), .fz (.int e), .fz (.lst (parL (dps l) l.length)), .fz (.lst ((List.range S.length).map fun k : Nat => D.int k)), .ow (.dn a1 []), .fz (.lst []), .no, .no, .no, .no]) (by rw [← est]; rfl) ?_
  refine d_for ?_
  walk_at "dw"
  refine ⟨_, _, rfl, rfl, ⟨by omega, by omega, by omega, by omega⟩, ?_⟩
  refine ⟨fun i δ => ∃ m own s8 s9 s10 s11, i ≤ e - first ∧ m.length ≤ i ∧ RowsI (dps l) first e r p0 S B (mkL l) M (e - i) m ∧
      (0 < i → RgOwn S B (dps l).length (mkL l) (chD (dps l)) M (enD (dps l)) (e - i) own ∧ (own.map (·.1)).Nodup) ∧
      δ = [.fz (machD N B tp S gd), .fz (.tup (docL l)), .fz (.int first), .fz (.int e), .fz (.lst (parL (dps l) l.length)), .fz (.lst ((List.range S.length).map fun k : Nat => D.int k)), .ow (.dn a1 m), .fz (tabD own), s8, s9, s10, s11],
    ⟨[], [], _, _, _, _, Nat.zero_le _, Nat.le_refl _, RowsI.start Z, fun q => absurd q (by decide), rfl⟩, fun _ _ _ => trivial, ?_, ?_⟩
  · rintro i δ hi ⟨m, own, s8, s9, s10, s11, _, hml, I, _, rfl⟩
    have hi : i < e - first := by omega
    obtain ⟨v, hv⟩ : ∃ v, v = e - i - 1 := ⟨_, rfl⟩
    have h1 : first ≤ v := by omega
    have h2 : v < e := by omega
    have hvl : v < l.length := by omega
    have hvd : v < (dps l).length := by omega
    rw [show e - i = v + 1 by omega] at I
    dsimp only
    rw [show ((first : Nat) : Int) + ((((e : Nat) : Int) - ((first : Nat) : Int)).toNat : Nat) - 1 + ((i : Nat) : Int) * (-1) = ((v : Nat) : Int) by omega]
    obtain ⟨occ, mk8⟩ := h8.occ hvl
    obtain ⟨b1, b2⟩ := ok.br _ (getD_mem (d := []) (show mkL l v < B.length by rw [ok.bl]; exact mk8))
    have eB := atI_map (f := rowD) (getD_at (d := ([] : List Int)) (show mkL l v < B.length by rw [ok.bl]; exact mk8))
    have b3 : (B.getD (mkL l v) []).length ≤ 1000 := by
      rw [b1]
      exact Nat.le_trans (Nat.pow_le_pow_right (by decide) ok.hm) (by decide)
    walk_at "dw"
    refine d_ix (i := 1) (d := .tup (B.map rowD)) rfl rfl rfl ?_
    walk_at "dw"
    refine ⟨⟨_, rfl⟩, ?_⟩
    walk_at "dw"
    refine d_ix (i := (v : Nat)) rfl rfl (docL_at hvl) ?_
    walk_at "dw"
    refine d_ix (i := 0) (d := .str (l.getD v ("", 0)).1) rfl rfl rfl ?_
    refine d_sidx rfl rfl occ ?_
    refine d_ix (i := (mkL l v : Nat)) (d := rowD (B.getD (mkL l v) [])) rfl rfl eB ?_
    walk_at "dw"
    refine d_cut (fun δ => ∃ m1 own, m1.length ≤ i ∧ (∀ j, valD m1 j = if j = some (.inl (v : Int)) then none else valD m j) ∧ RgOwn S B (dps l).length (mkL l) (chD (dps l)) M (enD (dps l)) v own ∧ (own.map (·.1)).Nodup ∧
      δ = [.fz (machD N B tp S gd), .fz (.tup (docL l)), .fz (.int first), .fz (.int e), .fz (.lst (parL (dps l) l.length)), .fz (.lst ((List.range S.length).map fun k : Nat => D.int k)), .ow (.dn a1 m1), .fz (tabD own), .fz (.int v), .fz (rowD (B.getD (mkL l v) [])), s10, s11]) ?_ ?_
    · walk_at "dw"
      refine d_callL hx ?_
      walk_at "dw"
      refine d_npop2 rfl rfl ?_
      walk_at "dw"
      refine ⟨6, a1, rfl, ⟨_, rfl⟩, ?_⟩
      walk_at "dw"
      refine ⟨m, v, .non, rfl, rfl, rfl, fun d hd => ?_, fun hn => ?_⟩
      · rcases I.own Z h1 h2 with ⟨_, z⟩ | ⟨rw_, z1, z2⟩
        · rw [z] at hd; cases hd
        · rw [z1] at hd
          obtain rfl : tabsD rw_ = d := by simpa using hd
          have R := rgOwn_of ok F hk hvd (ways := some rw_) (.inr ⟨rw_, rfl, z2.1⟩)
          walk_at "dw"
          refine ⟨_, _, rfl, ⟨B.getD (mkL l v) [], some rw_, rfl, ⟨b3, fun l' q s hs => ?_, fun l' q t ht => ?_, Nat.le_trans R.len (bnd _ _ (F.up v hvd))⟩, rfl⟩, fun a4 => ?_⟩
          · cases q
            have := b2 s hs
            have := z2.1.1
            omega
          · cases q
            obtain ⟨q, hq, eq⟩ := List.getElem_of_mem ht
            have := (z2.1.2 q (by rw [← z2.1.1]; exact hq)).len
            rw [List.getD_eq_getElem?_getD, List.getElem?_eq_getElem hq, Option.getD_some, eq] at this
            exact Nat.le_trans this (bnd _ _ (F.up v hvd))
          walk_at "dw"
          refine ⟨_, _, Nat.le_trans (len_dropD _ _) hml, fun j => valD_drop m _ j, (rg_added R).1, addedG_nd _, rfl⟩
      · rcases I.own Z h1 h2 with ⟨z, z2⟩ | ⟨rw_, z1, z2⟩
        · have R := rgOwn_of ok F hk hvd (ways := none) (.inl ⟨rfl, z⟩)
          walk_at "dw"
          refine ⟨_, _, rfl, ⟨B.getD (mkL l v) [], none, rfl, ⟨b3, (fun l' q => nomatch q), (fun l' q => nomatch q), Nat.le_trans R.len (bnd _ _ (F.up v hvd))⟩, rfl⟩, fun a4 => ?_⟩
          walk_at "dw"
          refine ⟨m, _, hml, fun j => ?_, (rg_added R).1, addedG_nd _, rfl⟩
          by_cases q : j = some (.inl (v : Int))
          · rw [if_pos q, q, z2]
          · rw [if_neg q]
        · rw [z1] at hn; cases hn
    rintro δ ⟨m1, own, hm1, em, ho, hnd, rfl⟩
    have oin : ∀ p ∈ own, 0 ≤ p.1.1 ∧ p.1.1 < S.length := fun p hp => by
      obtain ⟨y, hy, q⟩ := ho.key hp
      rw [← q]
      exact stW_in ok F hk (lays_mem hy).1 hvd
    have olen := Nat.le_trans ho.len (bnd v _ (F.up v hvd))
    walk_at "dw"
    refine d_callL hx ?_
    walk_at "dw"
    refine d_ix (i := 3) (d := .tup (S.map rowD)) rfl rfl rfl ?_
    walk_at "dw"
    refine ⟨_, _, rfl, ⟨S, own, rfl, by omega, olen, fun r' hr' p hp => by rw [(ok.sr r' hr').1]; exact oin p hp, rfl⟩, fun a5 => ?_⟩
    walk_at "dw"
    have epar : atI (parL (dps l) l.length) ((v : Nat) : Int) = some (oN (par (dps l) v)) := by
      unfold atI ixN
      rw [if_pos (by omega), if_pos (by rw [parL_len]; omega)]
      show (parL (dps l) l.length)[((v : Nat) : Int).toNat]? = _
      rw [Int.toNat_natCast, getD_at (d := .non) (by rw [parL_len]; omega), parL_get hvl]
    refine d_ix (i := (v : Nat)) rfl rfl epar ?_
    walk_at "dw"
    have one := rgRow_child ok F hk hvd ho
    rcases I.next Z ok hk h1 h2 em ho with ⟨z1, I2⟩ | ⟨rw_, z1, ⟨k, c', b', hb', sb, z2⟩, I2⟩
    · refine ⟨m1, oN (par (dps l) v), kp (par (dps l) v), rfl, rfl, keyN_oN _, ?_⟩
      rw [z1, Option.isSome_none]
      walk_at "dw"
      refine ⟨6, a1, m1, oN (par (dps l) v), kp (par (dps l) v), _, rfl, rfl, rfl, rfl, keyN_oN _, by omega, ?_⟩
      refine ⟨_, own, _, _, _, _, by omega, Nat.le_trans (len_putD _ _ _) (by omega), ?_, fun _ => ?_, rfl⟩
      · rw [show e - (i + 1) = v by omega]
        have ee : (S.map fun r => tabD (added (own.map fun p => ((r.getD p.1.1.toNat 0, p.1.2), p.2)))) = (S.map fun r => added (own.map fun p => ((r.getD p.1.1.toNat 0, p.1.2), p.2))).map tabD := by rw [List.map_map]; rfl
        rw [ee]
        exact I2
      · rw [show e - (i + 1) = v by omega]
        exact ⟨ho, hnd⟩
    · refine ⟨m1, oN (par (dps l) v), kp (par (dps l) v), rfl, rfl, keyN_oN _, ?_⟩
      rw [z1]
      walk_at "dw"
      refine d_callL hx ?_
      walk_at "dw"
      refine ⟨m1, oN (par (dps l) v), kp (par (dps l) v), tabsD rw_, rfl, rfl, keyN_oN _, z1, ?_⟩
      walk_at "dw"
      have two := rgRow_both ok F hk hvd sb hb' (enD_is hvd).lo one z2.1
      have ee : (S.map fun r => tabD (added (own.map fun p => ((r.getD p.1.1.toNat 0, p.1.2), p.2)))) = (S.map fun r => added (own.map fun p => ((r.getD p.1.1.toNat 0, p.1.2), p.2))).map tabD := by rw [List.map_map]; rfl
      have l1 : (S.map fun r => added (own.map fun p => ((r.getD p.1.1.toNat 0, p.1.2), p.2))).length = S.length := List.length_map ..
      generalize (S.map fun r => added (own.map fun p => ((r.getD p.1.1.toNat 0, p.1.2), p.2))) = one_ at ee one two l1 I2
      have at_ : ∀ (ways : List Tab) (a : Nat) (rr : List Nat) (b : Nat), RgRow S B (dps l).length (mkL l) (chD (dps l)) M a rr b ways → ∀ t ∈ ways, ∃ q : Nat, q < S.length ∧ Rg t (lays (itv a b) M) fun p => (runW S B (dps l).length (mkL l) (chD (dps l)) p q rr, (mask p : Int)) := fun ways a rr b hw t ht => by
        obtain ⟨q, hq, eq⟩ := List.getElem_of_mem ht
        have hq' : q < S.length := by rw [← hw.1]; exact hq
        have := hw.2 q hq'
        rw [List.getD_eq_getElem?_getD, List.getElem?_eq_getElem hq, Option.getD_some, eq] at this
        exact ⟨q, hq', this⟩
      refine ⟨_, _, rfl, ⟨one_, rw_, ?_, ⟨by omega, fun t ht p hp => ?_, fun t ht => ?_, fun t ht => ?_, fun t ht p hp => ?_⟩, rfl⟩, fun a6 => ?_⟩
      · rw [ee, l1]
        rfl
      · obtain ⟨q, hq, R⟩ := at_ _ _ _ _ one t ht
        obtain ⟨y, hy, e1⟩ := R.key hp
        rw [← e1, z2.1.1]
        exact runW_in ok F hk (lays_mem hy).1 (by omega) (by simpa using hvd)
      · obtain ⟨q, hq, R⟩ := two.1 t ht
        exact Nat.le_trans R.len (bnd _ _ hb')
      · obtain ⟨q, hq, R⟩ := at_ _ _ _ _ z2.1 t ht
        exact Nat.le_trans R.len (bnd _ _ hb')
      · obtain ⟨q, hq, R⟩ := at_ _ _ _ _ one t ht
        have g1 := R.ps p hp
        have g2 := R.num hp
        have g3 := bnd v _ (F.up v hvd)
        omega
      walk_at "dw"
      refine ⟨6, a1, m1, oN (par (dps l) v), kp (par (dps l) v), _, rfl, rfl, rfl, rfl, keyN_oN _, by omega, ?_⟩
      refine ⟨_, own, _, _, _, _, by omega, Nat.le_trans (len_putD _ _ _) (by omega), ?_, fun _ => ?_, rfl⟩
      · rw [show e - (i + 1) = v by omega]
        have ee2 : (one_.map fun t => tabD (added (bothRow rw_ t))) = (one_.map fun t => added (bothRow rw_ t)).map tabD := by rw [List.map_map]; rfl
        rw [ee2]
        exact I2
      · rw [show e - (i + 1) = v by omega]
        exact ⟨ho, hnd⟩
  · rintro δ ⟨m, own, s8, s9, s10, s11, hi, hml, I, hO, rfl⟩
    have en : (((e : Nat) : Int) - ((first : Nat) : Int)).toNat = e - first := by omega
    rw [en] at hi hml I hO
    rw [show e - (e - first) = first by omega] at I hO
    obtain ⟨ho, hnd⟩ := hO (by omega)
    obtain ⟨rw_, g1, g2⟩ := I.last Z
    have hfl : first < l.length := by omega
    have sb := Z.sib
    have ep0 : par (dps l) first = p0 := by
      cases r with
      | nil => have sb : first = e := sb; omega
      | cons c k =>
        have e1 : c = first := sb.1
        have := Z.up c List.mem_cons_self
        rw [e1] at this
        exact this
    have epar : atI (parL (dps l) l.length) ((first : Nat) : Int) = some (oN p0) := by
      unfold atI ixN
      rw [if_pos (by omega), if_pos (by rw [parL_len]; omega)]
      show (parL (dps l) l.length)[((first : Nat) : Int).toNat]? = _
      rw [Int.toNat_natCast, getD_at (d := .non) (by rw [parL_len]; omega), parL_get hfl, ep0]
    walk_at "dw"
    refine d_ix (i := (first : Nat)) rfl rfl epar ?_
    walk_at "dw"
    refine ⟨m, oN p0, kp p0, tabsD rw_, rfl, rfl, keyN_oN _, g1, ?_⟩
    walk_at "dw"
    exact ⟨rfl, own, rw_, rfl, ho, hnd, g2⟩
theorem cd_swept (T : Txt K mg) : Cal P w K mg base 3 "swept" (toSp (gb P w K) (spN soSwept)) := T.d_swept.cal sc_swept (len_spN fun ds T ⟨_, _, _, _, _, _, _, _, _, _, _, h, _⟩ => by rw [h]; rfl) (bd_swept T (cd_parents_of T) (cd_node_ways_of T) (cd_child_ways T) (cd_both_ways T))
end

end K67

set_option maxHeartbeats 4000000
namespace K67
open PySem PySem.Spec PyProof.Rows L2 KB KM
open KD hiding Dp
section
open KW
variable {P : Program} {w : World} {K : PySem.W.Frag} {mg : Str → Option Value} {base : Heap}
/-! ### sorted tables -/
def srt (ts : List (List Int)) : List (List Int) := ts.mergeSort fun a b => !lexL b a
theorem srt_eq {ts ts' : List (List Int)} (h : ts'.Perm ts) (k : ts'.Pairwise fun a b => lexL b a = false) : ts' = srt ts := by
  have h2 : (srt ts).Pairwise fun a b => (!lexL b a) = true := List.pairwise_mergeSort (le := fun a b => !lexL b a) (fun a b c h1 h2 => by
      simp only [Bool.not_eq_true'] at h1 h2 ⊢
      exact lexL_tr _ _ _ h1 h2) (fun a b => by
      cases e : lexL b a with
      | false => rfl
      | true => simp [lexL_asym _ _ e]) ts
  have h3 : (srt ts).Perm ts := List.mergeSort_perm ts _
  refine List.Perm.eq_of_pairwise (le := fun a b => lexL b a = false) (fun a b _ _ h1 h2 => lexL_tot _ _ h2 h1) k (h2.imp fun q => by simpa using q) (h.trans h3.symm)
theorem srt_perm {ts ts' : List (List Int)} (h : ts'.Perm ts) : srt ts' = srt ts :=
  srt_eq ((List.mergeSort_perm ts' _).trans h) ((List.pairwise_mergeSort (le := fun a b => !lexL b a) (fun a b c h1 h2 => by
      simp only [Bool.not_eq_true'] at h1 h2 ⊢
      exact lexL_tr _ _ _ h1 h2) (fun a b => by
      cases e : lexL b a with
      | false => rfl
      | true => simp [lexL_asym _ _ e]) ts').imp fun q => by simpa using q)
def trip (p : (Int × Int) × Int) : List Int := [p.1.1, p.1.2, p.2]
theorem tripD_ti (t : Tab) : t.map tripD = (t.map trip).map tiD := by rw [List.map_map]; rfl
abbrev stL (S B : List (List Int)) (l : List (Str × Nat)) (p : List (Option Nat)) (v : Nat) : Int := stW S B (dps l).length (mkL l) (chD (dps l)) p v
abbrev runL (S B : List (List Int)) (l : List (Str × Nat)) (p : List (Option Nat)) (q : Int) (r : List Nat) : Int := runW S B (dps l).length (mkL l) (chD (dps l)) p q r
/-- what is counted of a node -/
def nodeDue (S B : List (List Int)) (l : List (Str × Nat)) (M v : Nat) : Tab := addedG ((lays (itv v (enD (dps l) v)) M).map fun p => ((stL S B l p v, (mask p : Int)), (1 : Int)))
theorem nodeDue_perm {S B : List (List Int)} {l : List (Str × Nat)} {M v : Nat} {own : Tab} (h : RgOwn S B (dps l).length (mkL l) (chD (dps l)) M (enD (dps l)) v own) (nd : (own.map (·.1)).Nodup) : own.Perm (nodeDue S B l M v) :=
  let k := rg_added (Rg.ones (lays (itv v (enD (dps l) v)) M) fun p => (stL S B l p v, (mask p : Int)))
  Rg.perm h k.1 nd k.2
/-- a machine as it is drawn -/
structure MD (N : List Str) (B : List (List Int)) (tp : Int) (S : List (List Int)) (gd : List Int) (M : Nat) : Prop where
  mo : MOk S B M
  nm : N.length = M
  is : isMach (machD N B tp S gd) = true
  ok : ok (machD N B tp S gd) = true
  sm : SmM (machD N B tp S gd)
def soNodeWays (ds : List D) (out : Out) : Prop := ∃ (l : List (Str × Nat)) (N : List Str) (B : List (List Int)) (tp : Int) (S : List (List Int)) (gd : List Int) (M v : Nat),
  ds = [machD N B tp S gd, .tup (docL l), .int (v : Nat)] ∧ MD N B tp S gd M ∧ GoodDoc l 20000 ∧ M8 l ∧ v < l.length ∧ (l.length + 1) ^ M ≤ 1000000 ∧ out = .ret (.tup ((srt ((nodeDue S B l M v).map trip)).map tiD))
abbrev s_node_ways : Stmt := (top 42)
theorem sc_node_ways : FnScope ["machine", "document", "node"] ["machine", "document", "node"] (defScope s_node_ways) := ⟨rfl, rfl, rfl, by decide +kernel, rfl, by decide +kernel, by decide +kernel⟩
theorem bd_node_ways (T : Txt K mg) (C_need_machine : Cal P w K mg base 5 "need_machine" (toSp (gb P w K) (spO K soNeedMach))) (C_need_document : Cal P w K mg base 4 "need_document" (toSp (gb P w K) (spO K soNeedDoc)))
    (C_need_node : Cal P w K mg base 3 "need_node" (toSp (gb P w K) (spO K soNeedNode))) (C_end_of : Cal P w K mg base 1 "end_of" (toSp (gb P w K) (spO K soEnd))) (C_swept : Cal P w K mg base 3 "swept" (toSp (gb P w K) (spN soSwept))) :
    Body P w K mg base (5) ["machine", "document", "node"] "node_ways" (defScope s_node_ways) (defBody s_node_ways) (toSp (gb P w K) (spO K soNodeWays)) := by
  intro f cdv A outer s H vs Q E hr h
  have hu := hu_of hr
  have tk : Takes (cxOf (L2.CX P w) P w K mg base ["machine", "document", "node"] "node_ways" (defScope s_node_ways) f cdv A outer s H E) (WF E) := takes_of rfl rfl rfl rfl
  refine ⟨_, (pss_cons (ps_expr (pe_cal C_need_machine hr (by omega) tk (pa_cons (pv 0) pa_nil)))
    (pss_cons (ps_expr (pe_cal C_need_document hr (by omega) tk (pa_cons (pv 1) pa_nil)))
    (pss_cons (ps_expr (pe_cal C_need_node hr (by omega) tk (pa_cons (pv 1) (pa_cons (pv 2) pa_nil))))
    (pss_one (ps_ret (pe_callTy call_tupD (by rfl) T.g_tuple (by decide +kernel) (pa_cons (pe_callB cr_sortTI (by rfl) T.g_sorted (by decide +kernel) (pa_cons (pe_ix ix_seq (pe_cal C_swept hr (by omega) tk (pa_cons (pv 0) (pa_cons (pv 1) (pa_cons (pv 2) (pa_cons (pe_cal C_end_of hr (by omega) tk (pa_cons (pv 1) (pa_cons (pv 2) pa_nil))) pa_nil))))) pe_int (fun _ _ => rfl)) pa_nil)) pa_nil))))))), ?_⟩
  try dsimp only [cxOf]
  refine d_startO h fun ds out hS c hx hM => ?_
  obtain ⟨l, N, B, tp, S, gd, M, v, rfl, md, gdoc, h8, hv, hb, rfl⟩ := hS
  have hl := gdoc.len
  have hvd : v < (dps l).length := by rw [fo_len]; exact hv
  have E := enD_is hvd
  refine d_st (δ' := [.fz (machD N B tp S gd), .fz (.tup (docL l)), .fz (.int v)]) (by rfl) ?_
  walk_at "dw"
  refine d_callR hx ?_
  walk_at "dw"
  refine ⟨_, .non, rfl, ⟨_, rfl, md.ok, md.sm, by rw [md.is]; rfl⟩, ?_⟩
  walk_at "dw"
  refine d_callR hx ?_
  walk_at "dw"
  refine ⟨_, .non, rfl, ⟨_, rfl, good_ok gdoc, by rw [good_forest gdoc (Nat.le_refl _)]; rfl⟩, ?_⟩
  walk_at "dw"
  refine d_callR hx ?_
  walk_at "dw"
  refine ⟨_, .non, rfl, ⟨_, _, rfl, by rw [docL_len]; omega, rfl, ?_⟩, ?_⟩
  · rw [docL_len]
    have : isBelow (.int (v : Nat)) (l.length : Nat) = true := by simp [isBelow]; omega
    rw [this]
    rfl
  walk_at "dw"
  refine d_callN hx ?_
  walk_at "dw"
  refine d_callR hx ?_
  walk_at "dw"
  refine ⟨_, _, rfl, ⟨l, v, enD (dps l) v, rfl, hv, by omega, E, rfl⟩, ?_⟩
  walk_at "dw"
  have ep : par (dps l) v = par (dps l) v := rfl
  refine ⟨_, _, rfl, ⟨l, N, B, tp, S, gd, M, v, enD (dps l) v, [v], par (dps l) v, rfl, md.mo, h8, by omega, ⟨gdoc.fo, E.lo, ⟨rfl, E.lo, rfl⟩, E.hi, fun c hc => by rw [List.mem_singleton.mp hc]⟩, hb, rfl⟩, ?_⟩
  rintro r ⟨own, rw_, rfl, ho, hnd, _⟩
  walk_at "dw"
  refine d_ix (i := 0) (d := tabD own) rfl rfl rfl ?_
  walk_at "dw"
  refine d_sortTI (ts := own.map trip) (n := 3) rfl rfl (tripD_ti own) (by decide) (fun t ht => ?_) fun p ts' hp hs => ?_
  · obtain ⟨q, _, rfl⟩ := List.mem_map.mp ht
    rfl
  walk_at "dw"
  have e1 := srt_eq hp hs
  rw [srt_perm ((nodeDue_perm ho hnd).map trip)] at e1
  rw [← e1]
  rfl
theorem cd_node_ways (T : Txt K mg) : Cal P w K mg base 6 "node_ways" (toSp (gb P w K) (spO K soNodeWays)) := T.d_node_ways.cal sc_node_ways (len_spO fun ds out ⟨_, _, _, _, _, _, _, _, h, _⟩ => by rw [h]; rfl) (bd_node_ways T (cd_need_machine T) (cd_need_document T) (cd_need_node T) (cd_end_of T) (cd_swept T))
end

end K67

set_option maxHeartbeats 4000000
namespace K67
open PySem PySem.Spec PyProof.Rows L2 KB KM
open KD hiding Dp
section
open KW
variable {P : Program} {w : World} {K : PySem.W.Frag} {mg : Str → Option Value} {base : Heap}
/-! ### row_of, of either; row_ways -/
def soRowOf (ds : List D) (out : Out) : Prop := soRowTop ds out ∨ soRowNode ds out
theorem bd_row_of (T : Txt K mg) : Body P w K mg base (1) ["document", "node", "child", "mark", "depth", "below"] "row_of" (defScope s_row_of) (defBody s_row_of) (toSp (gb P w K) (spO K soRowOf)) := by
  intro f cdv A outer s H vs Q E hr h
  obtain ⟨F, as, PP, ent, ⟨ds, out, e1, hS, e2⟩, kr, ke⟩ := h
  rcases hS with hS | hS
  · exact bd_row_top T (cd_end_of T) f cdv A outer s H vs Q E hr ⟨F, as, PP, ent, ⟨ds, out, e1, hS, e2⟩, kr, ke⟩
  · exact bd_row_node T (cd_end_of T) f cdv A outer s H vs Q E hr ⟨F, as, PP, ent, ⟨ds, out, e1, hS, e2⟩, kr, ke⟩
theorem cd_row_of (T : Txt K mg) : Cal P w K mg base 2 "row_of" (toSp (gb P w K) (spO K soRowOf)) := T.d_row_of.cal sc_row_of (len_spO fun ds out h => by
  rcases h with ⟨_, h, _⟩ | ⟨_, _, _, h, _⟩ <;> (rw [h]; rfl)) (bd_row_of T)
def rowP (ds : List Nat) : Option Nat → List Nat
  | none => rowTop ds
  | some v => chD ds v
theorem rowP_up {ds : List Nat} (hf : Fo 0 ds) {p : Option Nat} (hp : ∀ v, p = some v → v < ds.length) : ∀ c ∈ rowP ds p, c < ds.length ∧ par ds c = p := by
  intro c hc
  cases p with
  | none => exact (mem_rowTop hf).mp hc
  | some v =>
    have hv := hp v rfl
    obtain ⟨h1, h2, h3⟩ := ((frs_of hf).sib v hv).mem hc
    have h4 := (frs_of hf).up v hv
    exact ⟨by omega, (mem_chD hf (by omega) hv).mp hc⟩
theorem rowP_sib {ds : List Nat} (hf : Fo 0 ds) {p : Option Nat} (hp : ∀ v, p = some v → v < ds.length) : ∃ a b, Sib (enD ds) a (rowP ds p) b ∧ b ≤ ds.length := by
  cases p with
  | none => exact ⟨0, _, sib_top hf, Nat.le_refl _⟩
  | some v => exact ⟨v + 1, _, (frs_of hf).sib v (hp v rfl), (frs_of hf).up v (hp v rfl)⟩
theorem sib_take {en : Nat → Nat} : ∀ {r : List Nat} {a b : Nat} (n : Nat), Sib en a r b → 0 < n → n ≤ r.length → Sib en a (r.take n) (en (r.getD (n - 1) 0))
  | [], _, _, n, _, h1, h2 => by simp at h2; omega
  | c :: r, a, b, n + 1, ⟨e, h1, h2⟩, _, hl => by
    rw [List.take_succ_cons]
    refine ⟨e, h1, ?_⟩
    cases n with
    | zero => subst e; simp [Sib]
    | succ n =>
      have := sib_take (n + 1) h2 (by omega) (by simpa using hl)
      simpa using this
theorem sib_drop {en : Nat → Nat} : ∀ {r : List Nat} {a b : Nat} (n : Nat), Sib en a r b → n < r.length → Sib en (r.getD n 0) (r.drop n) b
  | [], _, _, n, _, h => by simp at h
  | c :: r, a, b, 0, ⟨e, h1, h2⟩, _ => by subst e; exact ⟨rfl, h1, h2⟩
  | c :: r, a, b, n + 1, ⟨e, h1, h2⟩, hl => by
    have := sib_drop n h2 (by simpa using hl)
    simpa using this
/-- the nodes of a stretch -/
def nodesR (ds : List Nat) (r : List Nat) : List Nat := if r = [] then [] else itv (r.getD 0 0) (enD ds (r.getD (r.length - 1) 0))
def quad (p : (Int × Int × Int) × Int) : List Int := [p.1.1, p.1.2.1, p.1.2.2, p.2]
def rowY (S : List (List Int)) (X : List Nat) (M : Nat) : List (List (Option Nat) × Nat) := (lays X M).flatMap fun p => (List.range S.length).map fun q => (p, q)
def rowF (S B : List (List Int)) (l : List (Str × Nat)) (r : List Nat) (y : List (Option Nat) × Nat) : Int × Int × Int := ((y.2 : Int), runL S B l y.1 y.2 r, (mask y.1 : Int))
def rowDue (S B : List (List Int)) (l : List (Str × Nat)) (M : Nat) (r : List Nat) : List ((Int × Int × Int) × Int) := addedG ((rowY S (nodesR (dps l) r) M).map fun y => (rowF S B l r y, (1 : Int)))
/-- what is told of a row's table -/
def toldK (ways : List Tab) (n : Nat) : List ((Int × Int × Int) × Int) := (List.range n).flatMap fun q => (ways.getD q []).map fun p => (((q : Int), p.1.1, p.1.2), p.2)
theorem toldK_succ (ways : List Tab) (n : Nat) : toldK ways (n + 1) = toldK ways n ++ (ways.getD n []).map fun p => (((n : Int), p.1.1, p.1.2), p.2) := by
  rw [toldK, toldK, List.range_succ, List.flatMap_append]
  simp
theorem told_rg {S B : List (List Int)} {l : List (Str × Nat)} {M : Nat} {X r : List Nat} {ways : List Tab} (hl : ways.length = S.length)
    (h : ∀ q : Nat, q < S.length → Rg (ways.getD q []) (lays X M) fun p => (runL S B l p q r, (mask p : Int))) : Rg (toldK ways S.length) (rowY S X M) (rowF S B l r) := by
  refine ⟨fun p hp => ?_, fun G => ?_⟩
  · simp only [toldK, List.mem_flatMap, List.mem_range, List.mem_map] at hp
    obtain ⟨q, hq, s, hs, rfl⟩ := hp
    exact (h q hq).ps s hs
  · rw [toldK, rowY, sm_flat, sm_flat]
    have e1 : ∀ q ∈ List.range S.length, sm ((ways.getD q []).map fun p => (((q : Int), p.1.1, p.1.2), p.2)) (fun p => G p.1 * p.2) = (fun q : Nat => sm (lays X M) fun p => G (rowF S B l r (p, q))) q := by
      intro q hq
      rw [sm_map]
      exact (h q (List.mem_range.mp hq)).eq fun k => G ((q : Int), k.1, k.2)
    rw [sm_congr e1, ← sm_swap]
    refine sm_congr fun p _ => ?_
    rw [sm_map]
theorem told_nd {ways : List Tab} (h : NDs ways) (n : Nat) : ((toldK ways n).map (·.1)).Nodup := by
  have h0 : ∀ q, (((ways.getD q []).map fun p : (Int × Int) × Int => (((q : Nat) : Int), p.1.1, p.1.2))).Nodup := fun q => by
    have hn : ((ways.getD q []).map (·.1)).Nodup := by
      by_cases z : q < ways.length
      · exact h _ (getD_mem z)
      · rw [List.getD_eq_getElem?_getD, List.getElem?_eq_none (by omega)]
        exact List.nodup_nil
    rw [List.nodup_iff_pairwise_ne] at hn ⊢
    rw [List.pairwise_map] at hn ⊢
    refine hn.imp fun {a b} w e => w ?_
    simp only [Prod.mk.injEq, true_and] at e
    exact Prod.ext e.1 e.2
  have e : (toldK ways n).map (·.1) = (List.range n).flatMap fun q => (ways.getD q []).map fun p : (Int × Int) × Int => (((q : Nat) : Int), p.1.1, p.1.2) := by
    rw [toldK, List.map_flatMap]
    refine congrArg (fun h => (List.range n).flatMap h) (funext fun q => ?_)
    rw [List.map_map]
    rfl
  rw [e]
  refine List.pairwise_flatMap.mpr ⟨fun q _ => h0 q, ?_⟩
  refine List.Pairwise.imp ?_ (List.nodup_range (n := n))
  intro a b hab x hx y hy
  obtain ⟨_, _, rfl⟩ := List.mem_map.mp hx
  obtain ⟨_, _, rfl⟩ := List.mem_map.mp hy
  intro z
  have := congrArg (·.1) z
  simp only at this
  exact hab (by omega)
theorem rowDue_perm {S B : List (List Int)} {l : List (Str × Nat)} {M : Nat} {r : List Nat} {ways : List Tab} (hl : ways.length = S.length) (hn : NDs ways)
    (h : ∀ q : Nat, q < S.length → Rg (ways.getD q []) (lays (nodesR (dps l) r) M) fun p => (runL S B l p q r, (mask p : Int))) : (toldK ways S.length).Perm (rowDue S B l M r) :=
  let k := rg_added (Rg.ones (rowY S (nodesR (dps l) r) M) (rowF S B l r))
  Rg.perm (told_rg hl h) k.1 (told_nd hn _) k.2
theorem lays_nil : ∀ k, lays [] k = [List.replicate k none]
  | 0 => rfl
  | k + 1 => by rw [lays, lays_nil k]; simp [List.replicate_succ']
theorem no_rg {S B : List (List Int)} {l : List (Str × Nat)} {M : Nat} (q : Nat) : Rg [(((q : Int), 0), 1)] (lays [] M) fun p => (runL S B l p q [], (mask p : Int)) := by
  refine ⟨fun p hp => ?_, fun G => ?_⟩
  · rw [List.mem_singleton.mp hp]; exact (by decide : (0 : Int) < 1)
  · have : mask (List.replicate M none) = 0 := lay_nil (m := M) (v := 0) (by rw [lays_nil]; exact List.mem_singleton.mpr rfl)
    rw [lays_nil]
    simp only [sm, this]
    simp [KW.run]
def soRowWays (ds : List D) (out : Out) : Prop := ∃ (l : List (Str × Nat)) (N : List Str) (B : List (List Int)) (tp : Int) (S : List (List Int)) (gd : List Int) (M b e : Nat) (p : Option Nat),
  ds = [machD N B tp S gd, .tup (docL l), oN p, .int (b : Nat), .int (e : Nat)] ∧ MD N B tp S gd M ∧ GoodDoc l 20000 ∧ M8 l ∧ (∀ v, p = some v → v < l.length) ∧ b ≤ e ∧ e ≤ (rowP (dps l) p).length ∧ S.length * (l.length + 1) ^ M ≤ 1000000 ∧
  out = .ret (.tup ((srt ((rowDue S B l M (((rowP (dps l) p).drop b).take (e - b))).map quad)).map tiD))
abbrev s_row_ways : Stmt := (top 41)
theorem sc_row_ways : FnScope ["machine", "document", "node", "begin", "end", "row", "ways", "told", "state", "entries", "after", "laid", "number"] ["machine", "document", "node", "begin", "end"] (defScope s_row_ways) := ⟨rfl, rfl, rfl, by decide +kernel, rfl, by decide +kernel, by decide +kernel⟩
theorem bd_row_ways (T : Txt K mg) (C_need_machine : Cal P w K mg base 5 "need_machine" (toSp (gb P w K) (spO K soNeedMach))) (C_need_document : Cal P w K mg base 4 "need_document" (toSp (gb P w K) (spO K soNeedDoc)))
    (C_is_below : Cal P w K mg base 2 "is_below" (toSp (gb P w K) (spO K soBelow))) (C_row_of : Cal P w K mg base 2 "row_of" (toSp (gb P w K) (spO K soRowOf))) (C_need_count : Cal P w K mg base 2 "need_count" (toSp (gb P w K) (spO K soNeedCount)))
    (C_no_ways : Cal P w K mg base 1 "no_ways" (toSp (gb P w K) (spO K soNoWays))) (C_end_of : Cal P w K mg base 1 "end_of" (toSp (gb P w K) (spO K soEnd))) (C_swept : Cal P w K mg base 3 "swept" (toSp (gb P w K) (spN soSwept))) :
    Body P w K mg base (5) ["machine", "document", "node", "begin", "end", "row", "ways", "told", "state", "entries", "after", "laid", "number"] "row_ways" (defScope s_row_ways) (defBody s_row_ways) (toSp (gb P w K) (spO K soRowWays)) := by
  intro f cdv A outer s H vs Q E hr h
  have hu := hu_of hr
  have tk : Takes (cxOf (L2.CX P w) P w K mg base ["machine", "document", "node", "begin", "end", "row", "ways", "told", "state", "entries", "after", "laid", "number"] "row_ways" (defScope s_row_ways) f cdv A outer s H E) (WF E) := takes_of rfl rfl rfl rfl
  refine ⟨_, (pss_cons (ps_expr (pe_cal C_need_machine hr (by omega) tk (pa_cons (pv 0) pa_nil)))
    (pss_cons (ps_expr (pe_cal C_need_document hr (by omega) tk (pa_cons (pv 1) pa_nil)))
    (Evl.pss_cut (ps_if (PW.pt (pw_and (pt_cmpR op_notN1 (pv 2) pe_non (nomark _)) (pw_and1 (pt_not (pt_val (pe_cal C_is_below hr (by omega) tk (pa_cons (pv 2) (pa_cons (pe_callB call_lenK (by rfl) T.g_len (by decide +kernel) (pa_cons (pv 1) pa_nil)) pa_nil)))))))) (pss_one (ps_raiseD T.x_BadNode tk)) pss_nil)
    (pss_cons (ps_set (i := 5) sc_row_ways.nd rfl (Or.inl rfl) (pe_cal C_row_of hr (by omega) tk (pa_cons (pv 1) (pa_cons (pv 2) pa_nil))))
    (pss_cons (ps_expr (pe_cal C_need_count hr (by omega) tk (pa_cons (pv 3) (pa_cons (pe_callB call_lenK (by rfl) T.g_len (by decide +kernel) (pa_cons (pv 5) pa_nil)) pa_nil))))
    (pss_cons (ps_expr (pe_cal C_need_count hr (by omega) tk (pa_cons (pv 4) (pa_cons (pe_callB call_lenK (by rfl) T.g_len (by decide +kernel) (pa_cons (pv 5) pa_nil)) pa_nil))))
    (pss_cons (ps_if (pt_cmpR op_lt (pv 4) (pv 3) (nomark _)) (pss_one (ps_raiseD T.x_BadCount tk)) pss_nil)
    (Evl.pss_cut (ps_if (pt_cmpR op_eq (pv 3) (pv 4) (nomark _)) (pss_one (ps_set (i := 6) sc_row_ways.nd rfl (Or.inl rfl) (pe_cal C_no_ways hr (by omega) tk (pa_cons (pe_callB call_lenK (by rfl) T.g_len (by decide +kernel) (pa_cons (pe_ix ix_seq (pv 0) pe_int (fun _ _ => rfl)) pa_nil)) pa_nil)))) (pss_one (ps_set (i := 6) sc_row_ways.nd rfl (Or.inl rfl) (pe_ix ix_seq (pe_cal C_swept hr (by omega) tk (pa_cons (pv 0) (pa_cons (pv 1) (pa_cons (pe_ix ix_seq (pv 5) (pv 3) (fun _ _ => rfl)) (pa_cons (pe_cal C_end_of hr (by omega) tk (pa_cons (pv 1) (pa_cons (pe_ix ix_seq (pv 5) (pe_op op_sub (pv 4) pe_int) (fun _ _ => rfl)) pa_nil))) pa_nil))))) pe_int (fun _ _ => rfl)))))
    (pss_cons (ps_setO (i := 7) sc_row_ways.nd rfl (Or.inl rfl) (pe_lst pa_nil))
    (pss_cons (ps_for (passes_of rfl) rfl (pi_enum (by rfl) T.g_enumerate (pa_cons (pv 6) pa_nil)) (pg_tup (n := 2) (by rfl) (pgs_cons (pg_name (i := 8) sc_row_ways.nd rfl (Or.inr rfl)) (pgs_cons (pg_name (i := 9) sc_row_ways.nd rfl (Or.inl rfl)) pgs_nil))) (pss_one (ps_expr (pe_bm PySem.F.plainAttrs_list PySem.F.slot_list_extend PySem.F.type_list_extend mt_extend (pv 7) (pa_cons (pe_lc (own := [("after", 10), ("laid", 11), ("number", 12)]) (g := (gTup K 3 (gCons (gName 10) (gCons (gName 11) (gCons (gName 12) gNil))))) (by rfl) sc_row_ways.nd  (pi_list (pv 9)) (blkOk_by (own := [("after", 10), ("laid", 11), ("number", 12)]) (N := ["machine", "document", "node", "begin", "end", "row", "ways", "told", "state", "entries", "after", "laid", "number"]) (sc := defScope s_row_ways) (by decide +kernel)) (fun _ _ _ _ _ => (pg_tup (n := 3) (by rfl) (pgs_cons (pg_name (i := 10) sc_row_ways.nd rfl (Or.inl rfl)) (pgs_cons (pg_name (i := 11) sc_row_ways.nd rfl (Or.inl rfl)) (pgs_cons (pg_name (i := 12) sc_row_ways.nd rfl (Or.inl rfl)) pgs_nil))))) (fun _ _ _ _ _ => pts_nil) (fun _ _ _ _ _ => (pe_tup (pa_cons (pv 8) (pa_cons (pv 10) (pa_cons (pv 11) (pa_cons (pv 12) pa_nil))))))) pa_nil)))))
    (pss_one (ps_ret (pe_callTy call_tupD (by rfl) T.g_tuple (by decide +kernel) (pa_cons (pe_callB cr_sortTI (by rfl) T.g_sorted (by decide +kernel) (pa_cons (pv 7) pa_nil)) pa_nil)))))))))))))), ?_⟩
  try dsimp only [cxOf]
  refine d_startO h fun ds out hS c hx hM => ?_
  obtain ⟨l, N, B, tp, S, gd, M, b, e, p, rfl, md, gdoc, h8, hp, hbe, hel, hb, rfl⟩ := hS
  have hl := gdoc.len
  have hz : (1000000 : Nat) < sizeLine := by decide
  have s1 := md.mo.s1
  have s2 := md.mo.s2
  have ld := fo_len l
  have hpd : ∀ v, p = some v → v < (dps l).length := fun v q => by rw [ld]; exact hp v q
  have hb1 : (l.length + 1) ^ M ≤ 1000000 := Nat.le_trans (Nat.le_mul_of_pos_left _ (by omega)) hb
  obtain ⟨sa, sb_, sib, hsb⟩ := rowP_sib gdoc.fo hpd
  have up := rowP_up gdoc.fo hpd
  have ln : (rowP (dps l) p).length ≤ 20000 := by
    have : ∀ {r : List Nat} {a b : Nat}, Sib (enD (dps l)) a r b → a + r.length ≤ b := by
      intro r
      induction r with
      | nil => intro a b h; have h : a = b := h; simp; omega
      | cons c r ih => intro a b h; obtain ⟨_, h1, h2⟩ := h; have := ih h2; simp; omega
    have := this sib
    omega
  generalize hrow : rowP (dps l) p = row at *
  refine d_st (δ' := [.fz (machD N B tp S gd), .fz (.tup (docL l)), .fz (oN p), .fz (.int b), .fz (.int e), .no, .no, .no, .no, .no, .no, .no, .no]) (by rfl) ?_
  walk_at "dw"
  refine d_callR hx ?_
  walk_at "dw"
  refine ⟨_, .non, rfl, ⟨_, rfl, md.ok, md.sm, by rw [md.is]; rfl⟩, ?_⟩
  walk_at "dw"
  refine d_callR hx ?_
  walk_at "dw"
  refine ⟨_, .non, rfl, ⟨_, rfl, good_ok gdoc, by rw [good_forest gdoc (Nat.le_refl _)]; rfl⟩, ?_⟩
  walk_at "dw"
  refine d_cut (fun δ => δ = [.fz (machD N B tp S gd), .fz (.tup (docL l)), .fz (oN p), .fz (.int b), .fz (.int e), .no, .no, .no, .no, .no, .no, .no, .no]) ?_ ?_
  · cases p with
    | none =>
      walk_at "dw"
      rfl
    | some v =>
      walk_at "dw"
      refine d_callR hx ?_
      walk_at "dw"
      refine ⟨_, _, rfl, ⟨_, _, rfl, rfl, rfl⟩, ?_⟩
      have : isBelow (oN (some v)) (((docL l).length : Nat) : Int) = true := by
        have := hp v rfl
        rw [docL_len]
        simp [oN, isBelow]
        omega
      rw [this]
      walk_at "dw"
      rfl
  rintro δ rfl
  walk_at "dw"
  refine d_callL hx ?_
  walk_at "dw"
  refine ⟨_, intL row, rfl, ?_, fun a0 => ?_⟩
  · rw [← hrow]
    cases p with
    | none => exact .inl ⟨l, rfl, by omega, rfl⟩
    | some v => exact .inr ⟨l, v, enD (dps l) v, rfl, hp v rfl, by omega, enD_is (hpd v rfl), rfl⟩
  walk_at "dw"
  have ll : (intL row).length = row.length := List.length_map ..
  have cnt_ : ∀ k : Nat, k ≤ row.length → isCount (.int (k : Nat)) ((row.length : Nat) : Int) = true := fun k hk => by simp [isCount]; omega
  refine d_callR hx ?_
  walk_at "dw"
  refine ⟨_, .non, rfl, ⟨_, _, rfl, rfl, by rw [ll, cnt_ b (by omega)]; rfl⟩, ?_⟩
  walk_at "dw"
  refine d_callR hx ?_
  walk_at "dw"
  refine ⟨_, .non, rfl, ⟨_, _, rfl, rfl, by rw [ll, cnt_ e hel]; rfl⟩, ?_⟩
  walk_at "dw"
  refine i_dec (fun z => absurd z (by omega)) (fun _ => ?_)
  walk_at "dw"
  refine d_cut (fun δ => ∃ ways : List Tab, ways.length = S.length ∧ NDs ways ∧ (∀ q : Nat, q < S.length → Rg (ways.getD q []) (lays (nodesR (dps l) ((row.drop b).take (e - b))) M) fun p => (runL S B l p q ((row.drop b).take (e - b)), (mask p : Int))) ∧
      δ = [.fz (machD N B tp S gd), .fz (.tup (docL l)), .fz (oN p), .fz (.int b), .fz (.int e), .fz (.lst (intL row)), .fz (tabsD ways), .no, .no, .no, .no, .no, .no]) ?_ ?_
  · walk_at "dw"
    refine i_dec (fun z => ?_) (fun z => ?_)
    · have ebe : b = e := by omega
      walk_at "dw"
      refine d_callL hx ?_
      walk_at "dw"
      refine d_ix (i := 3) (d := .tup (S.map rowD)) rfl rfl rfl ?_
      walk_at "dw"
      rw [List.length_map]
      refine ⟨_, _, rfl, ⟨S.length, rfl, by omega, rfl⟩, fun a1 => ?_⟩
      walk_at "dw"
      have er : (row.drop b).take (e - b) = [] := by rw [ebe, Nat.sub_self, List.take_zero]
      refine ⟨(List.range S.length).map fun s : Nat => [(((s : Int), 0), 1)], by simp, fun t ht => ?_, fun q hq => ?_, ?_⟩
      · obtain ⟨s, _, rfl⟩ := List.mem_map.mp ht
        exact List.nodup_cons.mpr ⟨List.not_mem_nil, List.nodup_nil⟩
      · have e1 : ((List.range S.length).map fun s : Nat => [(((s : Int), (0 : Int)), (1 : Int))]).getD q [] = [(((q : Int), 0), 1)] := by
          rw [List.getD_eq_getElem?_getD, List.getElem?_map, List.getElem?_range hq]; rfl
        rw [e1, er]
        exact no_rg q
      · show _ = [_, _, _, _, _, _, Sl.fz (.lst (((List.range S.length).map fun s : Nat => [(((s : Int), (0 : Int)), (1 : Int))]).map tabD)), _, _, _, _, _, _]
        rw [List.map_map]
        rfl
    · have hlt : b < e := by omega
      have hb' : b < row.length := by omega
      have he' : e - 1 < row.length := by omega
      have m1 : row.getD b 0 ∈ row := getD_mem hb'
      have m2 : row.getD (e - 1) 0 ∈ row := getD_mem he'
      have u2 := up _ m2
      have E := enD_is (ds := dps l) u2.1
      have rl : ((row.drop b).take (e - b)).length = e - b := by rw [List.length_take, List.length_drop]; omega
      have g0 : ((row.drop b).take (e - b)).getD 0 0 = row.getD b 0 := by
        rw [List.getD_eq_getElem?_getD, List.getElem?_take, if_pos (by omega), List.getElem?_drop, List.getD_eq_getElem?_getD]; rfl
      have g1 : ((row.drop b).take (e - b)).getD (e - b - 1) 0 = row.getD (e - 1) 0 := by
        rw [List.getD_eq_getElem?_getD, List.getElem?_take, if_pos (by omega), List.getElem?_drop, List.getD_eq_getElem?_getD, show b + (e - b - 1) = e - 1 by omega]
      have sd := sib_take (e - b) (sib_drop b sib hb') (by omega) (by rw [List.length_drop]; omega)
      have gd2 : (row.drop b).getD (e - b - 1) 0 = row.getD (e - 1) 0 := by
        rw [List.getD_eq_getElem?_getD, List.getElem?_drop, List.getD_eq_getElem?_getD, show b + (e - b - 1) = e - 1 by omega]
      rw [gd2] at sd
      have nodes : nodesR (dps l) ((row.drop b).take (e - b)) = itv (row.getD b 0) (enD (dps l) (row.getD (e - 1) 0)) := by
        unfold nodesR
        rw [if_neg (fun q => by rw [q] at rl; simp at rl; omega), rl, g0, g1]
      have lt0 : row.getD b 0 < enD (dps l) (row.getD (e - 1) 0) := by
        cases er : (row.drop b).take (e - b) with
        | nil => rw [er] at rl; simp at rl; omega
        | cons c k =>
          rw [er] at sd
          obtain ⟨k1, k2, k3⟩ := sd
          have := k3.le
          omega
      have at1 : atI (intL row) ((b : Nat) : Int) = some (.int (row.getD b 0 : Nat)) := atI_map (f := fun n : Nat => D.int n) (getD_at (d := 0) hb')
      have at2 : atI (intL row) (((e : Nat) : Int) - 1) = some (.int (row.getD (e - 1) 0 : Nat)) := by
        rw [show ((e : Nat) : Int) - 1 = ((e - 1 : Nat) : Int) by omega]
        exact atI_map (f := fun n : Nat => D.int n) (getD_at (d := 0) he')
      walk_at "dw"
      refine d_callN hx ?_
      walk_at "dw"
      refine d_ix (i := (b : Nat)) rfl rfl at1 ?_
      walk_at "dw"
      refine d_callR hx ?_
      walk_at "dw"
      refine d_ix (i := ((e : Nat) : Int) - 1) rfl rfl at2 ?_
      walk_at "dw"
      refine ⟨_, _, rfl, ⟨l, _, _, rfl, by omega, by omega, E, rfl⟩, ?_⟩
      walk_at "dw"
      refine ⟨_, _, rfl, ⟨l, N, B, tp, S, gd, M, _, _, (row.drop b).take (e - b), p, rfl, md.mo, h8, by omega, ⟨gdoc.fo, lt0, sd, E.hi, fun c hc => (up c (List.mem_of_mem_drop (List.mem_of_mem_take hc))).2⟩, hb1, rfl⟩, ?_⟩
      rintro r ⟨own, rw_, rfl, ho, hnd, hr, hn⟩
      walk_at "dw"
      refine d_ix (i := 1) (d := tabsD rw_) rfl rfl rfl ?_
      walk_at "dw"
      refine ⟨rw_, hr.1, hn, fun q hq => ?_, rfl⟩
      rw [nodes]
      exact hr.2 q hq
  rintro δ ⟨ways, wl, wn, wr, rfl⟩
  have tlen : (toldK ways S.length).length ≤ 1000000 := by
    have h1 := (told_rg wl wr).len
    have h2 : (rowY S (nodesR (dps l) ((row.drop b).take (e - b))) M).length ≤ S.length * (l.length + 1) ^ M := by
      have key : ∀ L : List (List (Option Nat)), (L.flatMap fun p => (List.range S.length).map fun q => (p, q)).length = L.length * S.length := by
        intro L
        induction L with
        | nil => simp
        | cons x L ih => rw [List.flatMap_cons, List.length_append, ih, List.length_map, List.length_range, List.length_cons, Nat.succ_mul, Nat.add_comm]
      rw [rowY, key, Nat.mul_comm]
      refine Nat.mul_le_mul_left _ ?_
      refine lays_le ?_ (Nat.le_refl _)
      unfold nodesR
      split
      · simp
      · rename_i z
        rw [List.length_range']
        have hne : 0 < ((row.drop b).take (e - b)).length := List.length_pos_iff.mpr z
        have : ∀ v, enD (dps l) v ≤ max (v + 1) (dps l).length := fun v => by
          by_cases q : v < (dps l).length
          · have := (enD_is q).hi; omega
          · unfold enD; rw [List.drop_eq_nil_of_le (by omega)]; simp
            omega
        have m2 : ((row.drop b).take (e - b)).getD (((row.drop b).take (e - b)).length - 1) 0 ∈ (row.drop b).take (e - b) := getD_mem (by omega)
        have := (up _ (List.mem_of_mem_drop (List.mem_of_mem_take m2))).1
        have := (enD_is this).hi
        omega
    omega
  walk_at "dw"
  intro a2
  walk_at "dw"
  refine d_for ?_
  refine d_iEnum rfl ?_
  walk_at "dw"
  refine ⟨_, _, rfl, rfl, ?_⟩
  refine ⟨fun i δ => ∃ s8 s9, i ≤ S.length ∧ δ = [.fz (machD N B tp S gd), .fz (.tup (docL l)), .fz (oN p), .fz (.int b), .fz (.int e), .fz (.lst (intL row)), .fz (tabsD ways), .ow (.fl a2 ((toldK ways i).map fun q => tiD (quad q))), s8, s9, .no, .no, .no],
    ⟨_, _, Nat.zero_le _, rfl⟩, fun _ _ _ => trivial, ?_, ?_⟩
  · rintro i δ hi ⟨s8, s9, _, rfl⟩
    rw [List.length_map, wl] at hi
    have ew : (ways.map tabD).getD i .non = tabD (ways.getD i []) := by
      rw [List.getD_eq_getElem?_getD, List.getElem?_map, getD_at (d := []) (show i < ways.length by omega)]; rfl
    have esn := toldK_succ ways i
    have lle : (toldK ways (i + 1)).length ≤ (toldK ways S.length).length := by
      have : ∀ k, (toldK ways (i + 1)).length ≤ (toldK ways (i + 1 + k)).length := by
        intro k
        induction k with
        | zero => exact Nat.le_refl _
        | succ k ih => rw [← Nat.add_assoc, toldK_succ ways (i + 1 + k), List.length_append]; omega
      have := this (S.length - (i + 1))
      rwa [show i + 1 + (S.length - (i + 1)) = S.length by omega] at this
    have tl : (ways.getD i []).length ≤ 1000000 := by
      have : (toldK ways (i + 1)).length = (toldK ways i).length + (ways.getD i []).length := by rw [esn, List.length_append, List.length_map]
      omega
    dsimp only
    rw [ew]
    generalize ways.getD i [] = t at esn tl
    walk_at "dw"
    refine d_lcP (only_tup (only_cons (only_name (by decide)) (only_cons (only_name (by decide)) (only_cons (only_name (by decide)) only_nil)))) ?_
    walk_at "dw"
    refine ⟨by rw [List.length_map]; omega, trivial, rfl, fun j => tiD (quad (((i : Int), (t.getD j ((0, 0), 0)).1.1, (t.getD j ((0, 0), 0)).1.2), (t.getD j ((0, 0), 0)).2)), fun c2 j hj => ?_, fun a3 => ?_⟩
    · rw [List.length_map] at hj
      have e2 : (t.map tripD).getD j .non = tripD (t.getD j ((0, 0), 0)) := by
        rw [List.getD_eq_getElem?_getD, List.getElem?_map, getD_at (d := ((0, 0), 0)) hj]; rfl
      dsimp only
      rw [e2]
      generalize t.getD j ((0, 0), 0) = q
      unfold tripD
      walk_at "dw"
      exact ⟨rfl, rfl⟩
    · rw [List.length_map, range_getD t ((0, 0), 0) fun q => tiD (quad (((i : Int), q.1.1, q.1.2), q.2))]
      have e3 : (t.map fun q => tiD (quad (((i : Int), q.1.1, q.1.2), q.2))) = (t.map fun p => (((i : Int), p.1.1, p.1.2), p.2)).map fun q => tiD (quad q) := by rw [List.map_map]; rfl
      rw [e3]
      walk_at "dw"
      refine d_extend (i := 7) rfl rfl rfl ?_ ?_
      · rw [← List.length_append, ← List.map_append, ← esn, List.length_map]; omega
      rw [← List.map_append, ← esn]
      exact ⟨_, _, hi, rfl⟩
  · rintro δ ⟨s8, s9, _, rfl⟩
    rw [List.length_map, wl]
    walk_at "dw"
    refine d_sortTI (ts := (toldK ways S.length).map quad) (n := 4) rfl rfl (by rw [List.map_map]; rfl) (by decide) (fun t ht => ?_) fun p ts' hp hs => ?_
    · obtain ⟨q, _, rfl⟩ := List.mem_map.mp ht
      rfl
    walk_at "dw"
    have e1 := srt_eq hp hs
    rw [srt_perm ((rowDue_perm wl wn wr).map quad)] at e1
    rw [← e1]
    rfl
theorem cd_row_ways (T : Txt K mg) : Cal P w K mg base 6 "row_ways" (toSp (gb P w K) (spO K soRowWays)) := T.d_row_ways.cal sc_row_ways (len_spO fun ds out ⟨_, _, _, _, _, _, _, _, _, _, h, _⟩ => by rw [h]; rfl)
  (bd_row_ways T (cd_need_machine T) (cd_need_document T) (cd_is_below T) (cd_row_of T) (cd_need_count T) (cd_no_ways T) (cd_end_of T) (cd_swept T))
end

end K67

set_option maxHeartbeats 4000000
namespace K67
open PySem PySem.Spec PyProof.Rows L2 KB KM
open KD hiding Dp
section
open KW
variable {P : Program} {w : World} {K : PySem.W.Frag} {mg : Str → Option Value} {base : Heap}
/-! ### the law's children -/
def kids (ds : List Nat) (m : Nat) (p : Option Nat) : List Nat := (List.range m).filter fun i => decide (par ds i = p)
theorem kids_succ (ds : List Nat) (m : Nat) (p : Option Nat) : kids ds (m + 1) p = kids ds m p ++ (if par ds m = p then [m] else []) := by
  unfold kids
  rw [List.range_succ, List.filter_append]
  by_cases h : par ds m = p
  · simp [h]
  · simp [h]
theorem kids_len (ds : List Nat) : ∀ m p, (kids ds m p).length = KM.cnt ds m p
  | 0, _ => rfl
  | m + 1, p => by
    rw [kids_succ, List.length_append, kids_len ds m p, KM.cnt]
    split <;> rfl
def rowAt (n k : Nat) : Option Nat := if k = n then none else some k
def rowsD (ds : List Nat) (n : Nat) : List D := (List.range (n + 1)).map fun k => .lst (intL (kids ds n (rowAt n k)))
def mkOs (as : List Addr) (f : Nat → List D) : List OD := (List.range as.length).map fun k => .fl (as.getD k 0) (f k)
theorem mkOs_len (as : List Addr) (f : Nat → List D) : (mkOs as f).length = as.length := by rw [mkOs, List.length_map, List.length_range]
theorem mkOs_get {as : List Addr} {f : Nat → List D} {k : Nat} (h : k < as.length) : (mkOs as f)[k]? = some (.fl (as.getD k 0) (f k)) := by
  rw [mkOs, List.getElem?_map, List.getElem?_range h]; rfl
theorem mkOs_snoc (as : List Addr) (a : Addr) (f : Nat → List D) : mkOs (as ++ [a]) f = mkOs as f ++ [.fl a (f as.length)] := by
  unfold mkOs
  rw [List.length_append, List.length_singleton, List.range_succ, List.map_append]
  congr 1
  · refine List.map_congr_left fun k hk => ?_
    rw [List.mem_range] at hk
    rw [List.getD_eq_getElem?_getD, List.getElem?_append_left hk, ← List.getD_eq_getElem?_getD]
  · simp
theorem mkOs_set {as : List Addr} {f f2 : Nat → List D} {k : Nat} (h : k < as.length) (e1 : ∀ j, j ≠ k → f2 j = f j) : (mkOs as f).set k (.fl (as.getD k 0) (f2 k)) = mkOs as f2 := by
  refine List.ext_getElem? fun j => ?_
  by_cases hj : j < as.length
  · rw [mkOs_get hj, List.getElem?_set, mkOs_len]
    by_cases e : k = j
    · subst e; rw [if_pos rfl, if_pos h]
    · rw [if_neg e, mkOs_get hj, e1 j (Ne.symm e)]
  · rw [List.getElem?_eq_none_iff.mpr (by rw [List.length_set, mkOs_len]; omega), List.getElem?_eq_none_iff.mpr (by rw [mkOs_len]; omega)]
theorem mkOs_data (as : List Addr) (f : Nat → List D) : dataL (mkOs as f) = (List.range as.length).map fun k => .lst (f k) := by
  have : ∀ l : List Nat, dataL (l.map fun k => OD.fl (as.getD k 0) (f k)) = l.map fun k => D.lst (f k) := by
    intro l
    induction l with
    | nil => rfl
    | cons k r ih => simp only [List.map_cons, dataL, ih]; rfl
  exact this _
theorem kids_rowP {ds : List Nat} (hf : Fo 0 ds) {p : Option Nat} (hp : ∀ v, p = some v → v < ds.length) : kids ds ds.length p = rowP ds p := by
  have s1 : (kids ds ds.length p).Pairwise (· < ·) := List.pairwise_lt_range.filter _
  have s2 : (rowP ds p).Pairwise (· < ·) := by
    cases p with
    | none => exact List.pairwise_lt_range.filter _
    | some v =>
      show (chD ds v).Pairwise (· < ·)
      rw [chD, rowNode_eq]
      exact List.Pairwise.filter _ (List.pairwise_lt_range' ..)
  have nd : ∀ {l : List Nat}, l.Pairwise (· < ·) → l.Nodup := fun h => h.imp fun {a b} q e => by omega
  refine List.Perm.eq_of_pairwise (le := (· < ·)) (fun a b _ _ h1 h2 => by omega) s1 s2 ((List.perm_ext_iff_of_nodup (nd s1) (nd s2)).mpr fun c => ?_)
  rw [kids, List.mem_filter, List.mem_range, decide_eq_true_eq]
  constructor
  · rintro ⟨h1, h2⟩
    cases p with
    | none => exact (mem_rowTop hf).mpr ⟨h1, h2⟩
    | some v => exact (mem_chD hf h1 (hp v rfl)).mpr h2
  · intro h
    exact rowP_up hf hp c h
/-- the children of each node, and, last, of the top -/
def chL (l : List (Str × Nat)) : List D := (List.range (l.length + 1)).map fun k => .lst (intL (rowP (dps l) (rowAt l.length k)))
theorem chL_is {l : List (Str × Nat)} (hf : Fo 0 (dps l)) : rowsD (dps l) l.length = chL l := by
  refine List.map_congr_left fun k hk => ?_
  rw [List.mem_range] at hk
  have := kids_rowP hf (p := rowAt l.length k) fun v e => by
    rw [fo_len]
    unfold rowAt at e
    by_cases q : k = l.length
    · rw [if_pos q] at e; cases e
    · rw [if_neg q] at e; cases e; omega
  rw [fo_len] at this
  rw [this]
theorem chL_at {l : List (Str × Nat)} {k : Nat} (h : k ≤ l.length) : atI (chL l) ((k : Nat) : Int) = some (.lst (intL (rowP (dps l) (rowAt l.length k)))) := by
  unfold atI ixN
  rw [if_pos (by omega), if_pos (by rw [chL, List.length_map, List.length_range]; omega)]
  show (chL l)[((k : Nat) : Int).toNat]? = _
  rw [Int.toNat_natCast, chL, List.getElem?_map, List.getElem?_range (by omega)]
  rfl
def soChildren (ds : List D) (out : Out) : Prop := ∃ l, ds = [.tup (docL l)] ∧ Fo 0 (dps l) ∧ l.length ≤ 100000 ∧ out = .lst (chL l)
abbrev s__law_children : Stmt := (top 49)
theorem sc__law_children : FnScope ["document", "got", "open_nodes", "node", "mark", "depth", "row"] ["document"] (defScope s__law_children) := ⟨rfl, rfl, rfl, by decide +kernel, rfl, by decide +kernel, by decide +kernel⟩
theorem bd_children (T : Txt K mg) : Body P w K mg base (0) ["document", "got", "open_nodes", "node", "mark", "depth", "row"] "_law_children" (defScope s__law_children) (defBody s__law_children) (toSp (gb P w K) (spO K soChildren)) := by
  intro f cdv A outer s H vs Q E hr h
  have hu := hu_of hr
  have tk : Takes (cxOf (L2.CX P w) P w K mg base ["document", "got", "open_nodes", "node", "mark", "depth", "row"] "_law_children" (defScope s__law_children) f cdv A outer s H E) (WF E) := takes_of rfl rfl rfl rfl
  refine ⟨_, (pss_cons (ps_x (ps_par (i := 1) (j := 2) (by rfl) sc__law_children.nd rfl rfl (by decide) rfl rfl (pa_cons (pe_lc (own := [("node", 3)]) (g := (gName 3)) (by rfl) sc__law_children.nd  (pi_range1 rfl T.g_range (pa_cons (pe_op op_add (pe_callB call_lenK (by rfl) T.g_len (by decide +kernel) (pa_cons (pv 0) pa_nil)) pe_int) pa_nil)) (blkOk_by (own := [("node", 3)]) (N := ["document", "got", "open_nodes", "node", "mark", "depth", "row"]) (sc := defScope s__law_children) (by decide +kernel)) (fun _ _ _ _ _ => (pg_name (i := 3) sc__law_children.nd rfl (Or.inl rfl))) (fun _ _ _ _ _ => pts_nil) (fun _ _ _ _ _ => (pe_lst pa_nil))) (pa_cons (pe_lst pa_nil) pa_nil)) (by rfl)))
    (pss_cons (ps_for (passes_of rfl) rfl (pi_enumT (by rfl) T.g_enumerate (pa_cons (pv 0) pa_nil)) (pg_tup (n := 2) (by rfl) (pgs_cons (pg_name (i := 3) sc__law_children.nd rfl (Or.inl rfl)) (pgs_cons (pg_tup (n := 2) (by rfl) (pgs_cons (pg_name (i := 4) sc__law_children.nd rfl (Or.inl rfl)) (pgs_cons (pg_name (i := 5) sc__law_children.nd rfl (Or.inl rfl)) pgs_nil))) pgs_nil))) (pss_cons (ps_setO (i := 2) sc__law_children.nd rfl (Or.inl rfl) (pe_slice sl_list (pv 2) po_none (po_some (pv 5))))
    (pss_cons (ps_set (i := 6) sc__law_children.nd rfl (Or.inl rfl) (pe_ix ix_seq (pv 1) (pe_ifExp (pt_cmpR op_eq (pv 5) pe_int (nomark _)) (pe_callB call_lenK (by rfl) T.g_len (by decide +kernel) (pa_cons (pv 0) pa_nil)) (pe_ix ix_seq (pv 2) (pe_un un_neg pe_int) (fun _ _ => rfl))) (fun _ _ => rfl)))
    (pss_cons (ps_expr (pe_bm PySem.F.plainAttrs_list PySem.F.slot_list_append PySem.F.type_list_append mt_append (pv 6) (pa_cons (pv 3) pa_nil)))
    (pss_one (ps_expr (pe_bm PySem.F.plainAttrs_list PySem.F.slot_list_append PySem.F.type_list_append mt_append (pv 2) (pa_cons (pv 3) pa_nil))))))))
    (pss_one (ps_ret (pv 1))))), ?_⟩
  try dsimp only [cxOf]
  refine d_startO h fun ds out hS c hx hM => ?_
  obtain ⟨l, rfl, hf, hl, rfl⟩ := hS
  refine d_st (δ' := [.fz (.tup (docL l)), .no, .no, .no, .no, .no, .no]) (by rfl) ?_
  have hz : (100000 : Nat) + 1 < sizeLine := by decide
  walk_at "dw"
  refine d_lcN (only_name (by decide)) ?_
  walk_at "dw"
  rw [docL_len]
  refine ⟨_, rfl, by omega, by omega, by omega, ?_⟩
  refine ⟨fun i acc δ => δ = [.fz (.tup (docL l)), .no, .no, .no, .no, .no, .no] ∧ ∃ as : List Addr, as.length = i ∧ acc = mkOs as fun _ => [], ⟨rfl, [], rfl, rfl⟩, ?_, ?_, ?_⟩
  · rintro i acc δ ⟨rfl, _⟩
    exact ⟨trivial, rfl⟩
  · rintro c' i acc δ hi ⟨rfl, as, ha, rfl⟩
    walk_at "dw"
    intro p
    refine ⟨_, rfl, rfl, as ++ [p], ?_, ?_⟩
    · rw [List.length_append, ha]; rfl
    · rw [mkOs_snoc]
  · rintro p acc δ' ⟨rfl, as, ha, rfl⟩
    have ha' : as.length = l.length + 1 := by omega
    walk_at "dw"
    intro c1 up1
    walk_at "dw"
    intro a2
    walk_at "dw"
    intro c2 up2
    walk_at "dw"
    refine ⟨_, _, _, _, rfl, .ow, .ow, ?_⟩
    walk_at "dw"
    refine d_for ?_
    refine d_iEnumT rfl ?_
    walk_at "dw"
    refine ⟨_, rfl, ?_⟩
    refine ⟨fun i δ => ∃ a3 s3 s4 s5 s6, δ = [.fz (.tup (docL l)), .ow (.nl p (mkOs as fun k => intL (kids (dps l) i (rowAt l.length k)))), .ow (.fl a3 (intL (pa (dps l) i))), s3, s4, s5, s6], ⟨a2, _, _, _, _, rfl⟩, fun _ _ _ => trivial, ?_, ?_⟩
    · rintro i δ hi ⟨a3, s3, s4, s5, s6, rfl⟩
      rw [docL_len] at hi
      have hi' : i < (dps l).length := by rw [fo_len]; exact hi
      obtain ⟨m, em⟩ := docL_get hi
      have room := pa_room hf hi'
      have ple := pa_le hf i (by omega)
      have lt : ((pa (dps l) i).take ((dps l).getD i 0)).length = (dps l).getD i 0 := by rw [List.length_take]; omega
      dsimp only
      rw [em]
      obtain ⟨k, hk, hkey, hidx⟩ : ∃ k, k < l.length + 1 ∧ rowAt l.length k = par (dps l) i ∧ ((par (dps l) i = none ∧ k = l.length) ∨ par (dps l) i = some k) := by
        cases e : par (dps l) i with
        | none => exact ⟨l.length, by omega, by rw [rowAt, if_pos rfl], .inl ⟨rfl, rfl⟩⟩
        | some k =>
          have := par_lt hf hi' e
          exact ⟨k, by omega, by rw [rowAt, if_neg (by omega)], .inr rfl⟩
      have key : ∀ j, j < l.length + 1 → j ≠ k → rowAt l.length j ≠ par (dps l) i := fun j hj ne z => by
        rcases hidx with ⟨e, e2⟩ | e
        · rw [e, rowAt] at z
          by_cases q : j = l.length
          · exact ne (by omega)
          · rw [if_neg q] at z; cases z
        · rw [e, rowAt] at z
          by_cases q : j = l.length
          · rw [if_pos q] at z; cases z
          · rw [if_neg q] at z; exact ne (Option.some.inj z)
      have hka : k < as.length := by omega
      have key : ∀ j, j < l.length + 1 → j ≠ k → rowAt l.length j ≠ par (dps l) i := fun j hj ne z => by
        rcases hidx with ⟨e, e2⟩ | e
        · rw [e, rowAt] at z
          by_cases q : j = l.length
          · exact ne (by omega)
          · rw [if_neg q] at z; cases z
        · rw [e, rowAt] at z
          by_cases q : j = l.length
          · rw [if_pos q] at z; cases z
          · rw [if_neg q] at z; exact ne (Option.some.inj z)
      have step : (mkOs as fun k => intL (kids (dps l) i (rowAt l.length k))).set k (.fl (as.getD k 0) (intL (kids (dps l) i (rowAt l.length k)) ++ [.int (i : Nat)])) = mkOs as fun k => intL (kids (dps l) (i + 1) (rowAt l.length k)) := by
        have e1 : intL (kids (dps l) i (rowAt l.length k)) ++ [.int (i : Nat)] = intL (kids (dps l) (i + 1) (rowAt l.length k)) := by
          rw [kids_succ, if_pos hkey.symm]
          simp only [intL, List.map_append, List.map_cons, List.map_nil]
        rw [e1]
        refine List.ext_getElem? fun j => ?_
        by_cases hj : j < as.length
        · rw [mkOs_get hj, List.getElem?_set, mkOs_len]
          by_cases e : k = j
          · subst e; rw [if_pos rfl, if_pos hka]
          · rw [if_neg e, mkOs_get hj, kids_succ, if_neg (fun z => key j (by omega) (Ne.symm e) z.symm), List.append_nil]
        · rw [List.getElem?_eq_none_iff.mpr (by rw [List.length_set, mkOs_len]; omega), List.getElem?_eq_none_iff.mpr (by rw [mkOs_len]; omega)]
      have small : (intL (kids (dps l) i (rowAt l.length k))).length < sizeLine := by
        rw [intL, List.length_map, kids_len]
        have := cnt_le (dps l) i (rowAt l.length k)
        omega
      walk_at "dw"
      refine d_slL rfl rfl fun a4 => ?_
      have ecut : cutD (intL (pa (dps l) i)) none (some (((dps l).getD i 0 : Nat) : Int)) = intL ((pa (dps l) i).take ((dps l).getD i 0)) := by
        rw [cutD_to _ (by rw [intL, List.length_map]; exact room), intL, intL, List.map_take]
      rw [ecut]
      walk_at "dw"
      have e2 : intL (pa (dps l) (i + 1)) = intL ((pa (dps l) i).take ((dps l).getD i 0)) ++ [.int (i : Nat)] := by
        simp only [intL, pa, List.map_append, List.map_cons, List.map_nil]
      have l2 : (intL ((pa (dps l) i).take ((dps l).getD i 0))).length < sizeLine := by
        rw [intL, List.length_map, lt]
        omega
      have go : ∀ (s6 : Sl) (PP : PD), (∀ s3 s4 s5 s6, PP.nx [.fz (.tup (docL l)), .ow (.nl p (mkOs as fun k => intL (kids (dps l) (i + 1) (rowAt l.length k)))), .ow (.fl a4 (intL (pa (dps l) (i + 1)))), s3, s4, s5, s6]) →
          DO c (rIx K) (.bw 1) (.fz (.int (k : Nat))) [.fz (.tup (docL l)), .ow (.nl p (mkOs as fun k => intL (kids (dps l) i (rowAt l.length k)))), .ow (.fl a4 (intL ((pa (dps l) i).take ((dps l).getD i 0)))), .fz (.int (i : Nat)), .fz (.str m), .fz (.int ((dps l).getD i 0 : Nat)), s6]
          (fun x δ1 => DG c (gName 6) x δ1 fun δ => DS c (tSeq (tDrop (tBM K "list" rAppend (tVar 6) (tCons (tVar 3) tNil))) (tDrop (tBM K "list" rAppend (tVar 2) (tCons (tVar 3) tNil)))) δ PP) := by
        intro s6 PP hPP
        refine d_ixN (os := mkOs as fun k => intL (kids (dps l) i (rowAt l.length k))) (o := .fl (as.getD k 0) (intL (kids (dps l) i (rowAt l.length k)))) rfl rfl rfl ?_ rfl ?_
        · unfold atI ixN
          rw [if_pos (by omega), mkOs_len, if_pos (by omega)]
          show (mkOs as _)[((k : Nat) : Int).toNat]? = _
          rw [Int.toNat_natCast, mkOs_get hka]
        walk_at "dw"
        refine d_bmR (i := 1) rfl (mkOs_get hka) ?_
        walk_at "dw"
        refine d_appendN (i := 1) (j := k) rfl rfl rfl (mkOs_get hka) small ?_
        rw [step]
        walk_at "dw"
        refine d_append (i := 2) rfl rfl rfl l2 ?_
        rw [← e2]
        exact hPP _ _ _ _
      refine i_dec (fun z2 => ?_) (fun z2 => ?_)
      · have ep : par (dps l) i = none := by
          unfold par
          rw [if_pos (by omega)]
        rcases hidx with ⟨_, ek⟩ | e
        · subst ek
          walk_at "dw"
          rw [docL_len]
          refine go s6 _ ?_
          exact fun s3 s4 s5 s6 => ⟨a4, s3, s4, s5, s6, rfl⟩
        · rw [ep] at e; cases e
      · have hlt : (dps l).getD i 0 - 1 < (pa (dps l) i).length := by omega
        have ep : par (dps l) i = some ((pa (dps l) i).getD ((dps l).getD i 0 - 1) 0) := par_get (by omega) hlt
        rcases hidx with ⟨e, _⟩ | e
        · rw [ep] at e; cases e
        · rw [ep] at e
          have ek := Option.some.inj e
          walk_at "dw"
          refine d_ix (i := -1) (d := .int (k : Nat)) rfl rfl ?_ ?_
          · have hl2 : (intL ((pa (dps l) i).take ((dps l).getD i 0))).length = (dps l).getD i 0 := by rw [intL, List.length_map, lt]
            unfold atI ixN
            rw [hl2, if_neg (by decide), if_pos (by omega)]
            show (intL ((pa (dps l) i).take ((dps l).getD i 0)))[((-1 : Int) + ((dps l).getD i 0 : Nat)).toNat]? = _
            rw [show ((-1 : Int) + ((dps l).getD i 0 : Nat)).toNat = (dps l).getD i 0 - 1 by omega, ← ek]
            exact intT (by omega) hlt
          refine go s6 _ ?_
          exact fun s3 s4 s5 s6 => ⟨a4, s3, s4, s5, s6, rfl⟩
    · rintro δ ⟨a3, s3, s4, s5, s6, rfl⟩
      rw [docL_len]
      refine d_retN2 (os := mkOs as fun k => intL (kids (dps l) l.length (rowAt l.length k))) rfl hM (.inl rfl) ?_
      refine ⟨p, ?_⟩
      rw [mkOs_data, ha', ← chL_is hf]
      rfl
theorem cd_children (T : Txt K mg) : Cal P w K mg base 1 "_law_children" (toSp (gb P w K) (spO K soChildren)) := T.d__law_children.cal sc__law_children (len_spO fun ds out ⟨_, h, _⟩ => by rw [h]; rfl) (bd_children T)
end

end K67

set_option maxHeartbeats 4000000
namespace K67
open PySem PySem.Spec PyProof.Rows L2 KB KM
open KD hiding Dp
section
open KW
variable {P : Program} {w : World} {K : PySem.W.Frag} {mg : Str → Option Value} {base : Heap}
/-! ### mixed, a row, the end -/
def soMixed (ds : List D) (k : Nat) (T : KD.R → Prop) : Prop := ∃ els : List D, ds = [.lst els] ∧ els.length ≤ 1000 ∧ k = els.length ∧ T = fun r => ∃ a ys, r = .nw (.fl a ys) ∧ ys.Perm els
abbrev s__law_mixed : Stmt := (top 47)
theorem sc__law_mixed : FnScope ["feed", "things", "pool", "got", "turn"] ["feed", "things"] (defScope s__law_mixed) := ⟨rfl, rfl, rfl, by decide +kernel, rfl, by decide +kernel, by decide +kernel⟩
theorem bd_mixed (T : Txt K mg) (C__law_draw : Cal P w K mg base 1 "_law_draw" (toSp (gb P w K) (spFd soDraw))) : Body P w K mg base (1) ["feed", "things", "pool", "got", "turn"] "_law_mixed" (defScope s__law_mixed) (defBody s__law_mixed) (toSp (gb P w K) (spFd soMixed)) := by
  intro f cdv A outer s H vs Q E hr h
  have hu := hu_of hr
  have tk : Takes (cxOf (L2.CX P w) P w K mg base ["feed", "things", "pool", "got", "turn"] "_law_mixed" (defScope s__law_mixed) f cdv A outer s H E) (WF E) := takes_of rfl rfl rfl rfl
  refine ⟨_, (pss_cons (ps_x (ps_par (i := 2) (j := 3) (by rfl) sc__law_mixed.nd rfl rfl (by decide) rfl rfl (pa_cons (pe_callTy call_listD (by rfl) T.g_list (by decide +kernel) (pa_cons (pv 1) pa_nil)) (pa_cons (pe_lst pa_nil) pa_nil)) (by rfl)))
    (pss_cons (ps_for (passes_of rfl) rfl (pi_range1 rfl T.g_range (pa_cons (pe_callB call_lenK (by rfl) T.g_len (by decide +kernel) (pa_cons (pv 1) pa_nil)) pa_nil)) (pg_name (i := 4) sc__law_mixed.nd rfl (Or.inl rfl)) (pss_one (ps_expr (pe_bm PySem.F.plainAttrs_list PySem.F.slot_list_append PySem.F.type_list_append mt_append (pv 3) (pa_cons (pe_bm PySem.F.plainAttrs_list PySem.F.slot_list_pop PySem.F.type_list_pop mt_popAt (pv 2) (pa_cons (pe_cal C__law_draw hr (by omega) tk (pa_cons (pv 0) (pa_cons (pe_callB call_lenK (by rfl) T.g_len (by decide +kernel) (pa_cons (pv 2) pa_nil)) pa_nil))) pa_nil)) pa_nil)))))
    (pss_one (ps_ret (pv 3))))), ?_⟩
  try dsimp only [cxOf]
  refine d_startF h fun fd xs n ds k T' hF hn hS c hx hM => ?_
  obtain ⟨els, rfl, hl, rfl, rfl⟩ := hS
  refine d_st (δ' := [.ow (.fl fd xs), .fz (.lst els), .no, .no, .no]) (by rfl) ?_
  have hz : (100000 : Nat) < sizeLine := by decide
  walk_at "dw"
  intro a1
  walk_at "dw"
  intro c1 up1
  walk_at "dw"
  intro a2
  walk_at "dw"
  intro c2 up2
  walk_at "dw"
  refine ⟨_, _, _, _, rfl, .ow, .ow, ?_⟩
  walk_at "dw"
  refine d_for ?_
  walk_at "dw"
  refine ⟨_, rfl, by omega, by omega, ?_⟩
  refine ⟨fun i δ => ∃ ys pool got s4, δ = [.ow (.fl fd ys), .fz (.lst els), .ow (.fl a1 pool), .ow (.fl a2 got), s4] ∧ FdD (n + i) ys ∧ pool.length + i = els.length ∧ (got ++ pool).Perm els,
    ⟨xs, els, [], _, rfl, hF, rfl, List.Perm.refl _⟩, fun _ _ _ => trivial, ?_, ?_⟩
  · rintro i δ hi ⟨ys, pool, got, s4, rfl, hy, hlen, hperm⟩
    rw [Int.toNat_natCast] at hi
    have gl : got.length ≤ els.length := by have := hperm.length_eq; rw [List.length_append] at this; omega
    walk_at "dw"
    refine d_callF hx ?_
    walk_at "dw"
    refine ⟨0, _, fd, ys, _, _, 1, _, rfl, rfl, rfl, hy, by omega, ⟨_, rfl, by omega, by omega, rfl, rfl⟩, ?_⟩
    rintro r ys2 hy2 ⟨j, hj, rfl⟩
    have hj' : j < pool.length := by omega
    walk_at "dw"
    refine d_popAt (i := 2) (j := j) rfl rfl rfl (by omega) (by omega) ?_ (getD_at (d := .non) hj') ?_
    · rw [seqIndex_of (by omega) (by omega), Int.toNat_natCast]
    walk_at "dw"
    refine d_append (i := 3) rfl rfl rfl (by omega) ?_
    refine ⟨ys2, _, _, _, rfl, hy2, by rw [List.length_eraseIdx, if_pos hj']; omega, ?_⟩
    refine List.Perm.trans ?_ hperm
    rw [List.append_assoc]
    refine List.Perm.append_left _ ?_
    have e : pool.Perm (pool.getD j .non :: pool.eraseIdx j) := by
      have e1 : pool = pool.take j ++ pool.getD j .non :: pool.drop (j + 1) := by
        rw [List.getD_eq_getElem?_getD, List.getElem?_eq_getElem hj', Option.getD_some]
        simp
      rw [List.eraseIdx_eq_take_drop_succ]
      exact (List.Perm.of_eq e1).trans List.perm_middle
    exact e.symm
  · rintro δ ⟨ys, pool, got, s4, rfl, hy, hlen, hperm⟩
    rw [Int.toNat_natCast] at hy hlen
    have : pool = [] := List.eq_nil_of_length_eq_zero (by omega)
    subst this
    rw [List.append_nil] at hperm
    refine d_retO (i := 3) (o := .fl a2 got) rfl hM (.inr ⟨0, .fl fd ys, by decide, rfl, rfl⟩) ?_
    exact ⟨rfl, ys, rfl, hy, _, _, rfl, hperm⟩
theorem cd_mixed (T : Txt K mg) : Cal P w K mg base 2 "_law_mixed" (toSp (gb P w K) (spFd soMixed)) := T.d__law_mixed.cal sc__law_mixed (len_spFd fun ds k T ⟨_, h, _⟩ => by rw [h]; rfl) (bd_mixed T (cd_draw T))
def soLawRow (ds : List D) (k : Nat) (T : KD.R → Prop) : Prop := ∃ many states : Nat, ds = [.int many, .int states] ∧ many ≤ 1000 ∧ 0 < states ∧ states ≤ 1000 ∧ k = many ∧ T = fun r => ∃ row : List Int, r = .fz (rowD row) ∧ row.length = many ∧ ∀ x ∈ row, 0 ≤ x ∧ x < states
abbrev s__law_row : Stmt := (top 50)
theorem sc__law_row : FnScope ["feed", "many", "states", "turn"] ["feed", "many", "states"] (defScope s__law_row) := ⟨rfl, rfl, rfl, by decide +kernel, rfl, by decide +kernel, by decide +kernel⟩
theorem bd_lawrow (T : Txt K mg) (C__law_draw : Cal P w K mg base 1 "_law_draw" (toSp (gb P w K) (spFd soDraw))) : Body P w K mg base (1) ["feed", "many", "states", "turn"] "_law_row" (defScope s__law_row) (defBody s__law_row) (toSp (gb P w K) (spFd soLawRow)) := by
  intro f cdv A outer s H vs Q E hr h
  have hu := hu_of hr
  have tk : Takes (cxOf (L2.CX P w) P w K mg base ["feed", "many", "states", "turn"] "_law_row" (defScope s__law_row) f cdv A outer s H E) (WF E) := takes_of rfl rfl rfl rfl
  refine ⟨_, (pss_one (ps_ret (pe_callTy call_tupD (by rfl) T.g_tuple (by decide +kernel) (pa_cons (pe_lc (own := [("turn", 3)]) (g := (gName 3)) (by rfl) sc__law_row.nd  (pi_range1 rfl T.g_range (pa_cons (pv 1) pa_nil)) (blkOk_by (own := [("turn", 3)]) (N := ["feed", "many", "states", "turn"]) (sc := defScope s__law_row) (by decide +kernel)) (fun _ _ _ _ _ => (pg_name (i := 3) sc__law_row.nd rfl (Or.inl rfl))) (fun _ _ _ _ _ => pts_nil) (fun _ _ _ _ _ => (pe_cal C__law_draw hr (by omega) takesN (pa_cons (pv 0) (pa_cons (pv 2) pa_nil))))) pa_nil)))), ?_⟩
  try dsimp only [cxOf]
  refine d_startF h fun fd xs n ds k T' hF hn hS c hx hM => ?_
  obtain ⟨many, states, rfl, hm, hs0, hs, rfl, rfl⟩ := hS
  refine d_st (δ' := [.ow (.fl fd xs), .fz (.int k), .fz (.int states), .no]) (by rfl) ?_
  have hz : (100000 : Nat) < sizeLine := by decide
  walk_at "dw"
  refine d_lc (only_name (by decide)) ?_
  walk_at "dw"
  refine ⟨_, rfl, by omega, by omega, by omega, ?_⟩
  refine ⟨fun i acc δ => ∃ (ys : List D) (row : List Int), δ = [.ow (.fl fd ys), .fz (.int k), .fz (.int states), .no] ∧ FdD (n + i) ys ∧ acc = row.map D.int ∧ row.length = i ∧ ∀ x ∈ row, 0 ≤ x ∧ x < states, ⟨xs, [], rfl, hF, rfl, rfl, fun x hx => nomatch hx⟩, ?_, ?_, ?_⟩
  · rintro i acc δ ⟨ys, row, rfl, _⟩
    exact ⟨trivial, rfl⟩
  · rintro c' i acc δ hi ⟨ys, row, rfl, hy, rfl, hr, hb⟩
    rw [Int.toNat_natCast] at hi
    walk_at "dw"
    refine d_callF (ok0 c') ?_
    walk_at "dw"
    refine ⟨0, _, fd, ys, _, _, 1, _, rfl, rfl, rfl, hy, by omega, ⟨_, rfl, by omega, by omega, rfl, rfl⟩, ?_⟩
    rintro r ys2 hy2 ⟨j, hj, rfl⟩
    refine ⟨_, rfl, ys2, row ++ [(j : Int)], rfl, hy2, by rw [List.map_append]; rfl, by rw [List.length_append, hr]; rfl, fun x hx => ?_⟩
    rcases List.mem_append.mp hx with z | z
    · exact hb x z
    · rw [List.mem_singleton.mp z]; omega
  · rintro p acc δ' ⟨ys, row, rfl, hy, rfl, hr, hb⟩
    rw [Int.toNat_natCast] at hy hr
    walk_at "dw"
    exact ⟨rfl, ys, rfl, hy, row, rfl, hr, hb⟩
theorem cd_lawrow (T : Txt K mg) : Cal P w K mg base 2 "_law_row" (toSp (gb P w K) (spFd soLawRow)) := T.d__law_row.cal sc__law_row (len_spFd fun ds k T ⟨_, _, h, _⟩ => by rw [h]; rfl) (bd_lawrow T (cd_draw T))
abbrev s__law_end : Stmt := (top 52)
theorem sc__law_end : FnScope ["document", "node", "end"] ["document", "node"] (defScope s__law_end) := ⟨rfl, rfl, rfl, by decide +kernel, rfl, by decide +kernel, by decide +kernel⟩
theorem bd_law_end (T : Txt K mg) : Body P w K mg base (0) ["document", "node", "end"] "_law_end" (defScope s__law_end) (defBody s__law_end) (toSp (gb P w K) (spO K soEnd)) := by
  intro f cdv A outer s H vs Q E hr h
  have hu := hu_of hr
  have tk : Takes (cxOf (L2.CX P w) P w K mg base ["document", "node", "end"] "_law_end" (defScope s__law_end) f cdv A outer s H E) (WF E) := takes_of rfl rfl rfl rfl
  refine ⟨_, (pss_cons (ps_set (i := 2) sc__law_end.nd rfl (Or.inl rfl) (pe_op op_add (pv 1) pe_int))
    (pss_cons (ps_while (passes_of rfl) (PW.pt (pw_and (pt_cmpR op_lt (pv 2) (pe_callB call_lenK (by rfl) T.g_len (by decide +kernel) (pa_cons (pv 0) pa_nil)) (nomark _)) (pw_and1 (pt_cmpR op_gt (pe_ix ix_seq (pe_ix ix_seq (pv 0) (pv 2) (fun _ _ => rfl)) pe_int (fun _ _ => rfl)) (pe_ix ix_seq (pe_ix ix_seq (pv 0) (pv 1) (fun _ _ => rfl)) pe_int (fun _ _ => rfl)) (nomark _))))) (pss_one (ps_set (i := 2) sc__law_end.nd rfl (Or.inl rfl) (pe_op op_add (pv 2) pe_int))))
    (pss_one (ps_ret (pv 2))))), ?_⟩
  try dsimp only [cxOf]
  refine d_startO h fun ds out hS c hx hM => ?_
  obtain ⟨l, nd, e, rfl, hnd, hl, he, rfl⟩ := hS
  have hi := he.hi
  rw [fo_len] at hi
  have hz : (100000 : Nat) < sizeLine := by decide
  refine d_st (δ' := [.fz (.tup (docL l)), .fz (.int nd), .no]) (by rfl) ?_
  walk_at "dw"
  rw [show ((nd : Nat) : Int) + 1 = ((nd + 1 : Nat) : Int) by omega]
  refine d_while (fun n δ => ∃ k, n = l.length - k ∧ nd < k ∧ k ≤ e ∧ δ = [.fz (.tup (docL l)), .fz (.int nd), .fz (.int k)]) _ ⟨nd + 1, rfl, by omega, he.lo, rfl⟩ ?_
  rintro n δ ⟨k, rfl, h1, h2, rfl⟩
  walk_at "dw"
  rw [docL_len]
  refine i_dec (fun z => ?_) (fun z => ?_)
  · have hk : k < l.length := by omega
    walk_at "dw"
    refine d_ix (i := (k : Nat)) rfl rfl (docL_at hk) ?_
    walk_at "dw"
    refine d_ix (i := 1) (d := .int ((dps l).getD k 0 : Nat)) rfl rfl rfl ?_
    walk_at "dw"
    refine d_ix (i := (nd : Nat)) rfl rfl (docL_at hnd) ?_
    walk_at "dw"
    refine d_ix (i := 1) (d := .int ((dps l).getD nd 0 : Nat)) rfl rfl rfl ?_
    walk_at "dw"
    refine i_dec (fun z2 => ?_) (fun z2 => ?_)
    · walk_at "dw"
      refine ⟨l.length - (k + 1), by omega, k + 1, rfl, by omega, ?_, ?_⟩
      · by_cases q : k = e
        · subst q
          have := he.stop (by rw [fo_len]; exact hk)
          omega
        · omega
      · rw [show ((k : Nat) : Int) + 1 = ((k + 1 : Nat) : Int) by omega]
        rfl
    · walk_at "dw"
      have q : k = e := by
        by_cases q : k = e
        · exact q
        · have := he.all k h1 (by omega)
          omega
      rw [q]
      rfl
  · have q : k = e := by omega
    walk_at "dw"
    rw [q]
    rfl
theorem cd_law_end (T : Txt K mg) : Cal P w K mg base 1 "_law_end" (toSp (gb P w K) (spO K soEnd)) := T.d__law_end.cal sc__law_end (len_spO fun ds out ⟨_, _, _, h, _⟩ => by rw [h]; rfl) (bd_law_end T)
theorem op_catAK {X : Cx} {K : PySem.W.Frag} (h : X.K = K) : OpR X (binaryOp .Add) (rCatA K) := h ▸ op_catA
theorem call_tupDK {X : Cx} {K : PySem.W.Frag} (h : X.K = K) : CallR X (.type "tuple") (rTupOf K) := h ▸ call_tupD
end

end K67

set_option maxHeartbeats 4000000
namespace K67
open PySem PySem.Spec PyProof.Rows L2 KB KM
open KD hiding Dp
section
open KW
variable {P : Program} {w : World} {K : PySem.W.Frag} {mg : Str → Option Value} {base : Heap}
/-! ### layings -/
def layD (p : List (Option Nat)) : D := .tup (p.map oN)
def soLayings (ds : List D) (out : Out) : Prop := ∃ (X : List Nat) (m : Nat), ds = [.lst (intL X), .int m] ∧ m ≤ 5 ∧ (X.length + 1) ^ m ≤ 1000000 ∧ X.length ≤ 100000 ∧ out = .ret (.lst ((lays X m).map layD))
abbrev s__law_layings : Stmt := (top 53)
theorem sc__law_layings : FnScope ["nodes", "many", "got", "name", "more", "places", "node"] ["nodes", "many"] (defScope s__law_layings) := ⟨rfl, rfl, rfl, by decide +kernel, rfl, by decide +kernel, by decide +kernel⟩
theorem bd_layings (T : Txt K mg) : Body P w K mg base (0) ["nodes", "many", "got", "name", "more", "places", "node"] "_law_layings" (defScope s__law_layings) (defBody s__law_layings) (toSp (gb P w K) (spO K soLayings)) := by
  intro f cdv A outer s H vs Q E hr h
  have hu := hu_of hr
  have tk : Takes (cxOf (L2.CX P w) P w K mg base ["nodes", "many", "got", "name", "more", "places", "node"] "_law_layings" (defScope s__law_layings) f cdv A outer s H E) (WF E) := takes_of rfl rfl rfl rfl
  refine ⟨_, (pss_cons (ps_set (i := 2) sc__law_layings.nd rfl (Or.inl rfl) (pe_lst (pa_cons (pe_tup pa_nil) pa_nil)))
    (pss_cons (ps_for (passes_of rfl) rfl (pi_range1 rfl T.g_range (pa_cons (pv 1) pa_nil)) (pg_name (i := 3) sc__law_layings.nd rfl (Or.inl rfl)) (pss_cons (ps_setO (i := 4) sc__law_layings.nd rfl (Or.inl rfl) (pe_lst pa_nil))
    (pss_cons (ps_for (passes_of rfl) rfl (pi_list (pv 2)) (pg_name (i := 5) sc__law_layings.nd rfl (Or.inr rfl)) (pss_one (ps_expr (pe_bm PySem.F.plainAttrs_list PySem.F.slot_list_extend PySem.F.type_list_extend mt_extend (pv 4) (pa_cons (pe_lc (own := [("node", 6)]) (g := (gName 6)) (by rfl) sc__law_layings.nd  (pi_list (pe_op op_cat (pv 0) (pe_lst (pa_cons pe_non pa_nil)))) (blkOk_by (own := [("node", 6)]) (N := ["nodes", "many", "got", "name", "more", "places", "node"]) (sc := defScope s__law_layings) (by decide +kernel)) (fun _ _ _ _ _ => (pg_name (i := 6) sc__law_layings.nd rfl (Or.inl rfl))) (fun _ _ _ _ _ => pts_nil) (fun _ _ _ _ _ => (pe_op (op_catAK (K := K) rfl) (pv 5) (pe_tup (pa_cons (pv 6) pa_nil))))) pa_nil)))))
    (pss_one (ps_set (i := 2) sc__law_layings.nd rfl (Or.inl rfl) (pv 4))))))
    (pss_one (ps_ret (pv 2))))), ?_⟩
  try dsimp only [cxOf]
  refine d_startO h fun ds out hS c hx hM => ?_
  obtain ⟨X, m, rfl, hm, hb, hX, rfl⟩ := hS
  have hz : (1000000 : Nat) < sizeLine := by decide
  refine d_st (δ' := [.fz (.lst (intL X)), .fz (.int m), .no, .no, .no, .no, .no]) (by rfl) ?_
  walk_at "dw"
  intro a1
  walk_at "dw"
  refine d_for ?_
  walk_at "dw"
  refine ⟨_, rfl, by omega, by omega, ?_⟩
  refine ⟨fun i δ => ∃ s3 s4 s5, δ = [.fz (.lst (intL X)), .fz (.int m), .fz (.lst ((lays X i).map layD)), s3, s4, s5, .no], ⟨_, _, _, rfl⟩, fun _ _ _ => trivial, ?_, ?_⟩
  · rintro i δ hi ⟨s3, s4, s5, rfl⟩
    rw [Int.toNat_natCast] at hi
    have hle : (lays X (i + 1)).length ≤ 1000000 := by
      rw [lays_len]
      exact Nat.le_trans (Nat.pow_le_pow_right (by omega) hi) hb
    have hXY : ((X.map some ++ [none]).map oN) = intL X ++ [.non] := by
      rw [List.map_append, List.map_map]; rfl
    walk_at "dw"
    intro a2
    walk_at "dw"
    refine d_for ?_
    walk_at "dw"
    refine ⟨fun j δ => ∃ s3 s5, δ = [.fz (.lst (intL X)), .fz (.int m), .fz (.lst ((lays X i).map layD)), s3, .ow (.fl a2 ((((lays X i).take j).flatMap fun p => (X.map some ++ [none]).map fun x => p ++ [x]).map layD)), s5, .no], ⟨_, _, rfl⟩, fun _ _ _ => trivial, ?_, ?_⟩
    · rintro j δ hj ⟨s3, s5, rfl⟩
      rw [List.length_map] at hj
      have ep : ((lays X i).map layD).getD j .non = layD ((lays X i).getD j []) := by
        rw [List.getD_eq_getElem?_getD, List.getElem?_map, getD_at (d := []) hj]; rfl
      have eg : (lays X i)[j]? = some ((lays X i).getD j []) := getD_at hj
      have hp := (lays_mem (List.mem_of_getElem? eg)).1
      have esn : ((lays X i).take (j + 1)).flatMap (fun p => (X.map some ++ [none]).map fun x => p ++ [x]) = ((lays X i).take j).flatMap (fun p => (X.map some ++ [none]).map fun x => p ++ [x]) ++ (X.map some ++ [none]).map fun x => (lays X i).getD j [] ++ [x] := by
        rw [take_snoc eg, List.flatMap_append]
        simp
      have lle : (((lays X i).take (j + 1)).flatMap (fun p => (X.map some ++ [none]).map fun x => p ++ [x])).length ≤ (lays X (i + 1)).length := by
        have : lays X (i + 1) = ((lays X i).take (j + 1)).flatMap (fun p => (X.map some ++ [none]).map fun x => p ++ [x]) ++ ((lays X i).drop (j + 1)).flatMap (fun p => (X.map some ++ [none]).map fun x => p ++ [x]) := by
          rw [lays, ← List.flatMap_append, List.take_append_drop]
        rw [this, List.length_append]
        omega
      dsimp only
      rw [ep]
      generalize (lays X i).getD j [] = p at hp esn
      walk_at "dw"
      refine d_lcP (only_name (by decide)) ?_
      walk_at "dw"
      intro a3
      walk_at "dw"
      refine d_cat (ds := intL X) (es := [.non]) rfl rfl ?_ fun a4 => ?_
      · rw [intL, List.length_map]; simp; omega
      walk_at "dw"
      rw [← hXY]
      refine ⟨by rw [List.length_map, List.length_append, List.length_map]; simp; omega, trivial, rfl, fun k => layD (p ++ [(X.map some ++ [none]).getD k none]), fun c2 k hk => ?_, fun a5 => ?_⟩
      · rw [List.length_map] at hk
        have e3 : ((X.map some ++ [none]).map oN).getD k .non = oN ((X.map some ++ [none]).getD k none) := by
          rw [List.getD_eq_getElem?_getD, List.getElem?_map, getD_at (d := none) hk]; rfl
        dsimp only
        rw [e3]
        generalize (X.map some ++ [none]).getD k none = x
        unfold layD
        walk_at "dw"
        refine d_catA (ds := p.map oN) (es := [oN x]) rfl rfl rfl ?_ ?_
        · rw [List.length_map, hp]; simp; omega
        refine ⟨?_, rfl⟩
        rw [List.map_append]
        rfl
      · rw [List.length_map, range_getD (X.map some ++ [none]) none fun x => layD (p ++ [x])]
        have e4 : ((X.map some ++ [none]).map fun x => layD (p ++ [x])) = ((X.map some ++ [none]).map fun x => p ++ [x]).map layD := by rw [List.map_map]; rfl
        rw [e4]
        walk_at "dw"
        refine d_extend (i := 4) rfl rfl rfl ?_ ?_
        · rw [← List.length_append, ← List.map_append, ← esn, List.length_map]; omega
        rw [← List.map_append, ← esn]
        exact ⟨_, _, rfl⟩
    · rintro δ ⟨s3, s5, rfl⟩
      rw [List.length_map, List.take_length]
      refine d_frzS (j := 4) rfl hM ?_
      walk_at "dw"
      exact ⟨_, _, _, rfl⟩
  · rintro δ ⟨s3, s4, s5, rfl⟩
    rw [Int.toNat_natCast]
    walk_at "dw"
    rfl
theorem cd_layings (T : Txt K mg) : Cal P w K mg base 1 "_law_layings" (toSp (gb P w K) (spO K soLayings)) := T.d__law_layings.cal sc__law_layings (len_spO fun ds out ⟨_, _, h, _⟩ => by rw [h]; rfl) (bd_layings T)
/-- the lays as a dict -/
def LaidIs (m : List (Key × D)) (ly : Nat → Nat) : Prop := ∀ v : Nat, (valD m (.inl (v : Int))).getD (.int 0) = .int (ly v)
def soLaid (ds : List D) (T : KD.R → Prop) : Prop := ∃ p : List (Option Nat), ds = [layD p] ∧ p.length ≤ 5 ∧ T = fun r => ∃ m, r = .fz (.tup [.dk m, .int (mask p)]) ∧ LaidIs m (lay p)
abbrev s__law_laid : Stmt := (top 54)
theorem sc__law_laid : FnScope ["places", "laid", "total", "name", "node"] ["places"] (defScope s__law_laid) := ⟨rfl, rfl, rfl, by decide +kernel, rfl, by decide +kernel, by decide +kernel⟩
theorem bd_laid (T : Txt K mg) : Body P w K mg base (0) ["places", "laid", "total", "name", "node"] "_law_laid" (defScope s__law_laid) (defBody s__law_laid) (toSp (gb P w K) (spN soLaid)) := by
  intro f cdv A outer s H vs Q E hr h
  have hu := hu_of hr
  have tk : Takes (cxOf (L2.CX P w) P w K mg base ["places", "laid", "total", "name", "node"] "_law_laid" (defScope s__law_laid) f cdv A outer s H E) (WF E) := takes_of rfl rfl rfl rfl
  refine ⟨_, (pss_cons (ps_x (ps_par (i := 1) (j := 2) (by rfl) sc__law_laid.nd rfl rfl (by decide) rfl rfl (pa_cons pe_dnewK (pa_cons pe_int pa_nil)) (by rfl)))
    (pss_cons (ps_for (passes_of rfl) rfl (pi_enumT (by rfl) T.g_enumerate (pa_cons (pv 0) pa_nil)) (pg_tup (n := 2) (by rfl) (pgs_cons (pg_name (i := 3) sc__law_laid.nd rfl (Or.inl rfl)) (pgs_cons (pg_name (i := 4) sc__law_laid.nd rfl (Or.inl rfl)) pgs_nil))) (pss_one (ps_if (pt_cmpR op_notN1 (pv 4) pe_non (nomark _)) (pss_cons (ps_dput hu (pv 1) (pv 4) (pe_op op_add (pe_dget2 hu (pv 1) (pv 4) pe_int ⟨by rfl, by rfl, by rfl, by rfl⟩) (pe_op op_shl pe_int (pv 3))) rfl)
    (pss_one (ps_set (i := 2) sc__law_laid.nd rfl (Or.inl rfl) (pe_op op_add (pv 2) (pe_op op_shl pe_int (pv 3)))))) pss_nil)))
    (pss_one (ps_ret (pe_tup (pa_cons (pv 1) (pa_cons (pv 2) pa_nil))))))), ?_⟩
  try dsimp only [cxOf]
  refine d_startN h fun ds T' hS c hx hM => ?_
  obtain ⟨p, rfl, hp, rfl⟩ := hS
  have hz : (1000000 : Nat) < sizeLine := by decide
  refine d_st (δ' := [.fz (layD p), .no, .no, .no, .no]) (by rfl) ?_
  walk_at "dw"
  refine d_dnewK (fun σ H Q h => h) fun a1 => ?_
  walk_at "dw"
  intro c1 up1
  walk_at "dw"
  refine ⟨_, _, _, _, rfl, .ow, .fz, ?_⟩
  walk_at "dw"
  refine d_for ?_
  refine d_iEnumT rfl ?_
  walk_at "dw"
  refine ⟨_, rfl, ?_⟩
  refine ⟨fun i δ => ∃ m s3 s4, m.length ≤ i ∧ LaidIs m (lay (p.take i)) ∧ δ = [.fz (layD p), .ow (.dk a1 m), .fz (.int (mask (p.take i))), s3, s4], ⟨[], _, _, Nat.le_refl _, fun v => rfl, rfl⟩, fun _ _ _ => trivial, ?_, ?_⟩
  · rintro i δ hi ⟨m, s3, s4, hm, hL, rfl⟩
    rw [List.length_map] at hi
    have ei : p[i]? = some (p.getD i none) := getD_at hi
    have ex : (p.map oN).getD i .non = oN (p.getD i none) := by
      rw [List.getD_eq_getElem?_getD, List.getElem?_map, ei]; rfl
    have lt : (p.take i).length = i := by rw [List.length_take]; omega
    dsimp only
    rw [ex]
    generalize p.getD i none = x at ei
    have e1 : mask (p.take (i + 1)) = mask (p.take i) + if x.isSome = true then 2 ^ i else 0 := by rw [take_snoc ei, mask_snoc, lt]
    have e2 : ∀ v, lay (p.take (i + 1)) v = lay (p.take i) v + if (x == some v) = true then 2 ^ i else 0 := fun v => by rw [take_snoc ei]; unfold lay; rw [bs_snoc, lt]
    cases x with
    | none =>
      walk_at "dw"
      refine ⟨m, .fz (.int (i : Nat)), .fz .non, by omega, fun v => ?_, ?_⟩
      · rw [hL v, e2]; simp
      · rw [e1]; rfl
    | some u =>
      walk_at "dw"
      refine ⟨⟨_, rfl⟩, ?_⟩
      walk_at "dw"
      refine ⟨m, .int (u : Nat), .inl (u : Int), .int 0, rfl, rfl, rfl, rfl, ?_⟩
      rw [hL u]
      walk_at "dw"
      refine d_rI (i := 1) (j := (i : Nat)) rfl rfl rfl ?_ ?_
      · unfold CPow; omega
      rw [Int.toNat_natCast, Int.one_mul]
      walk_at "dw"
      refine ⟨1, a1, m, .int (u : Nat), .inl (u : Int), _, rfl, rfl, rfl, rfl, rfl, by omega, ?_⟩
      walk_at "dw"
      refine d_rI (i := 1) (j := (i : Nat)) rfl rfl rfl ?_ ?_
      · unfold CPow; omega
      rw [Int.toNat_natCast, Int.one_mul]
      walk_at "dw"
      have pw : ((2 : Int) ^ i) = ((2 ^ i : Nat) : Int) := by norm_cast
      refine ⟨putD m (.inl (u : Int)) (.int (((lay (p.take i) u : Nat) : Int) + 2 ^ i)), .fz (.int (i : Nat)), .fz (.int (u : Nat)), Nat.le_trans (len_putD _ _ _) (by omega), fun v => ?_, ?_⟩
      · rw [valD_put]
        by_cases q : (Sum.inl (v : Int) : Key) = .inl (u : Int)
        · have : v = u := by have := Sum.inl.inj q; omega
          subst this
          rw [if_pos rfl, e2]
          simp only [Option.getD_some, beq_self_eq_true, if_true]
          congr 1
        · rw [if_neg q, hL v, e2]
          have : u ≠ v := fun z => q (by rw [z])
          simp [this]
      · rw [e1, pw]
        simp only [Option.isSome_some, if_true]
        rw [show (((mask (p.take i) : Nat) : Int) + ((2 ^ i : Nat) : Int)) = ((mask (p.take i) + 2 ^ i : Nat) : Int) by omega]
        rfl
  · rintro δ ⟨m, s3, s4, hm, hL, rfl⟩
    rw [List.length_map, List.take_length] at hL ⊢
    refine d_frzS (j := 1) rfl hM ?_
    walk_at "dw"
    exact ⟨rfl, m, rfl, hL⟩
theorem cd_laid (T : Txt K mg) : Cal P w K mg base 1 "_law_laid" (toSp (gb P w K) (spN soLaid)) := T.d__law_laid.cal sc__law_laid (len_spN fun ds T ⟨_, h, _⟩ => by rw [h]; rfl) (bd_laid T)
end

end K67

set_option maxHeartbeats 4000000
namespace K67
open PySem PySem.Spec PyProof.Rows L2 KB KM
open KD hiding Dp
section
open KW
variable {P : Program} {w : World} {K : PySem.W.Frag} {mg : Str → Option Value} {base : Heap}
/-! ### drawn machines -/
abbrev sg (ch : Nat) : Str := ⟨#[ch]⟩
theorem nameOk : ∀ ch ∈ List.range' 112 11, isName (.str (sg ch)) = true := by decide +kernel
theorem ltCps_sg (x c : Nat) : ltCps (sg x).cps.toList (sg c).cps.toList = decide (x < c) := by
  by_cases h : x < c
  · simp [ltCps, h]
  · simp [ltCps, h]
theorem rising_sg : ∀ (chs : List Nat) (c : Nat), risingS (sg c) (chs.map sg) = true → (c :: chs).Nodup → ∀ j, j < chs.length → (c :: chs).getD j 0 < (c :: chs).getD (j + 1) 0
  | [], _, _, _, j, h => by simp at h
  | x :: r, c, h, nd, j, hj => by
    simp only [List.map_cons, risingS, Bool.and_eq_true, Bool.not_eq_true'] at h
    rw [ltCps_sg, decide_eq_false_iff_not] at h
    cases j with
    | zero =>
      have : c ≠ x := fun e => by
        rw [List.nodup_cons] at nd
        exact nd.1 (by rw [e]; exact List.mem_cons_self)
      show c < x
      omega
    | succ j =>
      have := rising_sg r x h.2 (List.nodup_cons.mp nd).2 j (by simpa using hj)
      simpa using this
theorem sorted_sg {chs : List Nat} (h : sortedS (chs.map sg) = true) (nd : chs.Nodup) : ∀ j, j + 1 < chs.length → chs.getD j 0 < chs.getD (j + 1) 0 := by
  cases chs with
  | nil => intro j hj; simp at hj
  | cons c r => exact fun j hj => rising_sg r c h nd j (by simpa using hj)
theorem list_lt_one (a b : Nat) : ([a] < [b]) ↔ a < b := by
  constructor
  · intro h
    cases h with
    | rel h => exact h
    | cons h => cases h
  · exact fun h => .rel h
theorem rises_sg {chs : List Nat} (h : ∀ j, j + 1 < chs.length → chs.getD j 0 < chs.getD (j + 1) 0) : risesS (chs.map sg) = true := by
  unfold risesS
  rw [List.all_eq_true]
  intro j hj
  rw [List.mem_range, List.length_map] at hj
  have e : ∀ k, k < chs.length → (chs.map sg).getD k "" = sg (chs.getD k 0) := fun k hk => by
    rw [List.getD_eq_getElem?_getD, List.getElem?_map, getD_at (d := 0) hk]; rfl
  rw [decide_eq_true_eq, e j (by omega), e (j + 1) (by omega)]
  exact (list_lt_one _ _).mpr (h j (by omega))
theorem isRow_of {r : List Int} {n b : Nat} (h1 : r.length = n) (h2 : ∀ x ∈ r, 0 ≤ x ∧ x < b) : isRow (rowD r) (n : Nat) (b : Nat) = true := by
  simp only [rowD, isRow, List.length_map, Bool.and_eq_true, decide_eq_true_eq, List.all_eq_true]
  refine ⟨by omega, fun x hx => ?_⟩
  obtain ⟨y, hy, rfl⟩ := List.mem_map.mp hx
  have := h2 y hy
  simp [isBelow]
  omega
theorem ok_row (r : List Int) : ok (rowD r) = true := by
  simp only [rowD, ok]
  induction r with
  | nil => rfl
  | cons x r ih => simp only [List.map_cons, okL, ok, ih, Bool.and_self]
theorem okL_map {α : Type} (f : α → D) : ∀ l : List α, (∀ x ∈ l, ok (f x) = true) → okL (l.map f) = true
  | [], _ => rfl
  | x :: r, h => by
    simp only [List.map_cons, okL, Bool.and_eq_true]
    exact ⟨h x List.mem_cons_self, okL_map f r fun y hy => h y (List.mem_cons_of_mem _ hy)⟩
theorem md_of {chs : List Nat} {B S : List (List Int)} {tp : Int} {gd : List Int} {M : Nat} (hM : MOk S B M) (h1 : chs.length = M) (h2 : ∀ ch ∈ chs, 112 ≤ ch ∧ ch < 123) (h3 : ∀ j, j + 1 < chs.length → chs.getD j 0 < chs.getD (j + 1) 0)
    (h4 : 0 ≤ tp ∧ tp < S.length) (h5 : ∀ x ∈ gd, 0 ≤ x ∧ x < S.length) (h6 : gd.Pairwise (· < ·)) (h7 : gd.length ≤ 1000) : MD (chs.map sg) B tp S gd M := by
  have m5 := hM.hm
  have s1 := hM.s1
  have s2 := hM.s2
  have pw : (2 ^ M : Nat) ≤ 32 := Nat.le_trans (Nat.pow_le_pow_right (by decide) m5) (by decide)
  refine ⟨hM, by rw [List.length_map]; exact h1, ?_, ?_, ?_⟩
  · show isMachP (.tup ((chs.map sg).map D.str)) (.tup (B.map rowD)) (.int tp) (.tup (S.map rowD)) (rowD gd) = true
    unfold isMachP
    have a1 : isNames (.tup ((chs.map sg).map D.str)) 5 = true := by
      have e : ((chs.map sg).map D.str).map unS = chs.map sg := by rw [List.map_map]; exact List.map_id _
      simp only [isNames, e, rises_sg h3, Bool.and_true, Bool.and_eq_true, decide_eq_true_eq, List.length_map, List.all_eq_true]
      refine ⟨by omega, fun x hx => ?_⟩
      rw [List.map_map] at hx
      obtain ⟨ch, hc, rfl⟩ := List.mem_map.mp hx
      exact nameOk ch (List.mem_range'_1.mpr (h2 ch hc))
    have a2 : (S.map rowD).all (fun r => isRow r ((S.map rowD).length : Nat) ((S.map rowD).length : Nat)) = true := by
      rw [List.all_eq_true, List.length_map]
      intro x hx
      obtain ⟨r, hr, rfl⟩ := List.mem_map.mp hx
      exact isRow_of (hM.sr r hr).1 (hM.sr r hr).2
    have a3 : (B.map rowD).all (fun r => isRow r (2 ^ ((chs.map sg).map D.str).length) ((S.map rowD).length : Nat)) = true := by
      rw [List.all_eq_true, List.length_map, List.length_map, List.length_map, h1]
      intro x hx
      obtain ⟨r, hr, rfl⟩ := List.mem_map.mp hx
      have := isRow_of (n := 2 ^ M) (hM.br r hr).1 (hM.br r hr).2
      rw [show ((2 ^ M : Nat) : Int) = (2 : Int) ^ M by norm_cast] at this
      exact this
    have a4 : isBelow (.int tp) ((S.map rowD).length : Nat) = true := by
      rw [List.length_map]
      simp [isBelow]
      omega
    have a5 : isGood (rowD gd) ((S.map rowD).length : Nat) = true := by
      rw [List.length_map]
      simp only [rowD, isGood, Bool.and_eq_true, List.all_eq_true]
      refine ⟨fun x hx => ?_, ?_⟩
      · obtain ⟨y, hy, rfl⟩ := List.mem_map.mp hx
        have := h5 y hy
        simp [isBelow]
        omega
      · have e : (gd.map D.int).map unI = gd := by rw [List.map_map]; exact List.map_id _
        rw [e, risesI, List.all_eq_true]
        intro j hj
        rw [List.mem_range] at hj
        have j1 : j < gd.length := by omega
        have j2 : j + 1 < gd.length := by omega
        have := List.pairwise_iff_getElem.mp h6 j (j + 1) j1 j2 (by omega)
        rw [decide_eq_true_eq, List.getD_eq_getElem?_getD, List.getD_eq_getElem?_getD, List.getElem?_eq_getElem j1, List.getElem?_eq_getElem j2]
        exact this
    simp only [List.length_map] at a2 a3 a4 a5
    simp only [a1, a2, a3, a4, a5, Bool.true_and, Bool.and_true, List.length_map, Bool.and_eq_true, decide_eq_true_eq, hM.bl]
    refine ⟨⟨by omega, by omega⟩, by omega⟩
  · simp only [machD, ok, okL, Bool.and_true, Bool.and_eq_true]
    have hs : okL ((chs.map sg).map D.str) = true := by
      rw [List.map_map]
      exact okL_map _ _ fun ch _ => by show Nat.ble _ _ = true; exact Nat.ble_eq_true_of_le (by decide : 1 ≤ sizeLine)
    have hg := ok_row gd
    exact ⟨hs, okL_map _ _ fun r _ => ok_row r, trivial, okL_map _ _ fun r _ => ok_row r, hg⟩
  · have key : ∀ (T : List (List Int)) (n : Nat), T.length ≤ 1000000 → (∀ r ∈ T, r.length ≤ 1000000) → Sm (.tup (T.map rowD)) ∧ ∀ k, D.tup (T.map rowD) = .tup k → ∀ y ∈ k, Sm y := fun T n h1 h2 => by
      refine ⟨fun l e => ?_, fun k e y hy => ?_⟩
      · cases e; rw [List.length_map]; exact h1
      · cases e
        obtain ⟨r, hr, rfl⟩ := List.mem_map.mp hy
        intro l e
        cases e
        rw [List.length_map]; exact h2 r hr
    refine ⟨fun l e => by cases e; simp, fun l e x hx => ?_⟩
    cases e
    simp only [List.mem_cons, List.not_mem_nil, or_false] at hx
    rcases hx with rfl | rfl | rfl | rfl | rfl
    · refine ⟨fun l e => by cases e; rw [List.length_map, List.length_map]; omega, fun k e y hy => ?_⟩
      cases e
      obtain ⟨s, _, rfl⟩ := List.mem_map.mp hy
      intro l e; cases e
    · exact key B 0 (by rw [hM.bl]; decide) fun r hr => by rw [(hM.br r hr).1]; omega
    · exact ⟨fun l e => (by cases e), fun k e => (by cases e)⟩
    · exact key S 0 (by omega) fun r hr => by rw [(hM.sr r hr).1]; omega
    · refine ⟨fun l e => by cases e; rw [List.length_map]; omega, fun k e y hy => ?_⟩
      cases e
      obtain ⟨s, _, rfl⟩ := List.mem_map.mp hy
      intro l e; cases e
def PQ : Str := "pqrstuvwxyz"
theorem pq_list : PQ.cps.toList = List.range' 112 11 := by decide +kernel
/-- some names in sequence -/
theorem names_of {ys : List D} (h : ys.Perm (PQ.cps.toList.map fun ch => D.str ⟨#[ch]⟩)) (m : Nat) (hm : m ≤ 11) : ∃ bs : List Str, ys.take m = bs.map D.str ∧ bs.length = m ∧
    ∀ zs : List Str, zs.Perm bs → sortedS zs = true → ∃ chs : List Nat, zs = chs.map sg ∧ chs.length = m ∧ (∀ ch ∈ chs, 112 ≤ ch ∧ ch < 123) ∧ ∀ j, j + 1 < chs.length → chs.getD j 0 < chs.getD (j + 1) 0 := by
  have gen : ∀ (zs : List Str), (∀ z ∈ zs, ∃ ch ∈ List.range' 112 11, z = sg ch) → ∃ chs : List Nat, zs = chs.map sg ∧ ∀ ch ∈ chs, ch ∈ List.range' 112 11 := by
    intro zs
    induction zs with
    | nil => intro _; exact ⟨[], rfl, fun _ h => nomatch h⟩
    | cons z r ih =>
      intro hz
      obtain ⟨chs, e, h2⟩ := ih fun y hy => hz y (List.mem_cons_of_mem _ hy)
      obtain ⟨ch, hc, rfl⟩ := hz z List.mem_cons_self
      exact ⟨ch :: chs, by rw [e]; rfl, fun x hx => by
        rcases List.mem_cons.mp hx with q | q
        · rw [q]; exact hc
        · exact h2 x q⟩
  have es : (PQ.cps.toList.map fun ch => D.str ⟨#[ch]⟩) = ((List.range' 112 11).map sg).map D.str := by rw [pq_list, List.map_map]; rfl
  rw [es] at h
  have yl : ys = (ys.map unS).map D.str := by
    have : ∀ y ∈ ys, y = D.str (unS y) := fun y hy => by
      obtain ⟨s, _, rfl⟩ := List.mem_map.mp (h.mem_iff.mp hy)
      rfl
    conv => lhs; rw [← List.map_id ys]
    rw [List.map_map]
    exact List.map_congr_left this
  have hb : (ys.map unS).Perm ((List.range' 112 11).map sg) := by
    have := h.map unS
    rwa [List.map_map, show (unS ∘ D.str) = id from rfl, List.map_id] at this
  have ndS : (ys.map unS).Nodup := hb.nodup_iff.mpr (by
    rw [List.nodup_iff_pairwise_ne, List.pairwise_map]
    refine (List.nodup_iff_pairwise_ne.mp (List.nodup_range' (s := 112) (n := 11) 1)).imp fun {a b} q e => q ?_
    have : (sg a).cps = (sg b).cps := by rw [e]
    simpa using this)
  have l11 : ys.length = 11 := by have := h.length_eq; simpa using this
  refine ⟨(ys.map unS).take m, by rw [List.map_take, ← yl], by rw [List.length_take, List.length_map]; omega, fun zs hz hs => ?_⟩
  have hzm : ∀ z ∈ zs, ∃ ch ∈ List.range' 112 11, z = sg ch := fun z hz' => by
    have := hb.mem_iff.mp (List.mem_of_mem_take (hz.mem_iff.mp hz'))
    obtain ⟨ch, hc, e⟩ := List.mem_map.mp this
    exact ⟨ch, hc, e.symm⟩
  obtain ⟨chs, e, hc⟩ := gen zs hzm
  have nd : zs.Nodup := hz.nodup_iff.mpr (ndS.sublist (List.take_sublist _ _))
  have ndc : chs.Nodup := by
    rw [e, List.nodup_iff_pairwise_ne, List.pairwise_map] at nd
    exact List.nodup_iff_pairwise_ne.mpr (nd.imp fun {a b} q z => q (by rw [z]))
  refine ⟨chs, e, ?_, fun ch h => List.mem_range'_1.mp (hc ch h), sorted_sg (by rw [← e]; exact hs) ndc⟩
  have := hz.length_eq
  rw [List.length_take, List.length_map, e, List.length_map] at this
  omega
def soMachine (ds : List D) (k : Nat) (T : KD.R → Prop) : Prop := ∃ many states : Nat, ds = [.int many, .int states] ∧ many ≤ 5 ∧ 0 < states ∧ states ≤ 300 ∧ k = 12 + states * states + 8 * 2 ^ many + states ∧
  T = fun r => ∃ N B tp S gd, r = .fz (machD N B tp S gd) ∧ MD N B tp S gd many ∧ S.length = states
abbrev s__law_machine : Stmt := (top 51)
theorem sc__law_machine : FnScope ["feed", "many", "states", "names", "top", "step", "state", "begin", "mark"] ["feed", "many", "states"] (defScope s__law_machine) := ⟨rfl, rfl, rfl, by decide +kernel, rfl, by decide +kernel, by decide +kernel⟩
theorem bd_machine (T : Txt K mg) (C__law_draw : Cal P w K mg base 1 "_law_draw" (toSp (gb P w K) (spFd soDraw))) (C__law_mixed : Cal P w K mg base 2 "_law_mixed" (toSp (gb P w K) (spFd soMixed))) (C__law_row : Cal P w K mg base 2 "_law_row" (toSp (gb P w K) (spFd soLawRow))) :
    Body P w K mg base (2) ["feed", "many", "states", "names", "top", "step", "state", "begin", "mark"] "_law_machine" (defScope s__law_machine) (defBody s__law_machine) (toSp (gb P w K) (spFd soMachine)) := by
  intro f cdv A outer s H vs Q E hr h
  have hu := hu_of hr
  have tk : Takes (cxOf (L2.CX P w) P w K mg base ["feed", "many", "states", "names", "top", "step", "state", "begin", "mark"] "_law_machine" (defScope s__law_machine) f cdv A outer s H E) (WF E) := takes_of rfl rfl rfl rfl
  refine ⟨_, (pss_cons (ps_set (i := 3) sc__law_machine.nd rfl (Or.inl rfl) (pe_callTy call_tupD (by rfl) T.g_tuple (by decide +kernel) (pa_cons (pe_callB cr_sortedS (by rfl) T.g_sorted (by decide +kernel) (pa_cons (pe_slice sl_list (pe_cal C__law_mixed hr (by omega) tk (pa_cons (pv 0) (pa_cons (pe_callTy (call_listS rfl) (by rfl) T.g_list (by decide +kernel) (pa_cons pe_str pa_nil)) pa_nil))) po_none (po_some (pv 1))) pa_nil)) pa_nil)))
    (pss_cons (ps_set (i := 4) sc__law_machine.nd rfl (Or.inl rfl) (pe_cal C__law_draw hr (by omega) tk (pa_cons (pv 0) (pa_cons (pv 2) pa_nil))))
    (pss_cons (ps_set (i := 5) sc__law_machine.nd rfl (Or.inl rfl) (pe_callTy call_tupD (by rfl) T.g_tuple (by decide +kernel) (pa_cons (pe_lc (own := [("state", 6)]) (g := (gName 6)) (by rfl) sc__law_machine.nd  (pi_range1 rfl T.g_range (pa_cons (pv 2) pa_nil)) (blkOk_by (own := [("state", 6)]) (N := ["feed", "many", "states", "names", "top", "step", "state", "begin", "mark"]) (sc := defScope s__law_machine) (by decide +kernel)) (fun _ _ _ _ _ => (pg_name (i := 6) sc__law_machine.nd rfl (Or.inl rfl))) (fun _ _ _ _ _ => pts_nil) (fun _ _ _ _ _ => (pe_cal C__law_row hr (by omega) takesN (pa_cons (pv 0) (pa_cons (pv 2) (pa_cons (pv 2) pa_nil)))))) pa_nil)))
    (pss_cons (ps_set (i := 7) sc__law_machine.nd rfl (Or.inl rfl) (pe_callTy call_tupD (by rfl) T.g_tuple (by decide +kernel) (pa_cons (pe_lc (own := [("mark", 8)]) (g := (gName 8)) (by rfl) sc__law_machine.nd  (pi_range1 rfl T.g_range (pa_cons pe_int pa_nil)) (blkOk_by (own := [("mark", 8)]) (N := ["feed", "many", "states", "names", "top", "step", "state", "begin", "mark"]) (sc := defScope s__law_machine) (by decide +kernel)) (fun _ _ _ _ _ => (pg_name (i := 8) sc__law_machine.nd rfl (Or.inl rfl))) (fun _ _ _ _ _ => pts_nil) (fun _ _ _ _ _ => (pe_cal C__law_row hr (by omega) takesN (pa_cons (pv 0) (pa_cons (pe_op op_shl pe_int (pv 1)) (pa_cons (pv 2) pa_nil)))))) pa_nil)))
    (pss_one (ps_ret (pe_tup (pa_cons (pv 3) (pa_cons (pv 7) (pa_cons (pv 4) (pa_cons (pv 5) (pa_cons (pe_callTy call_tupD (by rfl) T.g_tuple (by decide +kernel) (pa_cons (pe_lc (own := [("state", 6)]) (g := (gName 6)) (by rfl) sc__law_machine.nd  (pi_range1 rfl T.g_range (pa_cons (pv 2) pa_nil)) (blkOk_by (own := [("state", 6)]) (N := ["feed", "many", "states", "names", "top", "step", "state", "begin", "mark"]) (sc := defScope s__law_machine) (by decide +kernel)) (fun _ _ _ _ _ => (pg_name (i := 6) sc__law_machine.nd rfl (Or.inl rfl))) (fun _ _ _ _ _ => (pts_one (pt_cmpR op_eq (pe_cal C__law_draw hr (by omega) takesN (pa_cons (pv 0) (pa_cons pe_int pa_nil))) pe_int (nomark _)))) (fun _ _ _ _ _ => (pv 6))) pa_nil)) pa_nil)))))))))))), ?_⟩
  try dsimp only [cxOf]
  refine d_startF h fun fd xs n ds k T' hF hn hS c hx hM => ?_
  obtain ⟨many, states, rfl, hm, hs0, hs, rfl, rfl⟩ := hS
  have pw : (2 ^ many : Nat) ≤ 32 := Nat.le_trans (Nat.pow_le_pow_right (by decide) hm) (by decide)
  have hz : (100000 : Nat) < sizeLine := by decide
  refine d_st (δ' := [.ow (.fl fd xs), .fz (.int many), .fz (.int states), .no, .no, .no, .no, .no, .no]) (by rfl) ?_
  walk_at "dw"
  refine d_callF hx ?_
  walk_at "dw"
  refine d_listS (z := PQ) rfl (by decide) fun a1 => ?_
  walk_at "dw"
  refine ⟨0, _, fd, xs, n, _, 11, _, rfl, rfl, rfl, hF, by omega, ⟨_, rfl, by rw [List.length_map, pq_list]; decide, by rw [List.length_map, pq_list]; rfl, rfl⟩, ?_⟩
  rintro r ys1 hF1 ⟨a2, ys, rfl, hys⟩
  obtain ⟨bs, ebs, lbs, fin⟩ := names_of hys many (by omega)
  have l11 : ys.length = 11 := by have := hys.length_eq; rw [List.length_map, pq_list] at this; simpa using this
  walk_at "dw"
  refine d_slL rfl rfl fun a3 => ?_
  rw [cutD_to _ (by omega), ebs]
  walk_at "dw"
  refine d_sortS (bs := bs) rfl rfl rfl (by omega) fun a4 zs hp hsr => ?_
  obtain ⟨chs, rfl, lch, rch, sch⟩ := fin zs hp hsr
  walk_at "dw"
  refine d_callF hx ?_
  walk_at "dw"
  refine ⟨0, _, fd, ys1, _, _, 1, _, rfl, rfl, rfl, hF1, by omega, ⟨_, rfl, by omega, by omega, rfl, rfl⟩, ?_⟩
  rintro r ys2 hF2 ⟨top, htop, rfl⟩
  walk_at "dw"
  have rowsLc : ∀ (R : Nat → Nat → D → Prop), True := fun _ => trivial
  refine d_lc (only_name (by decide)) ?_
  walk_at "dw"
  refine ⟨_, rfl, by omega, by omega, by omega, ?_⟩
  refine ⟨fun i acc δ => ∃ (ys : List D) (S : List (List Int)), δ = [.ow (.fl fd ys), .fz (.int many), .fz (.int states), .fz (.tup ((chs.map sg).map D.str)), .fz (.int top), .no, .no, .no, .no] ∧ FdD (n + 12 + i * states) ys ∧ acc = S.map rowD ∧ S.length = i ∧ ∀ r ∈ S, r.length = states ∧ ∀ x ∈ r, 0 ≤ x ∧ x < states,
    ⟨ys2, [], rfl, hF2.mono (by omega), rfl, rfl, fun r hr => nomatch hr⟩, ?_, ?_, ?_⟩
  · rintro i acc δ ⟨ys, S, rfl, _⟩
    exact ⟨trivial, rfl⟩
  · rintro c' i acc δ hi ⟨ys, S, rfl, hy, rfl, hS, hb⟩
    rw [Int.toNat_natCast] at hi
    have hi2 : (i + 1) * states ≤ states * states := Nat.mul_le_mul_right _ hi
    rw [Nat.succ_mul] at hi2
    walk_at "dw"
    refine d_callF (ok0 c') ?_
    walk_at "dw"
    refine ⟨0, _, fd, ys, _, _, states, _, rfl, rfl, rfl, hy, by omega, ⟨states, states, rfl, by omega, hs0, by omega, rfl, rfl⟩, ?_⟩
    rintro r ys2 hy2 ⟨row, rfl, hr1, hr2⟩
    refine ⟨_, rfl, ys2, S ++ [row], rfl, hy2.mono (by rw [Nat.succ_mul]; omega), by rw [List.map_append]; rfl, by rw [List.length_append, hS]; rfl, fun r hr => ?_⟩
    rcases List.mem_append.mp hr with z | z
    · exact hb r z
    · rw [List.mem_singleton.mp z]; exact ⟨hr1, hr2⟩
  rintro p acc δ' ⟨ys3, S, rfl, hF3, rfl, hS, hSb⟩
  rw [Int.toNat_natCast] at hF3 hS
  walk_at "dw"
  refine d_lc (only_name (by decide)) ?_
  walk_at "dw"
  refine ⟨_, rfl, by omega, by omega, by omega, ?_⟩
  refine ⟨fun i acc δ => ∃ (ys : List D) (B : List (List Int)), δ = [.ow (.fl fd ys), .fz (.int many), .fz (.int states), .fz (.tup ((chs.map sg).map D.str)), .fz (.int top), .fz (.tup (S.map rowD)), .no, .no, .no] ∧ FdD (n + 12 + states * states + i * 2 ^ many) ys ∧ acc = B.map rowD ∧ B.length = i ∧ ∀ r ∈ B, r.length = 2 ^ many ∧ ∀ x ∈ r, 0 ≤ x ∧ x < states,
    ⟨ys3, [], rfl, hF3.mono (by omega), rfl, rfl, fun r hr => nomatch hr⟩, ?_, ?_, ?_⟩
  · rintro i acc δ ⟨ys, B, rfl, _⟩
    exact ⟨trivial, rfl⟩
  · rintro c' i acc δ hi ⟨ys, B, rfl, hy, rfl, hB, hb⟩
    have hi : i < 8 := hi
    have hi2 : (i + 1) * 2 ^ many ≤ 8 * 2 ^ many := Nat.mul_le_mul_right _ hi
    rw [Nat.succ_mul] at hi2
    walk_at "dw"
    refine d_callF (ok0 c') ?_
    walk_at "dw"
    refine d_rI (i := 1) (j := (many : Nat)) rfl rfl rfl ?_ ?_
    · unfold CPow; omega
    rw [Int.toNat_natCast, Int.one_mul]
    walk_at "dw"
    refine ⟨0, _, fd, ys, _, _, 2 ^ many, _, rfl, rfl, rfl, hy, by omega, ⟨2 ^ many, states, ?_, by omega, hs0, by omega, rfl, rfl⟩, ?_⟩
    · rw [show ((2 ^ many : Nat) : Int) = (2 : Int) ^ many by norm_cast]
    rintro r ys2 hy2 ⟨row, rfl, hr1, hr2⟩
    refine ⟨_, rfl, ys2, B ++ [row], rfl, hy2.mono (by rw [Nat.succ_mul]; omega), by rw [List.map_append]; rfl, by rw [List.length_append, hB]; rfl, fun r hr => ?_⟩
    rcases List.mem_append.mp hr with z | z
    · exact hb r z
    · rw [List.mem_singleton.mp z]; exact ⟨hr1, hr2⟩
  rintro p2 acc δ' ⟨ys4, B, rfl, hF4, rfl, hB, hBb⟩
  have hB : B.length = 8 := hB
  have hF4 : FdD (n + 12 + states * states + 8 * 2 ^ many) ys4 := hF4
  walk_at "dw"
  refine d_lc (only_name (by decide)) ?_
  walk_at "dw"
  refine ⟨_, rfl, by omega, by omega, by omega, ?_⟩
  refine ⟨fun i acc δ => ∃ (ys : List D) (gd : List Int), δ = [.ow (.fl fd ys), .fz (.int many), .fz (.int states), .fz (.tup ((chs.map sg).map D.str)), .fz (.int top), .fz (.tup (S.map rowD)), .no, .fz (.tup (B.map rowD)), .no] ∧ FdD (n + 12 + states * states + 8 * 2 ^ many + i) ys ∧ acc = gd.map D.int ∧ gd.length ≤ i ∧ (∀ x ∈ gd, 0 ≤ x ∧ x < i) ∧ gd.Pairwise (· < ·),
    ⟨ys4, [], rfl, hF4, rfl, Nat.le_refl _, (fun r hr => nomatch hr), List.Pairwise.nil⟩, ?_, ?_, ?_⟩
  · rintro i acc δ ⟨ys, gd, rfl, _⟩
    exact ⟨trivial, rfl⟩
  · rintro c' i acc δ hi ⟨ys, gd, rfl, hy, rfl, hl, hb, hpw⟩
    rw [Int.toNat_natCast] at hi
    walk_at "dw"
    refine d_callF (ok0 c') ?_
    walk_at "dw"
    refine ⟨0, _, fd, ys, _, _, 1, _, rfl, rfl, rfl, hy, by omega, ⟨_, rfl, by decide, by decide, rfl, rfl⟩, ?_⟩
    rintro r ys2 hy2 ⟨j, hj, rfl⟩
    walk_at "dw"
    refine i_dec (fun z => ?_) (fun z => ?_)
    · walk_at "dw"
      refine ⟨_, rfl, ys2, gd ++ [(i : Int)], rfl, hy2, ?_, by rw [List.length_append]; simp; omega, fun x hx => ?_, ?_⟩
      · rw [List.map_append]
        show _ ++ [D.int (0 + (i : Int))] = _
        rw [Int.zero_add]
        rfl
      · rcases List.mem_append.mp hx with q | q
        · have := hb x q; omega
        · rw [List.mem_singleton.mp q]; omega
      · refine List.pairwise_append.mpr ⟨hpw, List.pairwise_singleton _ _, fun a ha b hb' => ?_⟩
        have := hb a ha
        rw [List.mem_singleton.mp hb']
        omega
    · exact ⟨ys2, gd, rfl, hy2, rfl, by omega, fun x hx => by have := hb x hx; omega, hpw⟩
  rintro p3 acc δ' ⟨ys5, gd, rfl, hF5, rfl, hl, hgb, hpw⟩
  rw [Int.toNat_natCast] at hF5 hl hgb
  walk_at "dw"
  have hMO : MOk S B many := ⟨by omega, by omega, fun r hr => by rw [hS]; exact hSb r hr, hB, fun r hr => by rw [hS]; exact hBb r hr, hm⟩
  refine ⟨rfl, ys5, rfl, hF5.mono (by omega), _, B, (top : Int), S, gd, rfl, md_of hMO lch rch sch (by rw [hS]; omega) (fun x hx => by rw [hS]; exact hgb x hx) hpw (by omega), hS⟩
theorem cd_machine (T : Txt K mg) : Cal P w K mg base 3 "_law_machine" (toSp (gb P w K) (spFd soMachine)) := T.d__law_machine.cal sc__law_machine (len_spFd fun ds k T ⟨_, _, h, _⟩ => by rw [h]; rfl) (bd_machine T (cd_draw T) (cd_mixed T) (cd_lawrow T))
end

end K67

set_option maxHeartbeats 4000000
namespace K67
open PySem PySem.Spec PyProof.Rows L2 KB KM
open KD hiding Dp
section
open KW
variable {P : Program} {w : World} {K : PySem.W.Frag} {mg : Str → Option Value} {base : Heap}
/-! ### great machines -/
theorem rowD_map (n : Nat) (f : Nat → Int) : D.tup ((List.range n).map fun r => D.int (f r)) = rowD ((List.range n).map f) := by
  unfold rowD
  rw [List.map_map]
  rfl
def soGreat (ds : List D) (k : Nat) (T : KD.R → Prop) : Prop := ∃ many : Nat, ds = [.int many] ∧ many ≤ 5 ∧ k = 15 ∧ T = fun r => ∃ N B tp S gd, r = .fz (machD N B tp S gd) ∧ MD N B tp S gd many
abbrev s__law_great_machine : Stmt := (top 58)
theorem sc__law_great_machine : FnScope ["feed", "many", "states", "names", "a", "b", "c", "step", "r", "q", "begin", "lay", "mark"] ["feed", "many"] (defScope s__law_great_machine) := ⟨rfl, rfl, rfl, by decide +kernel, rfl, by decide +kernel, by decide +kernel⟩
theorem bd_great (T : Txt K mg) (C__law_draw : Cal P w K mg base 1 "_law_draw" (toSp (gb P w K) (spFd soDraw))) (C__law_one : Cal P w K mg base 2 "_law_one" (toSp (gb P w K) (spFd soOne))) (C__law_mixed : Cal P w K mg base 2 "_law_mixed" (toSp (gb P w K) (spFd soMixed))) :
    Body P w K mg base (2) ["feed", "many", "states", "names", "a", "b", "c", "step", "r", "q", "begin", "lay", "mark"] "_law_great_machine" (defScope s__law_great_machine) (defBody s__law_great_machine) (toSp (gb P w K) (spFd soGreat)) := by
  intro f cdv A outer s H vs Q E hr h
  have hu := hu_of hr
  have tk : Takes (cxOf (L2.CX P w) P w K mg base ["feed", "many", "states", "names", "a", "b", "c", "step", "r", "q", "begin", "lay", "mark"] "_law_great_machine" (defScope s__law_great_machine) f cdv A outer s H E) (WF E) := takes_of rfl rfl rfl rfl
  refine ⟨_, (pss_cons (ps_y2 (ps_asg (pe_tup (pa_cons (pe_cal C__law_one hr (by omega) tk (pa_cons (pv 0) (pa_cons (pe_lst (pa_cons pe_int (pa_cons pe_int (pa_cons pe_int (pa_cons pe_int pa_nil))))) pa_nil))) (pa_cons (pe_callTy call_tupD (by rfl) T.g_tuple (by decide +kernel) (pa_cons (pe_callB cr_sortedS (by rfl) T.g_sorted (by decide +kernel) (pa_cons (pe_slice sl_list (pe_cal C__law_mixed hr (by omega) tk (pa_cons (pv 0) (pa_cons (pe_callTy (call_listS rfl) (by rfl) T.g_list (by decide +kernel) (pa_cons pe_str pa_nil)) pa_nil))) po_none (po_some (pv 1))) pa_nil)) pa_nil)) pa_nil))) (pg_tup (n := 2) (by rfl) (pgs_cons (pg_name (i := 2) sc__law_great_machine.nd rfl (Or.inr rfl)) (pgs_cons (pg_name (i := 3) sc__law_great_machine.nd rfl (Or.inl rfl)) pgs_nil)))))
    (pss_cons (ps_y3 (ps_asg (pe_tup (pa_cons (pe_cal C__law_draw hr (by omega) tk (pa_cons (pv 0) (pa_cons (pv 2) pa_nil))) (pa_cons (pe_cal C__law_draw hr (by omega) tk (pa_cons (pv 0) (pa_cons (pv 2) pa_nil))) (pa_cons (pe_cal C__law_draw hr (by omega) tk (pa_cons (pv 0) (pa_cons (pv 2) pa_nil))) pa_nil)))) (pg_tup (n := 3) (by rfl) (pgs_cons (pg_name (i := 4) sc__law_great_machine.nd rfl (Or.inr rfl)) (pgs_cons (pg_name (i := 5) sc__law_great_machine.nd rfl (Or.inr rfl)) (pgs_cons (pg_name (i := 6) sc__law_great_machine.nd rfl (Or.inr rfl)) pgs_nil))))))
    (pss_cons (ps_set (i := 7) sc__law_great_machine.nd rfl (Or.inl rfl) (pe_callTy call_tupD (by rfl) T.g_tuple (by decide +kernel) (pa_cons (pe_lc (own := [("q", 9)]) (g := (gName 9)) (by rfl) sc__law_great_machine.nd  (pi_range1 rfl T.g_range (pa_cons (pv 2) pa_nil)) (blkOk_by (own := [("q", 9)]) (N := ["feed", "many", "states", "names", "a", "b", "c", "step", "r", "q", "begin", "lay", "mark"]) (sc := defScope s__law_great_machine) (by decide +kernel)) (fun _ _ _ _ _ => (pg_name (i := 9) sc__law_great_machine.nd rfl (Or.inr rfl))) (fun _ _ _ _ _ => pts_nil) (fun _ _ _ _ _ => (pe_callTy (call_tupDK (K := K) rfl) (by rfl) T.g_tuple (by decide +kernel) (pa_cons (pe_lc (own := [("r", 8)]) (g := (gName 8)) (by rfl) sc__law_great_machine.nd  (pi_range1 rfl T.g_range (pa_cons (pv 2) pa_nil)) (blkOk_by (own := [("r", 8)]) (N := ["feed", "many", "states", "names", "a", "b", "c", "step", "r", "q", "begin", "lay", "mark"]) (sc := _) (by rfl)) (fun _ _ _ _ _ => (pg_name (i := 8) sc__law_great_machine.nd rfl (Or.inl rfl))) (fun _ _ _ _ _ => pts_nil) (fun _ _ _ _ _ => (pe_op op_mod (pe_callTy call_int1K (by rfl) T.g_int (by decide +kernel) (pa_cons (pe_op op_add (pe_op op_add (pe_op op_mul (pv 4) (pv 9)) (pe_op op_mul (pv 5) (pv 8))) (pv 6)) pa_nil)) (pv 2)))) pa_nil)))) pa_nil)))
    (pss_cons (ps_set (i := 10) sc__law_great_machine.nd rfl (Or.inl rfl) (pe_callTy call_tupD (by rfl) T.g_tuple (by decide +kernel) (pa_cons (pe_lc (own := [("mark", 12)]) (g := (gName 12)) (by rfl) sc__law_great_machine.nd  (pi_range1 rfl T.g_range (pa_cons pe_int pa_nil)) (blkOk_by (own := [("mark", 12)]) (N := ["feed", "many", "states", "names", "a", "b", "c", "step", "r", "q", "begin", "lay", "mark"]) (sc := defScope s__law_great_machine) (by decide +kernel)) (fun _ _ _ _ _ => (pg_name (i := 12) sc__law_great_machine.nd rfl (Or.inr rfl))) (fun _ _ _ _ _ => pts_nil) (fun _ _ _ _ _ => (pe_callTy (call_tupDK (K := K) rfl) (by rfl) T.g_tuple (by decide +kernel) (pa_cons (pe_lc (own := [("lay", 11)]) (g := (gName 11)) (by rfl) sc__law_great_machine.nd  (pi_range1 rfl T.g_range (pa_cons (pe_op op_shl pe_int (pv 1)) pa_nil)) (blkOk_by (own := [("lay", 11)]) (N := ["feed", "many", "states", "names", "a", "b", "c", "step", "r", "q", "begin", "lay", "mark"]) (sc := _) (by rfl)) (fun _ _ _ _ _ => (pg_name (i := 11) sc__law_great_machine.nd rfl (Or.inl rfl))) (fun _ _ _ _ _ => pts_nil) (fun _ _ _ _ _ => (pe_op op_mod (pe_callTy call_int1K (by rfl) T.g_int (by decide +kernel) (pa_cons (pe_op op_add (pe_op op_add (pe_op op_add (pe_op op_mul (pv 5) (pv 11)) (pe_op op_mul (pv 4) (pv 12))) (pe_op op_mul (pv 11) (pv 12))) (pv 6)) pa_nil)) (pv 2)))) pa_nil)))) pa_nil)))
    (pss_one (ps_ret (pe_tup (pa_cons (pv 3) (pa_cons (pv 10) (pa_cons (pe_op op_sub (pv 2) pe_int) (pa_cons (pv 7) (pa_cons (pe_tup (pa_cons (pv 4) pa_nil)) pa_nil)))))))))))), ?_⟩
  try dsimp only [cxOf]
  refine d_startF h fun fd xs n ds k T' hF hn hS c hx hM => ?_
  obtain ⟨many, rfl, hm, rfl, rfl⟩ := hS
  have pw : (2 ^ many : Nat) ≤ 32 := Nat.le_trans (Nat.pow_le_pow_right (by decide) hm) (by decide)
  have hz : (100000 : Nat) < sizeLine := by decide
  refine d_st (δ' := [.ow (.fl fd xs), .fz (.int many), .no, .no, .no, .no, .no, .no, .no, .no, .no, .no, .no]) (by rfl) ?_
  walk_at "dw"
  refine d_callF hx ?_
  walk_at "dw"
  intro a0
  walk_at "dw"
  refine ⟨0, _, fd, xs, n, _, 1, _, rfl, rfl, rfl, hF, by omega, ⟨_, _, rfl, rfl, by simp, by simp, rfl, rfl⟩, ?_⟩
  rintro r ys0 hF0 ⟨st0, hst0, rfl⟩
  obtain ⟨states, rfl, hs0, hs⟩ : ∃ states : Nat, st0 = .int states ∧ 0 < states ∧ states ≤ 300 := by
    simp only [List.mem_cons, List.not_mem_nil, or_false] at hst0
    rcases hst0 with rfl | rfl | rfl | rfl
    · exact ⟨40, rfl, by decide, by decide⟩
    · exact ⟨40, rfl, by decide, by decide⟩
    · exact ⟨120, rfl, by decide, by decide⟩
    · exact ⟨300, rfl, by decide, by decide⟩
  walk_at "dw"
  refine d_callF hx ?_
  walk_at "dw"
  refine d_listS (z := PQ) rfl (by decide) fun a1 => ?_
  walk_at "dw"
  refine ⟨0, _, fd, ys0, _, _, 11, _, rfl, rfl, rfl, hF0, by omega, ⟨_, rfl, by rw [List.length_map, pq_list]; decide, by rw [List.length_map, pq_list]; rfl, rfl⟩, ?_⟩
  rintro r ys1 hF1 ⟨a2, ys, rfl, hys⟩
  obtain ⟨bs, ebs, lbs, fin⟩ := names_of hys many (by omega)
  have l11 : ys.length = 11 := by have := hys.length_eq; rw [List.length_map, pq_list] at this; simpa using this
  walk_at "dw"
  refine d_slL rfl rfl fun a3 => ?_
  rw [cutD_to _ (by omega), ebs]
  walk_at "dw"
  refine d_sortS (bs := bs) rfl rfl rfl (by omega) fun a4 zs hp hsr => ?_
  obtain ⟨chs, rfl, lch, rch, sch⟩ := fin zs hp hsr
  walk_at "dw"
  refine d_callF hx ?_
  walk_at "dw"
  refine ⟨0, _, fd, ys1, _, _, 1, _, rfl, rfl, rfl, hF1, by omega, ⟨_, rfl, by omega, by omega, rfl, rfl⟩, ?_⟩
  rintro r ys2 hF2 ⟨a, ha, rfl⟩
  walk_at "dw"
  refine d_callF hx ?_
  walk_at "dw"
  refine ⟨0, _, fd, ys2, _, _, 1, _, rfl, rfl, rfl, hF2, by omega, ⟨_, rfl, by omega, by omega, rfl, rfl⟩, ?_⟩
  rintro r ys3 hF3 ⟨b, hb, rfl⟩
  walk_at "dw"
  refine d_callF hx ?_
  walk_at "dw"
  refine ⟨0, _, fd, ys3, _, _, 1, _, rfl, rfl, rfl, hF3, by omega, ⟨_, rfl, by omega, by omega, rfl, rfl⟩, ?_⟩
  rintro r ys4 hF4 ⟨e, he, rfl⟩
  walk_at "dw"
  have lt64 : ∀ k : Nat, k ≤ 1000 → -(2 ^ 64) < ((k : Nat) : Int) ∧ ((k : Nat) : Int) < 2 ^ 64 := fun k hk => ⟨by omega, by omega⟩
  refine d_lcP (only_name (by decide)) ?_
  walk_at "dw"
  refine ⟨_, rfl, by omega, by omega, by omega, trivial, rfl, fun q => rowD ((List.range states).map fun r : Nat => ((a : Int) * (0 + (q : Nat)) + (b : Int) * (0 + (r : Nat)) + (e : Int)) % (states : Int)), fun c2 q hq => ?_, fun p => ?_⟩
  · walk_at "dw"
    refine d_lcP (only_name (by decide)) ?_
    walk_at "dw"
    refine ⟨_, rfl, by omega, by omega, by omega, trivial, rfl, fun r => .int (((a : Int) * (0 + (q : Nat)) + (b : Int) * (0 + (r : Nat)) + (e : Int)) % (states : Int)), fun c3 r hr => ?_, fun p2 => ?_⟩
    · walk_at "dw"
      refine d_rI (i := (a : Nat)) (j := 0 + ((q : Nat) : Int)) rfl rfl rfl (.inl (lt64 a (by omega))) ?_
      walk_at "dw"
      refine d_rI (i := (b : Nat)) (j := 0 + ((r : Nat) : Int)) rfl rfl rfl (.inl (lt64 b (by omega))) ?_
      walk_at "dw"
      refine d_rI (j := (states : Nat)) rfl rfl rfl (by omega) ?_
      exact ⟨rfl, rfl⟩
    · walk_at "dw"
      refine ⟨?_, rfl⟩
      rw [Int.toNat_natCast]
      exact congrArg KD.R.fz (rowD_map _ _)
  rw [Int.toNat_natCast]
  walk_at "dw"
  refine d_lcP (only_name (by decide)) ?_
  walk_at "dw"
  refine ⟨_, rfl, by omega, by omega, by decide, trivial, rfl, fun q => rowD ((List.range (2 ^ many)).map fun r : Nat => ((b : Int) * (0 + (r : Nat)) + (a : Int) * (0 + (q : Nat)) + (0 + ((r : Nat) : Int)) * (0 + (q : Nat)) + (e : Int)) % (states : Int)), fun c2 q hq => ?_, fun p2 => ?_⟩
  · have hq : q < 8 := hq
    walk_at "dw"
    refine d_lcP (only_name (by decide)) ?_
    walk_at "dw"
    refine d_rI (i := 1) (j := (many : Nat)) rfl rfl rfl ?_ ?_
    · unfold CPow; omega
    rw [Int.toNat_natCast, Int.one_mul, show (2 : Int) ^ many = ((2 ^ many : Nat) : Int) by norm_cast]
    generalize 2 ^ many = tt at pw ⊢
    walk_at "dw"
    refine ⟨_, rfl, by omega, by omega, by omega, trivial, rfl, fun r => .int (((b : Int) * (0 + (r : Nat)) + (a : Int) * (0 + (q : Nat)) + (0 + ((r : Nat) : Int)) * (0 + (q : Nat)) + (e : Int)) % (states : Int)), fun c3 r hr => ?_, fun p3 => ?_⟩
    · rw [Int.toNat_natCast] at hr
      walk_at "dw"
      refine d_rI (i := (b : Nat)) (j := 0 + ((r : Nat) : Int)) rfl rfl rfl (.inl (lt64 b (by omega))) ?_
      walk_at "dw"
      refine d_rI (i := (a : Nat)) (j := 0 + ((q : Nat) : Int)) rfl rfl rfl (.inl (lt64 a (by omega))) ?_
      walk_at "dw"
      refine d_rI (i := 0 + ((r : Nat) : Int)) (j := 0 + ((q : Nat) : Int)) rfl rfl rfl (.inl (by rw [Int.zero_add]; exact lt64 r (by omega))) ?_
      walk_at "dw"
      refine d_rI (j := (states : Nat)) rfl rfl rfl (by omega) ?_
      exact ⟨rfl, rfl⟩
    · walk_at "dw"
      refine ⟨?_, rfl⟩
      rw [Int.toNat_natCast]
      exact congrArg KD.R.fz (rowD_map _ _)
  walk_at "dw"
  have modIn : ∀ z : Int, 0 ≤ z % (states : Int) ∧ z % (states : Int) < states := fun z => ⟨Int.emod_nonneg _ (by omega), Int.emod_lt_of_pos _ (by omega)⟩
  generalize eS : ((List.range states).map fun q : Nat => ((List.range states).map fun r : Nat => ((a : Int) * (0 + (q : Nat)) + (b : Int) * (0 + (r : Nat)) + (e : Int)) % (states : Int))) = S
  generalize eB : ((List.range 8).map fun q : Nat => ((List.range (2 ^ many)).map fun r : Nat => ((b : Int) * (0 + (r : Nat)) + (a : Int) * (0 + (q : Nat)) + (0 + ((r : Nat) : Int)) * (0 + (q : Nat)) + (e : Int)) % (states : Int))) = B
  have lS : S.length = states := by rw [← eS]; simp
  have hMO : MOk S B many := by
    refine ⟨by omega, by omega, fun r hr => ?_, by rw [← eB]; simp, fun r hr => ?_, hm⟩
    · rw [← eS] at hr
      obtain ⟨q, _, rfl⟩ := List.mem_map.mp hr
      refine ⟨by rw [lS]; simp, fun x hx => ?_⟩
      obtain ⟨r, _, rfl⟩ := List.mem_map.mp hx
      rw [lS]
      exact modIn _
    · rw [← eB] at hr
      obtain ⟨q, _, rfl⟩ := List.mem_map.mp hr
      refine ⟨by simp, fun x hx => ?_⟩
      obtain ⟨r, _, rfl⟩ := List.mem_map.mp hx
      rw [lS]
      exact modIn _
  refine ⟨rfl, ys4, rfl, hF4.mono (by omega), chs.map sg, B, (states : Int) - 1, S, [(a : Int)], ?_, md_of hMO lch rch sch (by rw [lS]; omega) (fun x hx => by rw [List.mem_singleton.mp hx, lS]; omega) (List.pairwise_singleton _ _) (by simp)⟩
  rw [← eS, ← eB]
  unfold machD
  simp only [List.map_map]
  rfl
theorem cd_great (T : Txt K mg) : Cal P w K mg base 3 "_law_great_machine" (toSp (gb P w K) (spFd soGreat)) := T.d__law_great_machine.cal sc__law_great_machine (len_spFd fun ds k T ⟨_, h, _⟩ => by rw [h]; rfl) (bd_great T (cd_draw T) (cd_one T) (cd_mixed T))
/-! ### the state of a node -/
def soState (n : Nat) (ds : List D) (out : Out) : Prop := ∃ (l : List (Str × Nat)) (N : List Str) (B : List (List Int)) (tp : Int) (S : List (List Int)) (gd : List Int) (M v : Nat) (p : List (Option Nat)) (m : List (Key × D)),
  ds = [machD N B tp S gd, .tup (docL l), .lst (chL l), .dk m, .int (v : Nat)] ∧ MOk S B M ∧ M8 l ∧ Fo 0 (dps l) ∧ l.length ≤ 100000 ∧ v < l.length ∧ l.length ≤ v + n ∧ LaidIs m (lay p) ∧ p.length = M ∧ out = .ret (.int (stL S B l p v))
abbrev s__law_state : Stmt := (top 55)
theorem sc__law_state : FnScope ["machine", "document", "children", "laid", "node", "row", "state", "child"] ["machine", "document", "children", "laid", "node"] (defScope s__law_state) := ⟨rfl, rfl, rfl, by decide +kernel, rfl, by decide +kernel, by decide +kernel⟩
theorem bd_state (T : Txt K mg) : ∀ n, Cal P w K mg base (n + 0) "_law_state" (spPre (fun n => toSp (gb P w K) (spO K (soState n))) n) → Body P w K mg base ((n + 0)) ["machine", "document", "children", "laid", "node", "row", "state", "child"] "_law_state" (defScope s__law_state) (defBody s__law_state) (toSp (gb P w K) (spO K (soState n)))
  | 0, _ => by
    intro f cdv A outer s H vs Q E hr h
    obtain ⟨F, as, PP, ent, ⟨ds, out, e1, hS, e2⟩, kr, ke⟩ := h
    obtain ⟨l, N, B, tp, S, gd, M, v, p, m, _, _, _, _, _, h1, h2, _⟩ := hS
    omega
  | nn + 1, C => by
    have C__law_state : Cal P w K mg base (nn + 1 + 0) "_law_state" (toSp (gb P w K) (spO K (soState nn))) := C
    clear C
    intro f cdv A outer s H vs Q E hr h
    have hu := hu_of hr
    have tk : Takes (cxOf (L2.CX P w) P w K mg base ["machine", "document", "children", "laid", "node", "row", "state", "child"] "_law_state" (defScope s__law_state) f cdv A outer s H E) (WF E) := takes_of rfl rfl rfl rfl
    refine ⟨_, (pss_cons (ps_set (i := 5) sc__law_state.nd rfl (Or.inl rfl) (pe_ix ix_seq (pe_ix ix_seq (pv 0) pe_int (fun _ _ => rfl)) (pe_m1 PySem.F.slot_str_index PySem.F.type_str_index mt_sindexD pe_str (pe_ix ix_seq (pe_ix ix_seq (pv 1) (pv 4) (fun _ _ => rfl)) pe_int (fun _ _ => rfl))) (fun _ _ => rfl)))
    (pss_cons (ps_set (i := 6) sc__law_state.nd rfl (Or.inl rfl) (pe_ix ix_seq (pv 5) (pe_dget2 hu (pv 3) (pv 4) pe_int ⟨by rfl, by rfl, by rfl, by rfl⟩) (fun _ _ => rfl)))
    (pss_cons (ps_for (passes_of rfl) rfl (pi_list (pe_ix ix_seq (pv 2) (pv 4) (fun _ _ => rfl))) (pg_name (i := 7) sc__law_state.nd rfl (Or.inl rfl)) (pss_one (ps_set (i := 6) sc__law_state.nd rfl (Or.inl rfl) (pe_ix ix_seq (pe_ix ix_seq (pe_ix ix_seq (pv 0) pe_int (fun _ _ => rfl)) (pv 6) (fun _ _ => rfl)) (pe_cal C__law_state hr (by omega) tk (pa_cons (pv 0) (pa_cons (pv 1) (pa_cons (pv 2) (pa_cons (pv 3) (pa_cons (pv 7) pa_nil)))))) (fun _ _ => rfl)))))
    (pss_one (ps_ret (pv 6)))))), ?_⟩
    try dsimp only [cxOf]
    refine d_startO h fun ds out hS c hx hM => ?_
    obtain ⟨l, N, B, tp, S, gd, M, v, p, m, rfl, ok, h8, hf, hl, hv, hvn, hL, hp, rfl⟩ := hS
    have hz : (1000000 : Nat) < sizeLine := by decide
    have ld := fo_len l
    have hvd : v < (dps l).length := by omega
    have F := frs_of hf
    have hk : ∀ v, v < (dps l).length → mkL l v < 8 := fun v hv => (h8.occ (by omega)).2
    obtain ⟨occ, mk8⟩ := h8.occ hv
    obtain ⟨b1, b2⟩ := ok.br _ (getD_mem (d := []) (show mkL l v < B.length by rw [ok.bl]; exact mk8))
    have eB := atI_map (f := rowD) (getD_at (d := ([] : List Int)) (show mkL l v < B.length by rw [ok.bl]; exact mk8))
    have ll : lay p v < 2 ^ M := by rw [← hp]; exact lay_lt p v
    refine d_st (δ' := [.fz (machD N B tp S gd), .fz (.tup (docL l)), .fz (.lst (chL l)), .fz (.dk m), .fz (.int v), .no, .no, .no]) (by rfl) ?_
    walk_at "dw"
    refine d_ix (i := 1) (d := .tup (B.map rowD)) rfl rfl rfl ?_
    walk_at "dw"
    refine ⟨⟨_, rfl⟩, ?_⟩
    walk_at "dw"
    refine d_ix (i := (v : Nat)) rfl rfl (docL_at hv) ?_
    walk_at "dw"
    refine d_ix (i := 0) (d := .str (l.getD v ("", 0)).1) rfl rfl rfl ?_
    refine d_sidx rfl rfl occ ?_
    refine d_ix (i := (mkL l v : Nat)) (d := rowD (B.getD (mkL l v) [])) rfl rfl eB ?_
    walk_at "dw"
    refine ⟨⟨_, rfl⟩, ?_⟩
    walk_at "dw"
    refine ⟨m, .int (v : Nat), .inl (v : Int), .int 0, rfl, rfl, rfl, rfl, ?_⟩
    rw [hL v]
    refine d_ix (i := (lay p v : Nat)) (d := .int (begD B (mkL l) v (lay p v))) rfl rfl ?_ ?_
    · have := atI_ints (r := B.getD (mkL l v) []) (i := (lay p v : Nat)) (by omega) (by omega)
      rw [Int.toNat_natCast] at this
      exact this
    walk_at "dw"
    refine d_for ?_
    walk_at "dw"
    have ech : rowP (dps l) (rowAt l.length v) = chD (dps l) v := by
      unfold rowAt
      rw [if_neg (by omega)]
      rfl
    have ec := chL_at (l := l) (k := v) (by omega)
    rw [ech] at ec
    refine d_ix (i := (v : Nat)) rfl rfl ec ?_
    refine ⟨_, rfl, ?_⟩
    have sb := F.sib v hvd
    have hu := F.up v hvd
    have bi := begD_in ok (mk := mkL l) mk8 ll
    refine ⟨fun i δ => ∃ s7, δ = [.fz (machD N B tp S gd), .fz (.tup (docL l)), .fz (.lst (chL l)), .fz (.dk m), .fz (.int v), .fz (rowD (B.getD (mkL l v) [])), .fz (.int (runL S B l p (begD B (mkL l) v (lay p v)) ((chD (dps l) v).take i))), s7],
      ⟨_, rfl⟩, fun _ _ _ => trivial, ?_, ?_⟩
    · rintro i δ hi ⟨s7, rfl⟩
      rw [intL, List.length_map] at hi
      have ei : (chD (dps l) v)[i]? = some ((chD (dps l) v).getD i 0) := getD_at hi
      have eg : (intL (chD (dps l) v)).getD i .non = .int ((chD (dps l) v).getD i 0 : Nat) := by
        rw [List.getD_eq_getElem?_getD, intL, List.getElem?_map, ei]; rfl
      have hm := List.mem_of_getElem? ei
      dsimp only
      rw [eg]
      obtain ⟨k1, k2, k3⟩ := sb.mem hm
      have run_i := runW_in ok F hk hp (q := begD B (mkL l) v (lay p v)) bi (r := (chD (dps l) v).take i) fun c hc => by
        have := sb.mem (List.mem_of_mem_take hc)
        omega
      have esn : runL S B l p (begD B (mkL l) v (lay p v)) ((chD (dps l) v).take (i + 1)) = stpD S (runL S B l p (begD B (mkL l) v (lay p v)) ((chD (dps l) v).take i)) (stL S B l p ((chD (dps l) v).getD i 0)) := by
        rw [take_snoc ei]
        simp only [runL, runW, KW.run, List.foldl_append, List.foldl_cons, List.foldl_nil]
      generalize (chD (dps l) v).getD i 0 = ch at *
      have st_i := stW_in ok F hk hp (v := ch) (by omega)
      have run_i : 0 ≤ runL S B l p (begD B (mkL l) v (lay p v)) ((chD (dps l) v).take i) ∧ runL S B l p (begD B (mkL l) v (lay p v)) ((chD (dps l) v).take i) < S.length := run_i
      have st_i : 0 ≤ stL S B l p ch ∧ stL S B l p ch < S.length := st_i
      generalize runL S B l p (begD B (mkL l) v (lay p v)) ((chD (dps l) v).take i) = q at run_i esn
      have eS := atI_map (f := rowD) (getD_at (d := ([] : List Int)) (show q.toNat < S.length by omega))
      rw [show ((q.toNat : Nat) : Int) = q by omega] at eS
      walk_at "dw"
      refine d_ix (i := 3) (d := .tup (S.map rowD)) rfl rfl rfl ?_
      walk_at "dw"
      refine d_ix (i := q) rfl rfl eS ?_
      walk_at "dw"
      refine d_callR hx ?_
      walk_at "dw"
      refine ⟨_, _, rfl, ⟨l, N, B, tp, S, gd, M, ch, p, m, rfl, ok, h8, hf, hl, by omega, by omega, hL, hp, rfl⟩, ?_⟩
      refine d_ix (i := stL S B l p ch) (d := .int (stpD S q (stL S B l p ch))) rfl rfl ?_ ?_
      · exact atI_ints (by omega) (by have := (ok.sr _ (getD_mem (d := []) (show q.toNat < S.length by omega))).1; omega)
      walk_at "dw"
      rw [← esn]
      exact ⟨_, rfl⟩
    · rintro δ ⟨s7, rfl⟩
      rw [intL, List.length_map, List.take_length]
      walk_at "dw"
      have : stL S B l p v = runL S B l p (begD B (mkL l) v (lay p v)) (chD (dps l) v) := st_eq F (lay p) hvd
      rw [this]
      rfl
theorem cd_state (T : Txt K mg) : ∀ n, Cal P w K mg base (n + 0 + 1) "_law_state" (toSp (gb P w K) (spO K (soState n))) := T.d__law_state.rec_ sc__law_state 0 (fun n => len_spO fun ds out ⟨_, _, _, _, _, _, _, _, _, _, h, _⟩ => by rw [h]; rfl) (bd_state T)
end

end K67

set_option maxHeartbeats 4000000
/-! promises of defs that hold where no repr is under way. Own work over the hand layer. -/
namespace KB
open PySem PySem.Spec PyProof.Rows L2
/-- what FnOk promises, wherever nothing guards -/
structure FnG (P : Program) (w : World) (K : PySem.W.Frag) (mg : Str → Option Value) (base : Heap) (C : CXT) (k : Nat) (f : Addr) (fd : FuncData) (ps : List Str) (sp : Sp) : Prop where
  ln : ∀ vs H Q E, sp vs H Q E → vs.length = ps.length
  go : ∀ (A : Around) (o : List Env) (s : Shared) (H : Hp) (ar : Args) (us : List Value) (vs : List V) (Q : VK) (E : XK), A.guards = some [] → Room k A → Env0 P w K mg base A o s H →
    BindsTo s fd ar (ps.zip us) → Vals vs us → sp vs H Q E → codeAny (model P w) A (.call (.ref f) ar) (CR C o P w H s Q E) s
structure CalG (P : Program) (w : World) (K : PySem.W.Frag) (mg : Str → Option Value) (base : Heap) (k : Nat) (x : Str) (sp : Sp) : Prop where
  ex : ∃ (f : Addr) (fd : FuncData) (ps : List Str), mg x = some (.ref f) ∧ PySem.W.keepIn K (.ref f) = true ∧ Binds K fd ps [] ∧ FnG P w K mg base (L2.CX P w) k f fd ps sp
section
variable {X : Cx} {k j : Nat} {x : Str} {sp : Sp} {W : WX} {p pos : Pos} {e : Expr} {es : List Expr} {t : TA}
theorem pe_calG (c : CalG X.prog X.w X.K X.mg X.base k x sp) (hG : X.A.guards = some []) (hr : Room j X.A) (hk : k ≤ j) (tk : Takes X W) (ha : PA X (e :: es) t) (hg : Gl X x := by rfl)
    (hdb : (x == ("__debug__" : Str)) = false := by decide) (he : starEach (e :: es) X.env = (false, eval e X.env) :: starEach es X.env := by rfl)
    (hpl : (backTo pos (starEach es X.env)).any (·.1) = false := by rfl) :
    PE X (.Call (.Name x p) (e :: es) [] pos) (tCallS sp (WE W) t) := by
  obtain ⟨f, fd, ps, g1, g2, g3, F⟩ := c.ex
  refine ⟨fun pins s σ H Q I h => wpAny_Call_Name_kw (ld_glob I hg g1 ?_ hdb)⟩
  refine PySem.W.callWith_K (h₀ := X.base) I.ok.mod.kin g2 (thn (ha.run pos pins s σ H _ I h) ?_) he hpl
  rintro us s' ⟨vs, H', J, rv, q⟩
  refine ⟨J.kIn, ?_⟩
  have hl : us.length = ps.length := rv.length.symm.trans (F.ln _ _ _ _ q)
  have bb := g3 s' us J.kIn (by rw [List.append_nil]; exact hl)
  rw [List.append_nil] at bb
  refine wpAny_call (codeAny_mono (F.go X.A X.stack s' H' _ us vs Q (WE W σ) hG (hr.mono hk) J.env0 bb rv q) ?_)
  rintro (er | fl) s2 hq
  · exact passAt tk σ pins H' s' er s2 J hq
  · cases fl with
    | ret u => exact J.after hq
    | _ => exact hq.elim
end
section
variable {P : Program} {w : World} {K : PySem.W.Frag} {mg : Str → Option Value} {base : Heap}
def BodyG (P : Program) (w : World) (K : PySem.W.Frag) (mg : Str → Option Value) (base : Heap) (k : Nat) (N : List Str) (qual : Str) (sc : Scope) (body : List Stmt) (sp : Sp) : Prop :=
  ∀ (f : Addr) (cdv : Value) (A : Around) (outer : List Env) (s : Shared) (H : Hp) (vs : List V) (Q : VK) (E : XK), A.guards = some [] → Room k (A.deeper (envOfC qual sc s.heap.objs.size f cdv)) → sp vs H Q E →
    ∃ t, PSs (cxOf (L2.CX P w) P w K mg base N qual sc f cdv A outer s H E) body t ∧ t { nx := fun _ H' => Q .non H', rt := Q } (start N vs) H
theorem fnG_of {x qual : Str} {pr : Arguments} {body : List Stmt} {sc : Scope} {dvs : List V} {kws : List (Str × V)} {f : Addr} {fd : FuncData} {N ps : List Str} {k : Nat} {sp : Sp}
    (D : FunD K x qual pr body sc dvs kws f fd) (S : FnScope N ps sc) (len : ∀ vs H Q E, sp vs H Q E → vs.length = ps.length) (B : BodyG P w K mg base k N qual sc body sp) :
    FnG P w K mg base (L2.CX P w) (k + 1) f fd ps sp := by
  obtain ⟨oc, od, dV, kV, doc, pm, an, cdv, ct, osl, rfl, at_, hc, _, _⟩ := D.ex
  refine ⟨len, fun A o s H ar us vs Q E hG rm en bi rv h => ?_⟩
  have kin := en.mod.kin.keeps fun b u e => (en.bs b u e).1
  have kinds : ∀ y ∈ ps.zip us, sc.names.lookup y.1 = some .local ∨ (sc.names.lookup y.1 = some .cell ∧ ((cellsFrom (s.heap.objs.size + 1) sc.names []).lookup y.1).isSome = true) := by
    rintro ⟨nm, u⟩ hy
    rcases S.par nm (List.of_mem_zip hy).1 with z | z
    · exact Or.inl z
    · exact Or.inr ⟨z, PySem.W.cellsFrom_some _ _ _ (Or.inl z)⟩
  refine codeAny_call_function rm.depth (kin _ _ at_) rfl S.co S.gen rfl (PySem.W.codeRec_of kin hc) (bi _ _ _ _ ?_)
  refine wpAny_newFunctionEnv_cells S.kind kinds ?_
  rintro env rfl s' xx
  refine ⟨(en.mod.nolimit.keeps fun b u e => (en.bs b u e).1).keeps xx.toInCall.keep, codeAny_func ?_⟩
  obtain ⟨t, ht, q⟩ := B f cdv A o s H vs Q E hG (rm.deeper _) h
  have J0 : Inv (cxOf (L2.CX P w) P w K mg base N qual sc f cdv A o s H E) [] (start N vs) H s' := inv_start S rm.hd en (len _ _ _ _ h) rv xx
  refine wpAny_mono (ht.run [] s' _ H _ J0 q) ?_ fun er s2 z => z
  intro fl s2 z
  cases fl with
  | ret u =>
    obtain ⟨v, σ', H', J, g1, g2⟩ := z
    exact ⟨v, H', J.os, J.bare, J.base, J.hok, g1, g2⟩
  | next =>
    obtain ⟨σ', H', J, g2⟩ := z
    exact ⟨V.non, H', J.os, J.bare, J.base, J.hok, rfl, g2⟩
  | brk =>
    obtain ⟨_, _, _, y⟩ := z
    exact False.elim y
  | cont =>
    obtain ⟨_, _, _, y⟩ := z
    exact False.elim y
theorem DefT.calG {x : Str} {st : Stmt} {ps N : List Str} {k : Nat} {sp : Sp} (d : DefT K mg x st ps) (S : FnScope N ps (defScope st)) (len : ∀ vs H Q E, sp vs H Q E → vs.length = ps.length)
    (B : BodyG P w K mg base k N x (defScope st) (defBody st) sp) : CalG P w K mg base (k + 1) x sp :=
  let ⟨f, fd, _, _, F, g1, g2⟩ := d.ex
  ⟨f, fd, ps, g1, F.kp, g2, fnG_of F S len B⟩
end
/-- the law's call, as by law_call: nothing guards there -/
theorem callG {P : Program} {w : World} {K : PySem.W.Frag} {mg mb : Str → Option Value} {k n : Nat} {fa a : Addr} {fd : FuncData} {x : Str} {sp : Sp} {s1 : Shared} {vs : List Value} {ns : List Int}
    (KX : K.In s1.heap) (g1 : s1.heap.Ns mainGlobals mg) (g2 : s1.heap.Ns builtinsNs mb) (g3 : ∀ x : Str, x ≠ "__name__" → mb x = bootBuiltins x) (g4 : s1.heap.NoLimit) (g5 : s1.gens = #[])
    (ob : s1.heap.get? a = some { cls := .type "list", data := .seq vs.toArray }) (hi : IntsAre vs ns) (hl : ns.length ≤ sizeLine) (rm : Room k callerA)
    (F : ∀ base : Heap, K.In base → base.Ns mainGlobals mg → FnG P w K mg base (L2.CX P w) k fa fd [x] sp) (bi : ∀ (s : Shared) (u : Value), BindsTo s fd ⟨[u], []⟩ [(x, u)])
    (hs : ∀ H : Hp, L2.Only H → SqL K H a (ns.map V.int) → sp [.ref a] H (fun v _ => v = .bl true) fun _ _ _ => False) :
    codeAny (model P w) callerA (.call (.ref fa) ⟨[.ref a], []⟩) (fun r s' => r = .ok (.ret (.bool true)) ∧ OldK s1.heap s'.heap ∧ s'.os = s1.os ∧ AllBare s'.gens) s1 := by
  have rv := vals_ints hi
  have lv := hi.length
  -- what is tracked: the script alone, if it is no object of the module's
  have main : ∀ H : Hp, L2.Only H → (∀ b, H b ≠ none → b = a ∧ K.lookup a = none) → HOk P w H s1.heap → SqL K H a (ns.map V.int) →
      codeAny (model P w) callerA (.call (.ref fa) ⟨[.ref a], []⟩) (fun r s' => r = .ok (.ret (.bool true)) ∧ OldK s1.heap s'.heap ∧ s'.os = s1.os ∧ AllBare s'.gens) s1 := by
    intro H only tr hok sq
    have free : ∀ {b : Addr} {u : Obj}, s1.heap.get? b = some u → (∀ es ep, u.data ≠ .dict es ep) ∨ H b = none := by
      intro b u e
      by_cases z : H b = none
      · exact Or.inr z
      · obtain ⟨rfl, _⟩ := tr b z
        rw [ob] at e
        cases e
        exact Or.inl fun es ep q => by
          have q' : Data.seq vs.toArray _ = Data.dict es ep := q
          cases q'
    have nsk : ∀ {b : Addr} {m : Str → Option Value}, s1.heap.Ns b m → (hidT s1.heap H).Ns b m := by
      rintro b m ⟨u, es, ep, e1, e2, e3⟩
      rcases free e1 with z | z
      · exact absurd e2 (z es ep)
      · exact ⟨u, es, ep, hidT_get e1 z, e2, e3⟩
    have kin : K.In (hidT s1.heap H) := fun b u e => by
      refine hidT_get (KX b u e) ?_
      by_cases z : H b = none
      · exact z
      · obtain ⟨rfl, z2⟩ := tr b z
        rw [z2] at e
        cases e
    have md : Mod K mg (hidT s1.heap H) := ⟨kin, nsk g1, ⟨mb, nsk g2, g3⟩, let ⟨mc, h1, h2⟩ := g4; ⟨mc, nsk h1, h2⟩⟩
    have en : Env0 P w K mg (hidT s1.heap H) callerA [] s1 H :=
      ⟨rfl, md, fun b u e => of_hidT e, Nat.le_of_eq (hidT_size _ _), trivial, fun b hb => absurd (show b ∈ ([] : List Addr) from hb) List.not_mem_nil, hok, .of_eq g5⟩
    refine codeAny_mono ((F _ kin (nsk g1)).go callerA [] s1 H _ [.ref a] [.ref a] _ _ rfl rm en (bi s1 (.ref a)) (.cons rfl .nil) (hs H only sq)) ?_
    rintro (er | fl) s2 z
    · obtain ⟨_, _, _, _, _, _, _, _, _, _, _, _, y⟩ := z
      exact y.elim
    · cases fl with
      | ret u =>
        obtain ⟨v, H2, e1, e2, un, hok2, ru, q⟩ := z
        have q : v = .bl true := q
        subst q
        obtain rfl : u = Value.bool true := ru
        refine ⟨rfl, OldK.of_keep fun b u e => ?_, e1, e2⟩
        cases hb : H b with
        | none => exact un.keep b u e hb (fun z => absurd (show b ∈ ([] : List Addr) from z) List.not_mem_nil) List.not_mem_nil
        | some o =>
          rcases only b with z | ⟨u2, xs, z⟩
          · rw [hb] at z; cases z
          · obtain ⟨f1, _⟩ := hok b _ z
            obtain ⟨f2, _⟩ := hok2 b _ (un.frzs b u2 _ z)
            rw [e] at f1
            cases f1
            exact f2
      | _ => exact z.elim
  by_cases hk : K.lookup a = none
  · refine main (fun b => if b = a then some (.frz { cls := .type "list", data := .seq vs.toArray } (.lst (ns.map V.int))) else none) (fun b => ?_) (fun b z => ?_) (fun b u z => ?_) (Or.inl (Or.inr ⟨_, if_pos rfl⟩))
    · by_cases q : b = a
      · exact Or.inr ⟨_, _, if_pos q⟩
      · exact Or.inl (if_neg q)
    · by_cases q : b = a
      · exact ⟨q, hk⟩
      · exact absurd (if_neg q) z
    · by_cases q : b = a
      · have z := (if_pos q).symm.trans z
        cases z
        subst q
        exact ⟨ob, by rw [List.length_map]; exact hl, vs, _, rv, ob⟩
      · have z := (if_neg q).symm.trans z
        cases z
  · obtain ⟨o, e⟩ := Option.ne_none_iff_exists'.mp hk
    have e2 := KX a o e
    rw [ob] at e2
    cases e2
    exact main (fun _ => none) (fun _ => Or.inl rfl) (fun b z => absurd rfl z) (fun b u z => (nomatch z)) (Or.inr ⟨_, vs.toArray, _, e, rfl, rfl, rfl, by rw [List.size_toArray, lv]; exact hl, by simpa using rv⟩)
theorem walk_ofG {l : PySem.W.OpenLaw} {n k : Nat} {q : Program} {loose : List Str} {XP : (Str → Option Value) → Heap → Prop} {YP : World → Heap → Prop} {d : DefRec} {x : Str}
    (hn : l.most = some n) (hn2 : n ≤ sizeLine) (hdf : d.params.defaults = []) (hr : Room k callerA)
    (F : ∀ (w : World) (mg : Str → Option Value) (fa : Addr) (h : Heap), YP w h → h.Ns mainGlobals mg → mg d.name = some (.ref fa) →
      ∃ (K : PySem.W.Frag) (fd : FuncData) (sp : Sp), K.In h ∧ (∀ (s : Shared) (u : Value), BindsTo s fd ⟨[u], []⟩ [(x, u)]) ∧
        (∀ (H : Hp) (a : Addr) (ns : List Int), ns.length ≤ n → (∀ z ∈ ns, Builtin.Int.intBits z ≤ 1048576) → L2.Only H → SqL K H a (ns.map V.int) → sp [.ref a] H (fun v _ => v = .bl true) fun _ _ _ => False) ∧
        ∀ base : Heap, K.In base → base.Ns mainGlobals mg → FnG l.prog w K mg base (L2.CX l.prog w) k fa fd [x] sp) :
    PySem.W.WalkO q loose XP YP l.row.toRowW d [] (fun f vs => PySem.call f vs) :=
  Att.attach_callB hn hdf fun w s0 s1 mg mb fa o pm cd doc a vs ns G Y _ _ _ hmg hobj hints hlen hbits hg =>
    let ⟨_, _, _, KX, hb, hsp, hF⟩ := F w mg fa _ Y G.T.g hmg
    callG (n := n) KX G.T.g G.T.b G.T.builtins G.T.nolimit hg hobj hints (Nat.le_trans hlen hn2) hr hF hb fun H hO hS => hsp H a ns hlen hbits hO hS
end KB

set_option maxHeartbeats 4000000
namespace K67
open PySem PySem.Spec PyProof.Rows L2 KB KM
open KD hiding Dp
section
open KW
variable {P : Program} {w : World} {K : PySem.W.Frag} {mg : Str → Option Value} {base : Heap}
/-! ### what is due of a row -/
def keyQ (k : Int × Int × Int) : List Key := [.inl k.1, .inl k.2.1, .inl k.2.2]
theorem keyQ_inj (a b : Int × Int × Int) (h : keyQ a = keyQ b) : a = b := by
  simp only [keyQ, List.cons.injEq, Sum.inl.injEq, and_true] at h
  exact Prod.ext h.1 (Prod.ext h.2.1 h.2.2)
def tabQ (m : List ((Int × Int × Int) × Int)) : List (List Key × D) := m.map fun p => (keyQ p.1, .int p.2)
theorem tabQ_val (m : List ((Int × Int × Int) × Int)) (k : Int × Int × Int) : (valD (tabQ m) (keyQ k)).getD (.int 0) = .int ((valA m k).getD 0) := by
  rw [tabQ, valA_d keyQ keyQ_inj D.int]
  cases valA m k <;> rfl
theorem tabQ_put {m : List ((Int × Int × Int) × Int)} (nd : (m.map (·.1)).Nodup) (k : Int × Int × Int) (v : Int) : putD (tabQ m) (keyQ k) (.int v) = tabQ (putA m k v) := putA_d keyQ keyQ_inj D.int m nd k v
theorem pyL_ints : ∀ l : List Nat, pyL (intL l) = some (l.map fun n => PyData.int (n : Nat))
  | [] => rfl
  | x :: r => by
    have := pyL_ints r
    unfold intL at this ⊢
    simp only [List.map_cons, pyL, pyD, this]
theorem pyD_ints (l : List Nat) : pyD (.lst (intL l)) = some (.list (l.map fun n => PyData.int (n : Nat))) := by
  simp only [pyD, pyL_ints]
  rfl
theorem shaped_ints (l : List Nat) : SeqAt.shaped (.list (l.map fun n => PyData.int (n : Nat))) = true := by
  have h1 : ∀ l : List Nat, PyData.canLayAll0 (l.map fun n => PyData.int (n : Nat)) = true := by
    intro l
    induction l with
    | nil => rfl
    | cons x r ih => simp only [List.map_cons, PyData.canLayAll0, PyData.canLay0, ih, Bool.and_self]
  have h2 : ∀ l : List Nat, PyData.depthAll (l.map fun n => PyData.int (n : Nat)) = 0 := by
    intro l
    induction l with
    | nil => rfl
    | cons x r ih => simp only [List.map_cons, PyData.depthAll, PyData.depth, ih]; rfl
  simp only [SeqAt.shaped, PyData.canLay0, h1, PyData.depth, h2, Bool.true_and]
  decide
theorem eqv_nil (l : List Nat) : PyData.eqv (.list (l.map fun n => PyData.int (n : Nat))) (.list []) = decide (l = []) := by
  cases l with
  | nil => rfl
  | cons x r => rfl
theorem stretch_itv (a b : Nat) : (List.range (((b : Nat) : Int) - ((a : Nat) : Int)).toNat).map (fun i : Nat => D.int (((a : Nat) : Int) + (i : Nat))) = intL (itv a b) := by
  rw [show (((b : Nat) : Int) - ((a : Nat) : Int)).toNat = b - a by omega, intL, itv, List.range'_eq_map_range, List.map_map]
  rfl
/-- a stretch of children -/
structure RowOk (l : List (Str × Nat)) (r : List Nat) : Prop where
  lt : ∀ c ∈ r, c < l.length
theorem foldl_addSG_app {κ : Type} [DecidableEq κ] (a b : List (κ × Int)) : addedG (a ++ b) = b.foldl addSG (addedG a) := by rw [addedG, List.foldl_append]; rfl
theorem nodesR_len {l : List (Str × Nat)} {r : List Nat} (h : RowOk l r) : (nodesR (dps l) r).length ≤ l.length := by
  unfold nodesR
  split
  · simp
  · rename_i z
    rw [List.length_range']
    have hne : 0 < r.length := List.length_pos_iff.mpr z
    have m2 := h.lt _ (getD_mem (d := 0) (show r.length - 1 < r.length by omega))
    have := (enD_is (ds := dps l) (v := r.getD (r.length - 1) 0) (by rw [fo_len]; exact m2)).hi
    rw [fo_len] at this
    omega
end

end K67

set_option maxHeartbeats 4000000
namespace K67
open PySem PySem.Spec PyProof.Rows L2 KB KM
open KD hiding Dp
section
open KW
variable {P : Program} {w : World} {K : PySem.W.Frag} {mg : Str → Option Value} {base : Heap}
def soDue (ds : List D) (out : Out) : Prop := ∃ (l : List (Str × Nat)) (N : List Str) (B : List (List Int)) (tp : Int) (S : List (List Int)) (gd : List Int) (M : Nat) (r : List Nat),
  ds = [machD N B tp S gd, .tup (docL l), .lst (chL l), .lst (intL r)] ∧ MOk S B M ∧ N.length = M ∧ M8 l ∧ Fo 0 (dps l) ∧ l.length ≤ 40 ∧ RowOk l r ∧ r.length ≤ 40 ∧ S.length * (l.length + 1) ^ M ≤ 300000 ∧
  out = .ret (.tup ((srt ((rowDue S B l M r).map quad)).map tiD))
abbrev s__law_due : Stmt := (top 56)
theorem sc__law_due : FnScope ["machine", "document", "children", "row", "nodes", "sums", "places", "laid", "total", "states", "child", "start", "state", "key", "number"] ["machine", "document", "children", "row"] (defScope s__law_due) := ⟨rfl, rfl, rfl, by decide +kernel, rfl, by decide +kernel, by decide +kernel⟩
theorem bd_due (T : Txt K mg) (C__law_end : Cal P w K mg base 1 "_law_end" (toSp (gb P w K) (spO K soEnd))) (C__law_layings : Cal P w K mg base 1 "_law_layings" (toSp (gb P w K) (spO K soLayings)))
    (C__law_laid : Cal P w K mg base 1 "_law_laid" (toSp (gb P w K) (spN soLaid))) (C__law_state : Cal P w K mg base 41 "_law_state" (toSp (gb P w K) (spO K (soState 40)))) : Body P w K mg base (41) ["machine", "document", "children", "row", "nodes", "sums", "places", "laid", "total", "states", "child", "start", "state", "key", "number"] "_law_due" (defScope s__law_due) (defBody s__law_due) (toSp (gb P w K) (spO K soDue)) := by
  intro f cdv A outer s H vs Q E hr h
  have hu := hu_of hr
  have tk : Takes (cxOf (L2.CX P w) P w K mg base ["machine", "document", "children", "row", "nodes", "sums", "places", "laid", "total", "states", "child", "start", "state", "key", "number"] "_law_due" (defScope s__law_due) f cdv A outer s H E) (WF E) := takes_of rfl rfl rfl rfl
  refine ⟨_, (Evl.pss_cut (ps_set (i := 4) sc__law_due.nd rfl (Or.inl rfl) (pe_ifExp (pt_cmpR (op_eqD hr.units) (pv 3) (pe_lst pa_nil) (nomark _)) (pe_lst pa_nil) (pe_listRg rfl (by rfl) T.g_list (prg_2 (by rfl) T.g_range (pe_ix ix_seq (pv 3) pe_int (fun _ _ => rfl)) (pe_cal C__law_end hr (by omega) tk (pa_cons (pv 1) (pa_cons (pe_ix ix_seq (pv 3) (pe_un un_neg pe_int) (fun _ _ => rfl)) pa_nil)))))))
    (pss_cons (ps_setO (i := 5) sc__law_due.nd rfl (Or.inl rfl) pe_dnewT)
    (pss_cons (ps_for (passes_of rfl) rfl (pi_list (pe_cal C__law_layings hr (by omega) tk (pa_cons (pv 4) (pa_cons (pe_callB call_lenK (by rfl) T.g_len (by decide +kernel) (pa_cons (pe_ix ix_seq (pv 0) pe_int (fun _ _ => rfl)) pa_nil)) pa_nil)))) (pg_name (i := 6) sc__law_due.nd rfl (Or.inl rfl)) (pss_cons (ps_asg (pe_cal C__law_laid hr (by omega) tk (pa_cons (pv 6) pa_nil)) (pg_tup (n := 2) (by rfl) (pgs_cons (pg_name (i := 7) sc__law_due.nd rfl (Or.inr rfl)) (pgs_cons (pg_name (i := 8) sc__law_due.nd rfl (Or.inl rfl)) pgs_nil))))
    (pss_cons (ps_setLc (i := 9) (own := [("child", 10)]) (g := (gName 10)) (by rfl) sc__law_due.nd rfl rfl (sw_true rfl rfl rfl (by decide +kernel)) (pi_list (pv 3)) (blkOk_by (own := [("child", 10)]) (N := ["machine", "document", "children", "row", "nodes", "sums", "places", "laid", "total", "states", "child", "start", "state", "key", "number"]) (sc := defScope s__law_due) (by decide +kernel)) (fun _ _ _ _ _ => (pg_name (i := 10) sc__law_due.nd rfl (Or.inl rfl))) (fun _ _ _ _ _ => pts_nil) (fun _ _ _ _ _ => (pe_cal C__law_state hr (by omega) takesN (pa_cons (pv 0) (pa_cons (pv 1) (pa_cons (pv 2) (pa_cons (pv 7) (pa_cons (pv 10) pa_nil))))))))
    (pss_one (ps_for (passes_of rfl) rfl (pi_range1 rfl T.g_range (pa_cons (pe_callB call_lenK (by rfl) T.g_len (by decide +kernel) (pa_cons (pe_ix ix_seq (pv 0) pe_int (fun _ _ => rfl)) pa_nil)) pa_nil)) (pg_name (i := 11) sc__law_due.nd rfl (Or.inl rfl)) (pss_cons (ps_set (i := 12) sc__law_due.nd rfl (Or.inl rfl) (pv 11))
    (pss_cons (ps_for (passes_of rfl) rfl (pi_list (pv 9)) (pg_name (i := 10) sc__law_due.nd rfl (Or.inl rfl)) (pss_one (ps_set (i := 12) sc__law_due.nd rfl (Or.inl rfl) (pe_ix ix_seq (pe_ix ix_seq (pe_ix ix_seq (pv 0) pe_int (fun _ _ => rfl)) (pv 12) (fun _ _ => rfl)) (pv 10) (fun _ _ => rfl)))))
    (pss_cons (ps_set (i := 13) sc__law_due.nd rfl (Or.inl rfl) (pe_tup (pa_cons (pv 11) (pa_cons (pv 12) (pa_cons (pv 8) pa_nil)))))
    (pss_one (ps_tput hu (pv 5) (pv 13) (pe_op op_add (pe_tget2 hu (pv 5) (pv 13) pe_int ⟨by rfl, by rfl, by rfl, by rfl⟩) pe_int) rfl))))))))))
    (pss_one (ps_ret (pe_callTy call_tupD (by rfl) T.g_tuple (by decide +kernel) (pa_cons (pe_callB cr_sortTI (by rfl) T.g_sorted (by decide +kernel) (pa_cons (pe_lock (pe_lc (own := [("key", 13), ("number", 14)]) (g := (gTup K 2 (gCons (gName 13) (gCons (gName 14) gNil)))) (by rfl) sc__law_due.nd  (pi_itemsT (pv 5)) (blkOk_by (own := [("key", 13), ("number", 14)]) (N := ["machine", "document", "children", "row", "nodes", "sums", "places", "laid", "total", "states", "child", "start", "state", "key", "number"]) (sc := defScope s__law_due) (by decide +kernel)) (fun _ _ _ _ _ => (pg_tup (n := 2) (by rfl) (pgs_cons (pg_name (i := 13) sc__law_due.nd rfl (Or.inl rfl)) (pgs_cons (pg_name (i := 14) sc__law_due.nd rfl (Or.inl rfl)) pgs_nil)))) (fun _ _ _ _ _ => pts_nil) (fun _ _ _ _ _ => (pe_op (op_catAK (K := K) rfl) (pv 13) (pe_tup (pa_cons (pv 14) pa_nil)))))) pa_nil)) pa_nil))))))), ?_⟩
  try dsimp only [cxOf]
  refine d_startO h fun ds out hS c hx hM => ?_
  obtain ⟨l, N, B, tp, S, gd, M, r, rfl, ok, nm, h8, hf, hl, hr_, hrl, hb, rfl⟩ := hS
  have hz : (1000000 : Nat) < sizeLine := by decide
  have s1 := ok.s1
  have s2 := ok.s2
  have ld := fo_len l
  have F := frs_of hf
  have hk : ∀ v, v < (dps l).length → mkL l v < 8 := fun v hv => (h8.occ (by omega)).2
  have nlen := nodesR_len hr_
  have hb1 : (l.length + 1) ^ M ≤ 300000 := Nat.le_trans (Nat.le_mul_of_pos_left _ (by omega)) hb
  have hb2 : ((nodesR (dps l) r).length + 1) ^ M ≤ 300000 := Nat.le_trans (Nat.pow_le_pow_left (by omega) M) hb1
  have llen : (lays (nodesR (dps l) r) M).length ≤ (l.length + 1) ^ M := by rw [lays_len]; exact Nat.pow_le_pow_left (by omega) M
  refine d_st (δ' := [.fz (machD N B tp S gd), .fz (.tup (docL l)), .fz (.lst (chL l)), .fz (.lst (intL r)), .no, .no, .no, .no, .no, .no, .no, .no, .no, .no, .no]) (by rfl) ?_
  walk_at "dw"
  refine d_cut (fun δ => δ = [.fz (machD N B tp S gd), .fz (.tup (docL l)), .fz (.lst (chL l)), .fz (.lst (intL r)), .fz (.lst (intL (nodesR (dps l) r))), .no, .no, .no, .no, .no, .no, .no, .no, .no, .no]) ?_ ?_
  · walk_at "dw"
    intro a0
    refine d_eqD (p := .list (r.map fun n => PyData.int (n : Nat))) (p' := .list []) rfl rfl (pyD_ints r) rfl (shaped_ints r) (by decide) ?_
    rw [eqv_nil]
    walk_at "dw"
    refine i_dec (fun z => ?_) (fun z => ?_)
    · walk_at "dw"
      intro a1
      walk_at "dw"
      rw [z]
      rfl
    · have hpos : 0 < r.length := List.length_pos_iff.mpr z
      have m1 := hr_.lt _ (getD_mem (d := 0) hpos)
      have m2 := hr_.lt _ (getD_mem (d := 0) (show r.length - 1 < r.length by omega))
      have E := enD_is (ds := dps l) (v := r.getD (r.length - 1) 0) (by omega)
      have at1 : atI (intL r) 0 = some (.int (r.getD 0 0 : Nat)) := atI_map (f := fun n : Nat => D.int n) (getD_at (d := 0) hpos)
      have at2 : atI (intL r) (-1) = some (.int (r.getD (r.length - 1) 0 : Nat)) := by
        unfold atI ixN
        have e : (intL r).length = r.length := List.length_map ..
        rw [e, if_neg (by decide), if_pos (by omega)]
        show (intL r)[((-1 : Int) + (r.length : Nat)).toNat]? = _
        rw [show ((-1 : Int) + (r.length : Nat)).toNat = r.length - 1 by omega, intL, List.getElem?_map, getD_at (d := 0) (by omega)]
        rfl
      walk_at "dw"
      refine d_ix (i := 0) rfl rfl at1 ?_
      walk_at "dw"
      refine d_callR hx ?_
      walk_at "dw"
      refine d_ix (i := -1) rfl rfl at2 ?_
      walk_at "dw"
      refine ⟨_, _, rfl, ⟨l, _, _, rfl, m2, by omega, E, rfl⟩, ?_⟩
      have hi := E.hi
      refine ⟨_, _, rfl, rfl, RgOk.of_le (by omega) (by omega) (by omega) (by omega), fun a1 => ?_⟩
      rw [stretch_itv]
      walk_at "dw"
      have : nodesR (dps l) r = itv (r.getD 0 0) (enD (dps l) (r.getD (r.length - 1) 0)) := by unfold nodesR; rw [if_neg z]
      rw [this]
      rfl
  rintro δ rfl
  walk_at "dw"
  refine d_dnewT (fun σ H Q h => h) fun a2 => ?_
  walk_at "dw"
  refine d_for ?_
  walk_at "dw"
  refine d_callR hx ?_
  walk_at "dw"
  refine d_ix (i := 0) (d := .tup (N.map D.str)) rfl rfl rfl ?_
  walk_at "dw"
  rw [List.length_map, nm]
  refine ⟨_, _, rfl, ⟨nodesR (dps l) r, M, rfl, ok.hm, by omega, by omega, rfl⟩, ?_⟩
  refine ⟨_, rfl, ?_⟩
  generalize hX : nodesR (dps l) r = X at *
  let YS (j : Nat) : List ((Int × Int × Int) × Int) := (((lays X M).take j).flatMap fun p => (List.range S.length).map fun q => ((((q : Nat) : Int), runL S B l p q r, (mask p : Int)), (1 : Int)))
  have ysLen : ∀ j, (YS j).length ≤ 300000 := fun j => by
    have key : ∀ L : List (List (Option Nat)), (L.flatMap fun p => (List.range S.length).map fun q => ((((q : Nat) : Int), runL S B l p q r, (mask p : Int)), (1 : Int))).length = L.length * S.length := by
      intro L
      induction L with
      | nil => simp
      | cons x L ih => rw [List.flatMap_cons, List.length_append, ih, List.length_map, List.length_range, List.length_cons, Nat.succ_mul, Nat.add_comm]
    show (((lays X M).take j).flatMap _).length ≤ _
    rw [key]
    refine Nat.le_trans (Nat.mul_le_mul_right _ (by rw [List.length_take]; exact Nat.min_le_right _ _)) ?_
    rw [Nat.mul_comm]
    exact Nat.le_trans (Nat.mul_le_mul_left _ llen) hb
  refine ⟨fun j δ => ∃ s6 s7 s8 s9 s10 s11 s12 s13, Fzs s10 ∧ Fzs s13 ∧ δ = [.fz (machD N B tp S gd), .fz (.tup (docL l)), .fz (.lst (chL l)), .fz (.lst (intL r)), .fz (.lst (intL X)), .ow (.dt a2 (tabQ (addedG (YS j)))), s6, s7, s8, s9, s10, s11, s12, s13, .no],
    ⟨_, _, _, _, _, _, _, _, .inl rfl, .inl rfl, rfl⟩, fun _ _ _ => trivial, ?_, ?_⟩
  · rintro j δ hj ⟨s6, s7, s8, s9, s10, s11, s12, s13, f10, f13, rfl⟩
    rw [List.length_map] at hj
    have ep : ((lays X M).map layD).getD j .non = layD ((lays X M).getD j []) := by
      rw [List.getD_eq_getElem?_getD, List.getElem?_map, getD_at (d := []) hj]; rfl
    have eg : (lays X M)[j]? = some ((lays X M).getD j []) := getD_at hj
    have hp := (lays_mem (List.mem_of_getElem? eg)).1
    have ysn : YS (j + 1) = YS j ++ (List.range S.length).map fun q => ((((q : Nat) : Int), runL S B l ((lays X M).getD j []) q r, (mask ((lays X M).getD j []) : Int)), (1 : Int)) := by
      show ((lays X M).take (j + 1)).flatMap _ = _
      rw [take_snoc eg, List.flatMap_append]
      simp [YS]
    dsimp only
    rw [ep]
    generalize (lays X M).getD j [] = p at hp ysn
    walk_at "dw"
    refine d_callN hx ?_
    walk_at "dw"
    refine ⟨_, _, rfl, ⟨p, rfl, by rw [hp]; exact ok.hm, rfl⟩, ?_⟩
    rintro x ⟨m, rfl, hL⟩
    walk_at "dw"
    refine d_lcP (only_name (by decide)) ?_
    walk_at "dw"
    have rl : (intL r).length = r.length := List.length_map ..
    refine ⟨by omega, trivial, ?_, fun i => .int (stL S B l p (r.getD i 0)), fun c2 i hi => ?_, fun a3 => ?_⟩
    · rcases f10 with rfl | ⟨_, rfl⟩ <;> rfl
    · rw [rl] at hi
      have er : (intL r).getD i .non = .int (r.getD i 0 : Nat) := by
        rw [List.getD_eq_getElem?_getD, intL, List.getElem?_map, getD_at (d := 0) hi]; rfl
      dsimp only
      rw [er]
      have hlt := hr_.lt _ (getD_mem (d := 0) hi)
      walk_at "dw"
      refine d_callR (ok0 c2) ?_
      walk_at "dw"
      refine ⟨_, _, rfl, ⟨l, N, B, tp, S, gd, M, r.getD i 0, p, m, rfl, ok, h8, hf, by omega, hlt, by omega, hL, hp, rfl⟩, ?_⟩
      exact ⟨rfl, rfl⟩
    rw [rl]
    walk_at "dw"
    refine d_for ?_
    walk_at "dw"
    refine d_ix (i := 3) (d := .tup (S.map rowD)) rfl rfl rfl ?_
    walk_at "dw"
    rw [List.length_map]
    refine ⟨_, rfl, by omega, by omega, ?_⟩
    refine ⟨fun q δ => ∃ s10 s11 s12 s13, Fzs s10 ∧ Fzs s13 ∧ δ = [.fz (machD N B tp S gd), .fz (.tup (docL l)), .fz (.lst (chL l)), .fz (.lst (intL r)), .fz (.lst (intL X)), .ow (.dt a2 (tabQ (addedG (YS j ++ (List.range q).map fun q => ((((q : Nat) : Int), runL S B l p q r, (mask p : Int)), (1 : Int)))))), .fz (layD p), .fz (.dk m), .fz (.int (mask p)), .fz (.lst ((List.range r.length).map fun i => .int (stL S B l p (r.getD i 0)))), s10, s11, s12, s13, .no],
      ⟨s10, s11, s12, s13, f10, f13, by rw [List.range_zero, List.map_nil, List.append_nil]; rfl⟩, fun _ _ _ => trivial, ?_, ?_⟩
    · rintro q δ hq ⟨s10, s11, s12, s13, f10, f13, rfl⟩
      rw [Int.toNat_natCast] at hq
      dsimp only
      rw [Int.zero_add]
      walk_at "dw"
      refine d_for ?_
      walk_at "dw"
      refine ⟨fun i δ => ∃ s10, Fzs s10 ∧ δ = [.fz (machD N B tp S gd), .fz (.tup (docL l)), .fz (.lst (chL l)), .fz (.lst (intL r)), .fz (.lst (intL X)), .ow (.dt a2 (tabQ (addedG (YS j ++ (List.range q).map fun q => ((((q : Nat) : Int), runL S B l p q r, (mask p : Int)), (1 : Int)))))), .fz (layD p), .fz (.dk m), .fz (.int (mask p)), .fz (.lst ((List.range r.length).map fun i => .int (stL S B l p (r.getD i 0)))), s10, .fz (.int q), .fz (.int (runL S B l p q (r.take i))), s13, .no],
        ⟨s10, f10, rfl⟩, fun _ _ _ => trivial, ?_, ?_⟩
      · rintro i δ hi ⟨s10, f10, rfl⟩
        rw [List.length_map, List.length_range] at hi
        have ei : r[i]? = some (r.getD i 0) := getD_at hi
        have eg2 : ((List.range r.length).map fun i => D.int (stL S B l p (r.getD i 0))).getD i .non = .int (stL S B l p (r.getD i 0)) := by
          rw [List.getD_eq_getElem?_getD, List.getElem?_map, List.getElem?_range hi]; rfl
        dsimp only
        rw [eg2]
        have hlt := hr_.lt _ (getD_mem (d := 0) hi)
        have run_i : 0 ≤ runL S B l p q (r.take i) ∧ runL S B l p q (r.take i) < S.length := runW_in ok F hk hp (q := (q : Int)) (by omega) (r := r.take i) fun c hc => by
          have := hr_.lt c (List.mem_of_mem_take hc)
          omega
        have st_i : 0 ≤ stL S B l p (r.getD i 0) ∧ stL S B l p (r.getD i 0) < S.length := stW_in ok F hk hp (v := r.getD i 0) (by omega)
        have esn : runL S B l p q (r.take (i + 1)) = stpD S (runL S B l p q (r.take i)) (stL S B l p (r.getD i 0)) := by
          rw [take_snoc ei]
          simp only [runL, runW, KW.run, List.foldl_append, List.foldl_cons, List.foldl_nil]
        rw [esn]
        generalize runL S B l p q (r.take i) = u at run_i ⊢
        generalize stL S B l p (r.getD i 0) = t at st_i ⊢
        have eS := atI_map (f := rowD) (getD_at (d := ([] : List Int)) (show u.toNat < S.length by omega))
        rw [show ((u.toNat : Nat) : Int) = u by omega] at eS
        walk_at "dw"
        refine d_ix (i := 3) (d := .tup (S.map rowD)) rfl rfl rfl ?_
        walk_at "dw"
        refine d_ix (i := u) rfl rfl eS ?_
        walk_at "dw"
        refine d_ix (i := t) (d := .int (stpD S u t)) rfl rfl ?_ ?_
        · exact atI_ints (by omega) (by have := (ok.sr _ (getD_mem (d := []) (show u.toNat < S.length by omega))).1; omega)
        walk_at "dw"
        exact ⟨_, .inr ⟨_, rfl⟩, rfl⟩
      · rintro δ ⟨s10, f10, rfl⟩
        rw [List.length_map, List.length_range, List.take_length]
        have hadd : (addedG (YS j ++ (List.range q).map fun q => ((((q : Nat) : Int), runL S B l p q r, (mask p : Int)), (1 : Int)))).length < sizeLine := by
          have h1 := addedG_len (YS j ++ (List.range q).map fun q => ((((q : Nat) : Int), runL S B l p q r, (mask p : Int)), (1 : Int)))
          have h2 := ysLen j
          rw [List.length_append, List.length_map, List.length_range] at h1
          omega
        have hnd := addedG_nd (YS j ++ (List.range q).map fun q => ((((q : Nat) : Int), runL S B l p q r, (mask p : Int)), (1 : Int)))
        have esn2 : addedG (YS j ++ (List.range (q + 1)).map fun q => ((((q : Nat) : Int), runL S B l p q r, (mask p : Int)), (1 : Int))) = addSG (addedG (YS j ++ (List.range q).map fun q => ((((q : Nat) : Int), runL S B l p q r, (mask p : Int)), (1 : Int)))) ((((q : Nat) : Int), runL S B l p q r, (mask p : Int)), (1 : Int)) := by
          rw [List.range_succ, List.map_append, ← List.append_assoc, List.map_singleton, addedG_snoc]
        generalize addedG (YS j ++ (List.range q).map fun q => ((((q : Nat) : Int), runL S B l p q r, (mask p : Int)), (1 : Int))) = tab at hadd hnd esn2 ⊢
        walk_at "dw"
        refine ⟨⟨_, rfl⟩, ?_⟩
        walk_at "dw"
        refine ⟨_, _, keyQ ((q : Int), runL S B l p q r, (mask p : Int)), _, rfl, rfl, rfl, rfl, ?_⟩
        rw [tabQ_val]
        walk_at "dw"
        refine ⟨5, a2, _, _, keyQ ((q : Int), runL S B l p q r, (mask p : Int)), _, rfl, rfl, rfl, rfl, rfl, by rw [tabQ, List.length_map]; exact hadd, ?_⟩
        rw [tabQ_put hnd]
        rw [esn2]
        exact ⟨_, _, _, _, f10, .inr ⟨_, rfl⟩, rfl⟩
    · rintro δ ⟨s10, s11, s12, s13, f10, f13, rfl⟩
      rw [Int.toNat_natCast, ← ysn]
      exact ⟨_, _, _, _, _, _, _, _, f10, f13, rfl⟩
  · rintro δ ⟨s6, s7, s8, s9, s10, s11, s12, s13, f10, f13, rfl⟩
    rw [List.length_map]
    have eY : addedG (YS (lays X M).length) = rowDue S B l M r := by
      show addedG (((lays X M).take _).flatMap _) = _
      rw [List.take_length, rowDue, hX, rowY, List.map_flatMap]
      refine congrArg addedG (congrArg (fun h => (lays X M).flatMap h) (funext fun p => ?_))
      rw [List.map_map]
      rfl
    rw [eY]
    have hl2 : (rowDue S B l M r).length ≤ 300000 := by rw [← eY]; exact Nat.le_trans (addedG_len _) (ysLen _)
    generalize rowDue S B l M r = due at hl2 ⊢
    walk_at "dw"
    refine d_lock (i := 5) rfl fun c' od kvs h0 hm hk2 => ?_
    refine d_lcP (only_tup (only_cons (only_name (by decide)) (only_cons (only_name (by decide)) only_nil))) ?_
    refine d_iItemsT rfl h0 hm hk2 ?_
    refine ⟨by rw [tabQ, List.length_map]; omega, trivial, ?_, fun j => tiD (quad (due.getD j ((0, 0, 0), 0))), fun c2 j hj => ?_, fun p => ?_⟩
    · rcases f13 with rfl | ⟨d, rfl⟩ <;> rfl
    · rw [tabQ, List.length_map] at hj
      have e : itD (tabQ due) j = .tup [.tup [.int (due.getD j ((0, 0, 0), 0)).1.1, .int (due.getD j ((0, 0, 0), 0)).1.2.1, .int (due.getD j ((0, 0, 0), 0)).1.2.2], .int (due.getD j ((0, 0, 0), 0)).2] := by
        have : (tabQ due).getD j ([], .non) = (keyQ (due.getD j ((0, 0, 0), 0)).1, .int (due.getD j ((0, 0, 0), 0)).2) := by
          rw [List.getD_eq_getElem?_getD, tabQ, List.getElem?_map, getD_at (d := ((0, 0, 0), 0)) hj]; rfl
        rw [itD, this]
        rfl
      rw [e]
      dsimp only
      generalize due.getD j ((0, 0, 0), 0) = p
      walk_at "dw"
      refine d_catA (ds := [.int p.1.1, .int p.1.2.1, .int p.1.2.2]) (es := [.int p.2]) rfl rfl rfl (by simp; omega) ?_
      exact ⟨rfl, rfl⟩
    · have e2 : ((List.range (tabQ due).length).map fun j => tiD (quad (due.getD j ((0, 0, 0), 0)))) = (due.map quad).map tiD := by
        rw [tabQ, List.length_map, range_getD due ((0, 0, 0), 0) fun q => tiD (quad q), List.map_map]
        rfl
      rw [e2]
      refine ⟨rfl, p, _, rfl, ?_⟩
      walk_at "dw"
      refine d_sortTI (ts := due.map quad) (n := 4) rfl rfl rfl (by decide) (fun t ht => ?_) fun p ts' hp hs => ?_
      · obtain ⟨q, _, rfl⟩ := List.mem_map.mp ht
        rfl
      walk_at "dw"
      rw [← srt_eq hp hs]
      rfl
theorem cd_due (T : Txt K mg) : Cal P w K mg base 42 "_law_due" (toSp (gb P w K) (spO K soDue)) := T.d__law_due.cal sc__law_due (len_spO fun ds out ⟨_, _, _, _, _, _, _, _, h, _⟩ => by rw [h]; rfl) (bd_due T (cd_law_end T) (cd_layings T) (cd_laid T) (cd_state T 40))
end

end K67

set_option maxHeartbeats 4000000
namespace K67
open PySem PySem.Spec PyProof.Rows L2 KB KM
open KD hiding Dp
section
open KW
variable {P : Program} {w : World} {K : PySem.W.Frag} {mg : Str → Option Value} {base : Heap}
/-! ### texts of tables -/
def tiP (t : List Int) : PyData := .tuple (t.map PyData.int)
def rp (ts : List (List Int)) : PyData := .tuple (ts.map tiP)
def rep (ts : List (List Int)) : Str := (rp ts).shown
def SmallT (ts : List (List Int)) : Prop := ts.length ≤ 300000 ∧ ∀ t ∈ ts, t.length ≤ 4 ∧ ∀ x ∈ t, 0 ≤ x ∧ x < 1000000
theorem pyL_tis : ∀ t : List Int, pyL (t.map D.int) = some (t.map PyData.int)
  | [] => rfl
  | x :: r => by simp only [List.map_cons, pyL, pyD, pyL_tis r]
theorem pyD_ti (t : List Int) : pyD (tiD t) = some (tiP t) := by
  unfold tiD tiP
  simp only [pyD, pyL_tis]
  rfl
theorem pyD_rp (ts : List (List Int)) : pyD (.tup (ts.map tiD)) = some (rp ts) := by
  have : pyL (ts.map tiD) = some (ts.map tiP) := by
    induction ts with
    | nil => rfl
    | cons t r ih => simp only [List.map_cons, pyL, pyD_ti, ih]
  unfold rp
  simp only [pyD, this]
  rfl
theorem showable_ints : ∀ t : List Int, (∀ x ∈ t, 0 ≤ x ∧ x < 1000000) → PyData.showableAll (t.map PyData.int) = true
  | [], _ => rfl
  | x :: r, h => by
    have hx := h x List.mem_cons_self
    simp only [List.map_cons, PyData.showableAll, PyData.showable, Bool.and_eq_true, decide_eq_true_eq]
    refine ⟨?_, showable_ints r fun y hy => h y (List.mem_cons_of_mem _ hy)⟩
    by_cases z : x.natAbs = 0
    · rw [z]; decide
    · exact Nat.lt_trans ((Nat.log2_lt (k := 20) z).mpr (by omega)) (by decide)
theorem nodict_ints : ∀ t : List Int, PyData.hasDictAll (t.map PyData.int) = false
  | [] => rfl
  | x :: r => by simp only [List.map_cons, PyData.hasDictAll, PyData.hasDict, nodict_ints r, Bool.or_self]
theorem depth_ints : ∀ t : List Int, PyData.depthAll (t.map PyData.int) = 0
  | [] => rfl
  | x :: r => by simp only [List.map_cons, PyData.depthAll, PyData.depth, depth_ints r]; rfl
theorem shownAll_len : ∀ l : List PyData, (PyData.shownAll l).length = l.length
  | [] => rfl
  | x :: r => by simp only [PyData.shownAll, List.length_cons, shownAll_len r]
theorem sum_le : ∀ (l : List PyData) (b : Nat), (∀ x ∈ l, x.shown.length ≤ b) → ((PyData.shownAll l).map (·.length)).sum ≤ l.length * b
  | [], _, _ => by simp [PyData.shownAll]
  | x :: r, b, h => by
    have h1 := h x List.mem_cons_self
    have h2 := sum_le r b fun y hy => h y (List.mem_cons_of_mem _ hy)
    simp only [PyData.shownAll, List.map_cons, List.sum_cons, List.length_cons, Nat.succ_mul]
    omega
theorem shown_int {x : Int} (h : 0 ≤ x ∧ x < 1000000) : (PyData.int x).shown.length ≤ 7 := by
  simp only [PyData.shown]
  rw [PySem.ofString_length]
  exact int_text_length_le10 (k := 6) (by decide) (by omega)
theorem shown_ti {t : List Int} (h1 : t.length ≤ 4) (h2 : ∀ x ∈ t, 0 ≤ x ∧ x < 1000000) : (tiP t).shown.length ≤ 40 := by
  have h3 := sum_le (t.map PyData.int) 7 fun x hx => by
    obtain ⟨y, hy, rfl⟩ := List.mem_map.mp hx
    exact shown_int (h2 y hy)
  have h4 := tupleText_len_le (PyData.shownAll (t.map PyData.int))
  rw [shownAll_len] at h4
  rw [List.length_map] at h3 h4
  simp only [tiP, PyData.shown]
  omega
theorem rep_len {ts : List (List Int)} (h : SmallT ts) : (rp ts).shown.length ≤ sizeLine := by
  have h3 := sum_le (ts.map tiP) 40 fun x hx => by
    obtain ⟨t, ht, rfl⟩ := List.mem_map.mp hx
    exact shown_ti (h.2 t ht).1 (h.2 t ht).2
  have h4 := tupleText_len_le (PyData.shownAll (ts.map tiP))
  rw [shownAll_len] at h4
  rw [List.length_map] at h3 h4
  have := h.1
  simp only [rp, PyData.shown]
  rw [sizeLine_eq]
  omega
theorem rp_ok {ts : List (List Int)} (h : SmallT ts) : (rp ts).showable = true ∧ (rp ts).hasDict = false ∧ (rp ts).depth ≤ 40 := by
  have k1 : ∀ l : List (List Int), (∀ t ∈ l, ∀ x ∈ t, 0 ≤ x ∧ x < 1000000) → PyData.showableAll (l.map tiP) = true := by
    intro l
    induction l with
    | nil => intro _; rfl
    | cons t r ih =>
      intro hh
      simp only [List.map_cons, PyData.showableAll, Bool.and_eq_true]
      exact ⟨showable_ints t (hh t List.mem_cons_self), ih fun u hu => hh u (List.mem_cons_of_mem _ hu)⟩
  have k2 : ∀ l : List (List Int), PyData.hasDictAll (l.map tiP) = false := by
    intro l
    induction l with
    | nil => rfl
    | cons t r ih => simp only [List.map_cons, PyData.hasDictAll, tiP, PyData.hasDict, nodict_ints, Bool.false_or]; exact ih
  have k3 : ∀ l : List (List Int), PyData.depthAll (l.map tiP) ≤ 1 := by
    intro l
    induction l with
    | nil => exact Nat.zero_le _
    | cons t r ih =>
      simp only [List.map_cons, PyData.depthAll]
      have : (tiP t).depth = 1 := by simp only [tiP, PyData.depth, depth_ints]
      omega
  refine ⟨k1 ts fun t ht => (h.2 t ht).2, k2 ts, ?_⟩
  have := k3 ts
  simp only [rp, PyData.depth]
  omega
theorem d_rep {g : Gb} {c : Cn g} {δ : List Sl} {x : KD.R} {Q : KD.R → List Sl → Prop} {K : PySem.W.Frag} {ts : List (List Int)} (hK : K = g.K) (hx : x = .fz (.tup (ts.map tiD))) (h : SmallT ts) (q : Q (.fz (.str (rep ts))) δ) : DC c (rRepr K) [x] δ Q :=
  d_repr hK hx ⟨rfl, _, rfl⟩ (pyD_rp ts) (rp_ok h).1 (rp_ok h).2.1 (rp_ok h).2.2 (rep_len h) q
theorem srt_len (ts : List (List Int)) : (srt ts).length = ts.length := (List.mergeSort_perm ts _).length_eq
theorem srt_mem {ts : List (List Int)} {t : List Int} : t ∈ srt ts ↔ t ∈ ts := (List.mergeSort_perm ts _).mem_iff
theorem small_node {S B : List (List Int)} {l : List (Str × Nat)} {M v : Nat} (ok : MOk S B M) (h8 : M8 l) (hf : Fo 0 (dps l)) (hv : v < l.length) (hb : (l.length + 1) ^ M ≤ 300000) : SmallT (srt ((nodeDue S B l M v).map trip)) := by
  have ld := fo_len l
  have F := frs_of hf
  have hk : ∀ v, v < (dps l).length → mkL l v < 8 := fun v hv => (h8.occ (by omega)).2
  have R := (rg_added (Rg.ones (lays (itv v (enD (dps l) v)) M) fun p => (stL S B l p v, (mask p : Int)))).1
  have hn : (lays (itv v (enD (dps l) v)) M).length ≤ 300000 := lays_le (by rw [List.length_range']; have := F.up v (by omega); omega) hb
  have pw : (2 ^ M : Nat) ≤ 32 := Nat.le_trans (Nat.pow_le_pow_right (by decide) ok.hm) (by decide)
  have s2 := ok.s2
  refine ⟨?_, fun t ht => ?_⟩
  · rw [srt_len, List.length_map]
    exact Nat.le_trans R.len hn
  · obtain ⟨p, hp, rfl⟩ := List.mem_map.mp (srt_mem.mp ht)
    refine ⟨by simp [trip], fun x hx => ?_⟩
    obtain ⟨y, hy, e⟩ := R.key hp
    have h1 := stW_in ok F hk (lays_mem hy).1 (v := v) (by omega)
    have h1 : 0 ≤ stL S B l y v ∧ stL S B l y v < S.length := h1
    have h2 := mask_lt y
    rw [(lays_mem hy).1] at h2
    have h3 := R.num hp
    have h4 := R.ps p hp
    have e1 : p.1.1 = stL S B l y v := by rw [← e]
    have e2 : p.1.2 = (mask y : Int) := by rw [← e]
    simp only [trip, List.mem_cons, List.not_mem_nil, or_false] at hx
    rcases hx with rfl | rfl | rfl <;> omega
theorem small_row {S B : List (List Int)} {l : List (Str × Nat)} {M : Nat} {r : List Nat} (ok : MOk S B M) (h8 : M8 l) (hf : Fo 0 (dps l)) (hr : RowOk l r) (hb : S.length * (l.length + 1) ^ M ≤ 300000) : SmallT (srt ((rowDue S B l M r).map quad)) := by
  have ld := fo_len l
  have F := frs_of hf
  have hk : ∀ v, v < (dps l).length → mkL l v < 8 := fun v hv => (h8.occ (by omega)).2
  have R := (rg_added (Rg.ones (rowY S (nodesR (dps l) r) M) (rowF S B l r))).1
  have nlen := nodesR_len hr
  have hn : (rowY S (nodesR (dps l) r) M).length ≤ 300000 := by
    have key : ∀ L : List (List (Option Nat)), (L.flatMap fun p => (List.range S.length).map fun q => (p, q)).length = L.length * S.length := by
      intro L
      induction L with
      | nil => simp
      | cons x L ih => rw [List.flatMap_cons, List.length_append, ih, List.length_map, List.length_range, List.length_cons, Nat.succ_mul, Nat.add_comm]
    rw [rowY, key, Nat.mul_comm]
    refine Nat.le_trans (Nat.mul_le_mul_left _ ?_) hb
    rw [lays_len]
    exact Nat.pow_le_pow_left (by omega) M
  have pw : (2 ^ M : Nat) ≤ 32 := Nat.le_trans (Nat.pow_le_pow_right (by decide) ok.hm) (by decide)
  have s2 := ok.s2
  refine ⟨?_, fun t ht => ?_⟩
  · rw [srt_len, List.length_map]
    exact Nat.le_trans R.len hn
  · obtain ⟨p, hp, rfl⟩ := List.mem_map.mp (srt_mem.mp ht)
    refine ⟨by simp [quad], fun x hx => ?_⟩
    obtain ⟨⟨y, q⟩, hy, e⟩ := R.key hp
    simp only [rowY, List.mem_flatMap, List.mem_map, List.mem_range, Prod.mk.injEq] at hy
    obtain ⟨y', hy', q', hq, rfl, rfl⟩ := hy
    have h1 : 0 ≤ runL S B l y' q' r ∧ runL S B l y' q' r < S.length := runW_in ok F hk (lays_mem hy').1 (q := (q' : Int)) (by omega) fun c hc => by have := hr.lt c hc; omega
    have h2 := mask_lt y'
    rw [(lays_mem hy').1] at h2
    have h3 := R.num hp
    have h4 := R.ps p hp
    have e0 : p.1.1 = (q' : Int) := by rw [← e]; rfl
    have e1 : p.1.2.1 = runL S B l y' q' r := by rw [← e]; rfl
    have e2 : p.1.2.2 = (mask y' : Int) := by rw [← e]; rfl
    simp only [quad, List.mem_cons, List.not_mem_nil, or_false] at hx
    rcases hx with rfl | rfl | rfl | rfl <;> omega
end

end K67

set_option maxHeartbeats 4000000
namespace K67
open PySem PySem.Spec PyProof.Rows L2 KB KM
open KD hiding Dp
section
open KW
variable {P : Program} {w : World} {K : PySem.W.Frag} {mg : Str → Option Value} {base : Heap}
/-! ### what is due of a node -/
def soDueToo (ds : List D) (out : Out) : Prop := ∃ (l : List (Str × Nat)) (N : List Str) (B : List (List Int)) (tp : Int) (S : List (List Int)) (gd : List Int) (M v : Nat),
  ds = [machD N B tp S gd, .tup (docL l), .lst (chL l), .int (v : Nat)] ∧ MOk S B M ∧ N.length = M ∧ M8 l ∧ Fo 0 (dps l) ∧ l.length ≤ 40 ∧ v < l.length ∧ (l.length + 1) ^ M ≤ 300000 ∧
  out = .ret (.str (rep (srt ((nodeDue S B l M v).map trip))))
abbrev s__law_due_too : Stmt := (top 59)
theorem sc__law_due_too : FnScope ["machine", "document", "children", "node", "sums", "places", "laid", "total", "key", "number"] ["machine", "document", "children", "node"] (defScope s__law_due_too) := ⟨rfl, rfl, rfl, by decide +kernel, rfl, by decide +kernel, by decide +kernel⟩
theorem bd_due_too (T : Txt K mg) (C__law_end : Cal P w K mg base 1 "_law_end" (toSp (gb P w K) (spO K soEnd))) (C__law_layings : Cal P w K mg base 1 "_law_layings" (toSp (gb P w K) (spO K soLayings)))
    (C__law_laid : Cal P w K mg base 1 "_law_laid" (toSp (gb P w K) (spN soLaid))) (C__law_state : Cal P w K mg base 41 "_law_state" (toSp (gb P w K) (spO K (soState 40)))) : BodyG P w K mg base (41) ["machine", "document", "children", "node", "sums", "places", "laid", "total", "key", "number"] "_law_due_too" (defScope s__law_due_too) (defBody s__law_due_too) (toSp (gb P w K) (spO K soDueToo)) := by
  intro f cdv A outer s H vs Q E hG0 hr h
  have hu := hu_of hr
  have tk : Takes (cxOf (L2.CX P w) P w K mg base ["machine", "document", "children", "node", "sums", "places", "laid", "total", "key", "number"] "_law_due_too" (defScope s__law_due_too) f cdv A outer s H E) (WF E) := takes_of rfl rfl rfl rfl
  have hG : (cxOf (L2.CX P w) P w K mg base ["machine", "document", "children", "node", "sums", "places", "laid", "total", "key", "number"] "_law_due_too" (defScope s__law_due_too) f cdv A outer s H E).A.guards = some [] := hG0
  have hu64 : (cxOf (L2.CX P w) P w K mg base ["machine", "document", "children", "node", "sums", "places", "laid", "total", "key", "number"] "_law_due_too" (defScope s__law_due_too) f cdv A outer s H E).A.units + 64 < cLine := hr.units
  refine ⟨_, (pss_cons (ps_setO (i := 4) sc__law_due_too.nd rfl (Or.inl rfl) pe_dnewT)
    (pss_cons (ps_for (passes_of rfl) rfl (pi_list (pe_cal C__law_layings hr (by omega) tk (pa_cons (pe_listRg rfl (by rfl) T.g_list (prg_2 (by rfl) T.g_range (pv 3) (pe_cal C__law_end hr (by omega) tk (pa_cons (pv 1) (pa_cons (pv 3) pa_nil))))) (pa_cons (pe_callB call_lenK (by rfl) T.g_len (by decide +kernel) (pa_cons (pe_ix ix_seq (pv 0) pe_int (fun _ _ => rfl)) pa_nil)) pa_nil)))) (pg_name (i := 5) sc__law_due_too.nd rfl (Or.inl rfl)) (pss_cons (ps_asg (pe_cal C__law_laid hr (by omega) tk (pa_cons (pv 5) pa_nil)) (pg_tup (n := 2) (by rfl) (pgs_cons (pg_name (i := 6) sc__law_due_too.nd rfl (Or.inl rfl)) (pgs_cons (pg_name (i := 7) sc__law_due_too.nd rfl (Or.inl rfl)) pgs_nil))))
    (pss_cons (ps_set (i := 8) sc__law_due_too.nd rfl (Or.inl rfl) (pe_tup (pa_cons (pe_cal C__law_state hr (by omega) tk (pa_cons (pv 0) (pa_cons (pv 1) (pa_cons (pv 2) (pa_cons (pv 6) (pa_cons (pv 3) pa_nil)))))) (pa_cons (pv 7) pa_nil))))
    (pss_one (ps_tput hu (pv 4) (pv 8) (pe_op op_add (pe_tget2 hu (pv 4) (pv 8) pe_int ⟨by rfl, by rfl, by rfl, by rfl⟩) pe_int) rfl)))))
    (pss_one (ps_ret (pe_callB (call_reprG hG hu64) (by rfl) T.g_repr (by decide +kernel) (pa_cons (pe_callTy call_tupD (by rfl) T.g_tuple (by decide +kernel) (pa_cons (pe_callB cr_sortTI (by rfl) T.g_sorted (by decide +kernel) (pa_cons (pe_lock (pe_lc (own := [("key", 8), ("number", 9)]) (g := (gTup K 2 (gCons (gName 8) (gCons (gName 9) gNil)))) (by rfl) sc__law_due_too.nd  (pi_itemsT (pv 4)) (blkOk_by (own := [("key", 8), ("number", 9)]) (N := ["machine", "document", "children", "node", "sums", "places", "laid", "total", "key", "number"]) (sc := defScope s__law_due_too) (by decide +kernel)) (fun _ _ _ _ _ => (pg_tup (n := 2) (by rfl) (pgs_cons (pg_name (i := 8) sc__law_due_too.nd rfl (Or.inl rfl)) (pgs_cons (pg_name (i := 9) sc__law_due_too.nd rfl (Or.inl rfl)) pgs_nil)))) (fun _ _ _ _ _ => pts_nil) (fun _ _ _ _ _ => (pe_op (op_catAK (K := K) rfl) (pv 8) (pe_tup (pa_cons (pv 9) pa_nil)))))) pa_nil)) pa_nil)) pa_nil)))))), ?_⟩
  try dsimp only [cxOf]
  refine d_startO h fun ds out hS c hx hM => ?_
  obtain ⟨l, N, B, tp, S, gd, M, v, rfl, ok, nm, h8, hf, hl, hv, hb, rfl⟩ := hS
  have hz : (1000000 : Nat) < sizeLine := by decide
  have s1 := ok.s1
  have s2 := ok.s2
  have ld := fo_len l
  have F := frs_of hf
  have E := enD_is (ds := dps l) (v := v) (by omega)
  have hi := E.hi
  have small := small_node ok h8 hf hv hb
  have llen : (lays (itv v (enD (dps l) v)) M).length ≤ 300000 := lays_le (by rw [List.length_range']; omega) hb
  have hb2 : ((itv v (enD (dps l) v)).length + 1) ^ M ≤ 300000 := Nat.le_trans (Nat.pow_le_pow_left (by rw [List.length_range']; omega) M) hb
  refine d_st (δ' := [.fz (machD N B tp S gd), .fz (.tup (docL l)), .fz (.lst (chL l)), .fz (.int v), .no, .no, .no, .no, .no, .no]) (by rfl) ?_
  walk_at "dw"
  refine d_dnewT (fun σ H Q h => h) fun a2 => ?_
  walk_at "dw"
  refine d_for ?_
  walk_at "dw"
  refine d_callR hx ?_
  walk_at "dw"
  refine d_callR hx ?_
  walk_at "dw"
  refine ⟨_, _, rfl, ⟨l, v, _, rfl, hv, by omega, E, rfl⟩, ?_⟩
  refine ⟨_, _, rfl, rfl, RgOk.of_le (by omega) (by omega) (by omega) (by omega), fun a1 => ?_⟩
  rw [stretch_itv]
  walk_at "dw"
  refine d_ix (i := 0) (d := .tup (N.map D.str)) rfl rfl rfl ?_
  walk_at "dw"
  rw [List.length_map, nm]
  refine ⟨_, _, rfl, ⟨itv v (enD (dps l) v), M, rfl, ok.hm, by omega, by rw [List.length_range']; omega, rfl⟩, ?_⟩
  refine ⟨_, rfl, ?_⟩
  have eDue : nodeDue S B l M v = addedG ((lays (itv v (enD (dps l) v)) M).map fun p => ((stL S B l p v, (mask p : Int)), (1 : Int))) := rfl
  generalize hX : lays (itv v (enD (dps l) v)) M = L at *
  have lmem : ∀ p ∈ L, p.length = M := fun p hp => by rw [← hX] at hp; exact (lays_mem hp).1
  refine ⟨fun j δ => ∃ s5 s6 s7 s8, Fzs s8 ∧ δ = [.fz (machD N B tp S gd), .fz (.tup (docL l)), .fz (.lst (chL l)), .fz (.int v), .ow (.dt a2 (tabT (added ((L.take j).map fun p => ((stL S B l p v, (mask p : Int)), (1 : Int)))))), s5, s6, s7, s8, .no],
    ⟨_, _, _, _, .inl rfl, rfl⟩, fun _ _ _ => trivial, ?_, ?_⟩
  · rintro j δ hj ⟨s5, s6, s7, s8, f8, rfl⟩
    rw [List.length_map] at hj
    have ep : (L.map layD).getD j .non = layD (L.getD j []) := by
      rw [List.getD_eq_getElem?_getD, List.getElem?_map, getD_at (d := []) hj]; rfl
    have eg : L[j]? = some (L.getD j []) := getD_at hj
    have hp := lmem _ (List.mem_of_getElem? eg)
    have esn : (L.take (j + 1)).map (fun p => ((stL S B l p v, (mask p : Int)), (1 : Int))) = (L.take j).map (fun p => ((stL S B l p v, (mask p : Int)), (1 : Int))) ++ [((stL S B l (L.getD j []) v, (mask (L.getD j []) : Int)), (1 : Int))] := by
      rw [take_snoc eg, List.map_append]; rfl
    have tl : ((L.take j).map fun p => ((stL S B l p v, (mask p : Int)), (1 : Int))).length ≤ 300000 := by rw [List.length_map, List.length_take]; omega
    dsimp only
    rw [ep, esn, added_snoc]
    generalize L.getD j [] = p at hp
    obtain ⟨hnd, hlen⟩ := added_ok ((L.take j).map fun p => ((stL S B l p v, (mask p : Int)), (1 : Int)))
    generalize added ((L.take j).map fun p => ((stL S B l p v, (mask p : Int)), (1 : Int))) = tab at hnd hlen ⊢
    walk_at "dw"
    refine d_callN hx ?_
    walk_at "dw"
    refine ⟨_, _, rfl, ⟨p, rfl, by rw [hp]; exact ok.hm, rfl⟩, ?_⟩
    rintro x ⟨m, rfl, hL⟩
    walk_at "dw"
    refine d_callR hx ?_
    walk_at "dw"
    refine ⟨_, _, rfl, ⟨l, N, B, tp, S, gd, M, v, p, m, rfl, ok, h8, hf, by omega, hv, by omega, hL, hp, rfl⟩, ?_⟩
    walk_at "dw"
    refine ⟨⟨_, rfl⟩, ?_⟩
    walk_at "dw"
    refine ⟨_, _, keyP (stL S B l p v, (mask p : Int)), _, rfl, rfl, rfl, rfl, ?_⟩
    rw [tabT_val]
    walk_at "dw"
    refine ⟨4, a2, _, _, keyP (stL S B l p v, (mask p : Int)), _, rfl, rfl, rfl, rfl, rfl, by rw [tabT, List.length_map]; omega, ?_⟩
    rw [tabT_put hnd]
    exact ⟨_, _, _, _, .inr ⟨_, rfl⟩, rfl⟩
  · rintro δ ⟨s5, s6, s7, s8, f8, rfl⟩
    rw [List.length_map, List.take_length]
    have hl2 : (added (L.map fun p => ((stL S B l p v, (mask p : Int)), (1 : Int)))).length ≤ 300000 := Nat.le_trans (added_ok _).2 (by rw [List.length_map]; exact llen)
    rw [eDue] at small
    rw [eDue]
    rw [show addedG (L.map fun p => ((stL S B l p v, (mask p : Int)), (1 : Int))) = added (L.map fun p => ((stL S B l p v, (mask p : Int)), (1 : Int))) from rfl] at small ⊢
    generalize added (L.map fun p => ((stL S B l p v, (mask p : Int)), (1 : Int))) = due at small hl2 ⊢
    walk_at "dw"
    refine d_lock (i := 4) rfl fun c' od kvs h0 hm hk2 => ?_
    refine d_lcP (only_tup (only_cons (only_name (by decide)) (only_cons (only_name (by decide)) only_nil))) ?_
    refine d_iItemsT rfl h0 hm hk2 ?_
    refine ⟨by rw [tabT, List.length_map]; omega, trivial, ?_, fun j => tiD (trip (due.getD j ((0, 0), 0))), fun c2 j hj => ?_, fun p => ?_⟩
    · rcases f8 with rfl | ⟨d, rfl⟩ <;> rfl
    · rw [tabT, List.length_map] at hj
      have e : itD (tabT due) j = pairD (due.getD j ((0, 0), 0)) := by
        have : (tabT due).getD j ([], .non) = (keyP (due.getD j ((0, 0), 0)).1, .int (due.getD j ((0, 0), 0)).2) := by
          rw [List.getD_eq_getElem?_getD, tabT, List.getElem?_map, getD_at (d := ((0, 0), 0)) hj]; rfl
        rw [itD, this]
        rfl
      rw [e]
      dsimp only
      generalize due.getD j ((0, 0), 0) = p
      unfold pairD
      walk_at "dw"
      refine d_catA (ds := [.int p.1.1, .int p.1.2]) (es := [.int p.2]) rfl rfl rfl (by simp; omega) ?_
      exact ⟨rfl, rfl⟩
    · have e2 : ((List.range (tabT due).length).map fun j => tiD (trip (due.getD j ((0, 0), 0)))) = (due.map trip).map tiD := by
        rw [tabT, List.length_map, range_getD due ((0, 0), 0) fun q => tiD (trip q), List.map_map]
        rfl
      rw [e2]
      refine ⟨rfl, p, _, rfl, ?_⟩
      walk_at "dw"
      refine d_sortTI (ts := due.map trip) (n := 3) rfl rfl rfl (by decide) (fun t ht => ?_) fun p ts' hp hs => ?_
      · obtain ⟨q, _, rfl⟩ := List.mem_map.mp ht
        rfl
      walk_at "dw"
      rw [srt_eq hp hs]
      refine d_rep rfl rfl small ?_
      rfl
theorem cd_due_too (T : Txt K mg) : CalG P w K mg base 42 "_law_due_too" (toSp (gb P w K) (spO K soDueToo)) := T.d__law_due_too.calG sc__law_due_too (len_spO fun ds out ⟨_, _, _, _, _, _, _, _, h, _⟩ => by rw [h]; rfl) (bd_due_too T (cd_law_end T) (cd_layings T) (cd_laid T) (cd_state T 40))
end

end K67

set_option maxHeartbeats 4000000
namespace K67
open PySem PySem.Spec PyProof.Rows L2 KB KM
open KD hiding Dp
section
open KW
variable {P : Program} {w : World} {K : PySem.W.Frag} {mg : Str → Option Value} {base : Heap}
/-! ### rows asked -/
def soAsked (ds : List D) (out : Out) : Prop := ∃ ns : List Int, ds = [.ro (ns.map D.int)] ∧ (∀ z ∈ ns, ib z ≤ 1048576) ∧ ns.length ≤ 63 ∧ out = .ret (.bl true)
theorem many_of {d : D} (h : d ∈ ([.int 0, .int 1, .int 1, .int 2, .int 2, .int 3, .int 3, .int 4, .int 5] : List D)) : ∃ M most : Nat, d = .int (M : Nat) ∧ M ≤ 5 ∧ most ≤ 30 ∧ (most + 1) ^ M ≤ 243 ∧
    atI ([.int 30, .int 20, .int 8, .int 4, .int 2, .int 2] : List D) ((M : Nat) : Int) = some (.int (most : Nat)) := by
  simp only [List.mem_cons, List.not_mem_nil, or_false] at h
  have k0 : ∃ M most : Nat, D.int 0 = .int (M : Nat) ∧ M ≤ 5 ∧ most ≤ 30 ∧ (most + 1) ^ M ≤ 243 ∧ atI ([.int 30, .int 20, .int 8, .int 4, .int 2, .int 2] : List D) ((M : Nat) : Int) = some (.int (most : Nat)) := ⟨0, 30, rfl, by decide, by decide, by decide, rfl⟩
  have k1 : ∃ M most : Nat, D.int 1 = .int (M : Nat) ∧ M ≤ 5 ∧ most ≤ 30 ∧ (most + 1) ^ M ≤ 243 ∧ atI ([.int 30, .int 20, .int 8, .int 4, .int 2, .int 2] : List D) ((M : Nat) : Int) = some (.int (most : Nat)) := ⟨1, 20, rfl, by decide, by decide, by decide, rfl⟩
  have k2 : ∃ M most : Nat, D.int 2 = .int (M : Nat) ∧ M ≤ 5 ∧ most ≤ 30 ∧ (most + 1) ^ M ≤ 243 ∧ atI ([.int 30, .int 20, .int 8, .int 4, .int 2, .int 2] : List D) ((M : Nat) : Int) = some (.int (most : Nat)) := ⟨2, 8, rfl, by decide, by decide, by decide, rfl⟩
  have k3 : ∃ M most : Nat, D.int 3 = .int (M : Nat) ∧ M ≤ 5 ∧ most ≤ 30 ∧ (most + 1) ^ M ≤ 243 ∧ atI ([.int 30, .int 20, .int 8, .int 4, .int 2, .int 2] : List D) ((M : Nat) : Int) = some (.int (most : Nat)) := ⟨3, 4, rfl, by decide, by decide, by decide, rfl⟩
  have k4 : ∃ M most : Nat, D.int 4 = .int (M : Nat) ∧ M ≤ 5 ∧ most ≤ 30 ∧ (most + 1) ^ M ≤ 243 ∧ atI ([.int 30, .int 20, .int 8, .int 4, .int 2, .int 2] : List D) ((M : Nat) : Int) = some (.int (most : Nat)) := ⟨4, 2, rfl, by decide, by decide, by decide, rfl⟩
  have k5 : ∃ M most : Nat, D.int 5 = .int (M : Nat) ∧ M ≤ 5 ∧ most ≤ 30 ∧ (most + 1) ^ M ≤ 243 ∧ atI ([.int 30, .int 20, .int 8, .int 4, .int 2, .int 2] : List D) ((M : Nat) : Int) = some (.int (most : Nat)) := ⟨5, 2, rfl, by decide, by decide, by decide, rfl⟩
  rcases h with rfl | rfl | rfl | rfl | rfl | rfl | rfl | rfl | rfl
  · exact k0
  · exact k1
  · exact k1
  · exact k2
  · exact k2
  · exact k3
  · exact k3
  · exact k4
  · exact k5
theorem ro_lsR (δ : List Sl) (ns : List Int) : (KD.R.fz (.ro (ns.map D.int))).els δ = some (ns.map D.int) := rfl
abbrev s__law_asked_one : Stmt := (top 57)
theorem sc__law_asked_one : FnScope ["script", "k", "feed", "many", "document", "children", "size", "node", "row", "begin", "end", "machine", "due", "turn"] ["script"] (defScope s__law_asked_one) := ⟨rfl, rfl, rfl, by decide +kernel, rfl, by decide +kernel, by decide +kernel⟩
theorem bd_asked_one (T : Txt K mg) (C__law_feed : Cal P w K mg base 1 "_law_feed" (toSp (gb P w K) (spN soFeed))) (C__law_draw : Cal P w K mg base 1 "_law_draw" (toSp (gb P w K) (spFd soDraw))) (C__law_one : Cal P w K mg base 2 "_law_one" (toSp (gb P w K) (spFd soOne)))
    (C__law_document : Cal P w K mg base 3 "_law_document" (toSp (gb P w K) (spFd soDocument8))) (C__law_children : Cal P w K mg base 1 "_law_children" (toSp (gb P w K) (spO K soChildren))) (C__law_machine : Cal P w K mg base 3 "_law_machine" (toSp (gb P w K) (spFd soMachine)))
    (C__law_due : Cal P w K mg base 42 "_law_due" (toSp (gb P w K) (spO K soDue))) (C_row_ways : Cal P w K mg base 6 "row_ways" (toSp (gb P w K) (spO K soRowWays))) : BodyG P w K mg base (42) ["script", "k", "feed", "many", "document", "children", "size", "node", "row", "begin", "end", "machine", "due", "turn"] "_law_asked_one" (defScope s__law_asked_one) (defBody s__law_asked_one) (toSp (gb P w K) (spO K soAsked)) := by
  intro f cdv A outer s H vs Q E hG0 hr h
  have hu := hu_of hr
  have tk : Takes (cxOf (L2.CX P w) P w K mg base ["script", "k", "feed", "many", "document", "children", "size", "node", "row", "begin", "end", "machine", "due", "turn"] "_law_asked_one" (defScope s__law_asked_one) f cdv A outer s H E) (WF E) := takes_of rfl rfl rfl rfl
  have hG : (cxOf (L2.CX P w) P w K mg base ["script", "k", "feed", "many", "document", "children", "size", "node", "row", "begin", "end", "machine", "due", "turn"] "_law_asked_one" (defScope s__law_asked_one) f cdv A outer s H E).A.guards = some [] := hG0
  have hu64 : (cxOf (L2.CX P w) P w K mg base ["script", "k", "feed", "many", "document", "children", "size", "node", "row", "begin", "end", "machine", "due", "turn"] "_law_asked_one" (defScope s__law_asked_one) f cdv A outer s H E).A.units + 64 < cLine := hr.units
  refine ⟨_, (pss_cons (ps_for (passes_of rfl) rfl (pi_range1 rfl T.g_range (pa_cons (pe_callB (call_max2K rfl) (by rfl) T.g_max (by decide +kernel) (pa_cons pe_int (pa_cons (pe_callB (call_min2K rfl) (by rfl) T.g_min (by decide +kernel) (pa_cons pe_int (pa_cons (pe_callB call_lenK (by rfl) T.g_len (by decide +kernel) (pa_cons (pv 0) pa_nil)) pa_nil))) pa_nil))) pa_nil)) (pg_name (i := 1) sc__law_asked_one.nd rfl (Or.inl rfl)) (pss_cons (ps_setO (i := 2) sc__law_asked_one.nd rfl (Or.inl rfl) (pe_cal C__law_feed hr (by omega) tk (pa_cons (pv 0) (pa_cons (pv 1) pa_nil))))
    (pss_cons (ps_set (i := 3) sc__law_asked_one.nd rfl (Or.inl rfl) (pe_cal C__law_one hr (by omega) tk (pa_cons (pv 2) (pa_cons (pe_lst (pa_cons pe_int (pa_cons pe_int (pa_cons pe_int (pa_cons pe_int (pa_cons pe_int (pa_cons pe_int (pa_cons pe_int (pa_cons pe_int (pa_cons pe_int pa_nil)))))))))) pa_nil))))
    (pss_cons (ps_set (i := 4) sc__law_asked_one.nd rfl (Or.inl rfl) (pe_cal C__law_document hr (by omega) tk (pa_cons (pv 2) (pa_cons (pe_ix ix_seq (pe_lst (pa_cons pe_int (pa_cons pe_int (pa_cons pe_int (pa_cons pe_int (pa_cons pe_int (pa_cons pe_int pa_nil))))))) (pv 3) (fun _ _ => rfl)) pa_nil))))
    (pss_cons (ps_par (i := 5) (j := 6) (by rfl) sc__law_asked_one.nd rfl rfl (by decide) rfl rfl (pa_cons (pe_cal C__law_children hr (by omega) tk (pa_cons (pv 4) pa_nil)) (pa_cons (pe_callB call_lenK (by rfl) T.g_len (by decide +kernel) (pa_cons (pv 4) pa_nil)) pa_nil)) (by rfl))
    (Evl.pss_cut (ps_set (i := 7) sc__law_asked_one.nd rfl (Or.inl rfl) (pe_ifExp (pt_cmpR op_eq (pe_cal C__law_draw hr (by omega) tk (pa_cons (pv 2) (pa_cons pe_int pa_nil))) pe_int (nomark _)) (pe_cal C__law_draw hr (by omega) tk (pa_cons (pv 2) (pa_cons (pe_op op_add (pv 6) pe_int) pa_nil))) (pv 6)))
    (pss_cons (ps_set (i := 8) sc__law_asked_one.nd rfl (Or.inl rfl) (pe_ix ix_seq (pv 5) (pv 7) (fun _ _ => rfl)))
    (pss_cons (ps_par (i := 9) (j := 10) (by rfl) sc__law_asked_one.nd rfl rfl (by decide) rfl rfl (pa_cons pe_int (pa_cons (pe_callB call_lenK (by rfl) T.g_len (by decide +kernel) (pa_cons (pv 8) pa_nil)) pa_nil)) (by rfl))
    (Evl.pss_cut (ps_if (pt_cmpR op_eq (pe_cal C__law_draw hr (by omega) tk (pa_cons (pv 2) (pa_cons pe_int pa_nil))) pe_int (nomark _)) (pss_cons (ps_set (i := 9) sc__law_asked_one.nd rfl (Or.inl rfl) (pe_cal C__law_draw hr (by omega) tk (pa_cons (pv 2) (pa_cons (pe_op op_add (pe_callB call_lenK (by rfl) T.g_len (by decide +kernel) (pa_cons (pv 8) pa_nil)) pe_int) pa_nil))))
    (pss_one (ps_set (i := 10) sc__law_asked_one.nd rfl (Or.inl rfl) (pe_op op_add (pv 9) (pe_cal C__law_draw hr (by omega) tk (pa_cons (pv 2) (pa_cons (pe_op op_add (pe_op op_sub (pe_callB call_lenK (by rfl) T.g_len (by decide +kernel) (pa_cons (pv 8) pa_nil)) (pv 9)) pe_int) pa_nil))))))) pss_nil)
    (pss_cons (ps_set (i := 11) sc__law_asked_one.nd rfl (Or.inl rfl) (pe_cal C__law_machine hr (by omega) tk (pa_cons (pv 2) (pa_cons (pv 3) (pa_cons (pe_op op_add pe_int (pe_cal C__law_draw hr (by omega) tk (pa_cons (pv 2) (pa_cons pe_int pa_nil)))) pa_nil)))))
    (Evl.pss_cut (ps_if (PW.pt (pw_and (pt_cmpR op_eq (pv 1) pe_int (nomark _)) (pw_and1 (pt_cmpR op_eq (pe_cal C__law_draw hr (by omega) tk (pa_cons (pv 2) (pa_cons pe_int pa_nil))) pe_int (nomark _))))) (pss_one (ps_set (i := 11) sc__law_asked_one.nd rfl (Or.inl rfl) (pe_cal C__law_machine hr (by omega) tk (pa_cons (pv 2) (pa_cons (pv 3) (pa_cons pe_int pa_nil)))))) pss_nil)
    (pss_cons (ps_set (i := 12) sc__law_asked_one.nd rfl (Or.inl rfl) (pe_callB (call_reprG hG hu64) (by rfl) T.g_repr (by decide +kernel) (pa_cons (pe_cal C__law_due hr (by omega) tk (pa_cons (pv 11) (pa_cons (pv 4) (pa_cons (pv 5) (pa_cons (pe_slice sl_list (pv 8) (po_some (pv 9)) (po_some (pv 10))) pa_nil))))) pa_nil)))
    (pss_one (ps_for (passes_of rfl) rfl (pi_range1 rfl T.g_range (pa_cons pe_int pa_nil)) (pg_name (i := 13) sc__law_asked_one.nd rfl (Or.inl rfl)) (pss_one (ps_if (pt_cmpR op_ne (pe_callB (call_reprG hG hu64) (by rfl) T.g_repr (by decide +kernel) (pa_cons (pe_cal C_row_ways hr (by omega) tk (pa_cons (pv 11) (pa_cons (pv 4) (pa_cons (pe_ifExp (pt_cmpR op_eq (pv 7) (pv 6) (nomark _)) pe_non (pv 7)) (pa_cons (pv 9) (pa_cons (pv 10) pa_nil)))))) pa_nil)) (pv 12) (nomark _)) (pss_one (ps_ret pe_bl)) pss_nil))))))))))))))))
    (pss_one (ps_ret pe_bl))), ?_⟩
  try dsimp only [cxOf]
  refine d_startO h fun ds out hS c hx hM => ?_
  obtain ⟨ns, rfl, hb, hl, rfl⟩ := hS
  have hz : (1000000 : Nat) < sizeLine := by decide
  refine d_st (δ' := [.fz (.ro (ns.map D.int)), .no, .no, .no, .no, .no, .no, .no, .no, .no, .no, .no, .no, .no]) (by rfl) ?_
  walk_at "dw"
  refine d_for ?_
  walk_at "dw"
  rw [List.length_map]
  refine ⟨_, rfl, by omega, by omega, ?_⟩
  refine ⟨fun i δ => ∃ s1 s2 s3 s4 s5 s6 s7 s8 s9 s10 s11 s12 s13, δ = [.fz (.ro (ns.map D.int)), s1, s2, s3, s4, s5, s6, s7, s8, s9, s10, s11, s12, s13], ⟨_, _, _, _, _, _, _, _, _, _, _, _, _, rfl⟩, fun _ _ _ => trivial, ?_, ?_⟩
  · rintro i δ hi ⟨s1, s2, s3, s4, s5, s6, s7, s8, s9, s10, s11, s12, s13, rfl⟩
    have hi8 : i < 8 := by omega
    dsimp only
    rw [Int.zero_add]
    walk_at "dw"
    refine d_callN hx ?_
    walk_at "dw"
    refine ⟨_, _, rfl, ⟨ns, i, rfl, hb, by omega, rfl⟩, ?_⟩
    rintro r ⟨fd, ys0, rfl, hF0⟩
    walk_at "dw"
    refine d_callF hx ?_
    walk_at "dw"
    intro p1
    walk_at "dw"
    refine ⟨2, _, fd, ys0, _, _, 1, _, rfl, rfl, rfl, hF0, by decide, ⟨_, _, rfl, rfl, by simp, by simp, rfl, rfl⟩, ?_⟩
    rintro r ys1 hF1 ⟨mn, hmn, rfl⟩
    obtain ⟨M, most, rfl, hM5, hm30, hm243, hat⟩ := many_of hmn
    walk_at "dw"
    refine d_callF hx ?_
    walk_at "dw"
    intro p2
    walk_at "dw"
    refine d_ix (i := (M : Nat)) rfl rfl hat ?_
    walk_at "dw"
    refine ⟨2, _, fd, ys1, _, _, 3 + 3 * most, _, rfl, rfl, rfl, hF1, by omega, ⟨most, rfl, by omega, rfl, rfl⟩, ?_⟩
    rintro r ys2 hF2 ⟨l, rfl, hg, h8⟩
    have hlen := hg.len
    have ld := fo_len l
    have hpow : (l.length + 1) ^ M ≤ 243 := Nat.le_trans (Nat.pow_le_pow_left (by omega) M) hm243
    walk_at "dw"
    refine d_callL hx ?_
    walk_at "dw"
    refine ⟨_, _, rfl, ⟨l, rfl, hg.fo, by omega, rfl⟩, fun a3 => ?_⟩
    walk_at "dw"
    rw [docL_len]
    refine d_cut (fun δ => ∃ (ys : List D) (nd : Nat), δ = [.fz (.ro (ns.map D.int)), .fz (.int i), .ow (.fl fd ys), .fz (.int M), .fz (.tup (docL l)), .fz (.lst (chL l)), .fz (.int l.length), .fz (.int nd), s8, s9, s10, s11, s12, s13] ∧ FdD 200 ys ∧ nd ≤ l.length) ?_ ?_
    · walk_at "dw"
      refine d_callF hx ?_
      walk_at "dw"
      refine ⟨2, _, fd, ys2, _, _, 1, _, rfl, rfl, rfl, hF2, by omega, ⟨_, rfl, by decide, by decide, rfl, rfl⟩, ?_⟩
      rintro r ys3 hF3 ⟨j, hj, rfl⟩
      walk_at "dw"
      refine i_dec (fun z => ?_) (fun z => ?_)
      · walk_at "dw"
        refine d_callF hx ?_
        walk_at "dw"
        refine ⟨2, _, fd, ys3, _, _, 1, _, rfl, rfl, rfl, hF3, by omega, ⟨_, rfl, by omega, by omega, rfl, rfl⟩, ?_⟩
        rintro r ys4 hF4 ⟨nd, hnd, rfl⟩
        walk_at "dw"
        exact ⟨ys4, nd, rfl, hF4.mono (by omega), by omega⟩
      · walk_at "dw"
        exact ⟨ys3, l.length, rfl, hF3.mono (by omega), Nat.le_refl _⟩
    rintro δ ⟨ys3, nd, rfl, hF3, hnd⟩
    have hpd : ∀ v, rowAt l.length nd = some v → v < (dps l).length := fun v e => by
      unfold rowAt at e
      by_cases q : nd = l.length
      · rw [if_pos q] at e; cases e
      · rw [if_neg q] at e; cases e; omega
    have up := rowP_up hg.fo hpd
    obtain ⟨sa, sb_, sib, hsb⟩ := rowP_sib hg.fo hpd
    have rlen : (rowP (dps l) (rowAt l.length nd)).length ≤ 30 := by
      have : ∀ {r : List Nat} {a b : Nat}, Sib (enD (dps l)) a r b → a + r.length ≤ b := by
        intro r
        induction r with
        | nil => intro a b h; have h : a = b := h; simp; omega
        | cons c r ih => intro a b h; obtain ⟨_, h1, h2⟩ := h; have := ih h2; simp; omega
      have := this sib
      omega
    walk_at "dw"
    refine d_ix (i := (nd : Nat)) rfl rfl (chL_at hnd) ?_
    have hrow : rowP (dps l) (rowAt l.length nd) = rowP (dps l) (rowAt l.length nd) := rfl
    generalize hr : rowP (dps l) (rowAt l.length nd) = row at rlen up hrow
    have ll : (intL row).length = row.length := List.length_map ..
    walk_at "dw"
    refine d_cut (fun δ => ∃ (ys : List D) (b e : Nat), δ = [.fz (.ro (ns.map D.int)), .fz (.int i), .ow (.fl fd ys), .fz (.int M), .fz (.tup (docL l)), .fz (.lst (chL l)), .fz (.int l.length), .fz (.int nd), .fz (.lst (intL row)), .fz (.int b), .fz (.int e), s11, s12, s13] ∧ FdD 210 ys ∧ b ≤ e ∧ e ≤ row.length) ?_ ?_
    · walk_at "dw"
      refine d_callF hx ?_
      walk_at "dw"
      refine ⟨2, _, fd, ys3, _, _, 1, _, rfl, rfl, rfl, hF3, by omega, ⟨_, rfl, by decide, by decide, rfl, rfl⟩, ?_⟩
      rintro r ys4 hF4 ⟨j, hj, rfl⟩
      walk_at "dw"
      refine i_dec (fun z => ?_) (fun z => ?_)
      · walk_at "dw"
        refine d_callF hx ?_
        walk_at "dw"
        rw [ll]
        refine ⟨2, _, fd, ys4, _, _, 1, _, rfl, rfl, rfl, hF4, by omega, ⟨_, rfl, by omega, by omega, rfl, rfl⟩, ?_⟩
        rintro r ys5 hF5 ⟨b, hbb, rfl⟩
        walk_at "dw"
        refine d_callF hx ?_
        walk_at "dw"
        rw [ll]
        refine ⟨2, _, fd, ys5, _, _, 1, _, rfl, rfl, rfl, hF5, by omega, ⟨_, rfl, by omega, by omega, rfl, rfl⟩, ?_⟩
        rintro r ys6 hF6 ⟨x, hxx, rfl⟩
        walk_at "dw"
        refine ⟨ys6, b, b + x, ?_, hF6.mono (by omega), by omega, by omega⟩
        rw [show ((b + x : Nat) : Int) = (b : Int) + (x : Int) by omega]
        rfl
      · walk_at "dw"
        rw [ll]
        exact ⟨ys4, 0, row.length, rfl, hF4.mono (by omega), Nat.zero_le _, Nat.le_refl _⟩
    rintro δ ⟨ys4, b, e, rfl, hF4, hbe, her⟩
    walk_at "dw"
    refine d_callF hx ?_
    walk_at "dw"
    refine d_callF hx ?_
    walk_at "dw"
    refine ⟨2, _, fd, ys4, _, _, 1, _, rfl, rfl, rfl, hF4, by omega, ⟨_, rfl, by decide, by decide, rfl, rfl⟩, ?_⟩
    rintro r ys5 hF5 ⟨x6, hx6, rfl⟩
    have pw : (2 ^ M : Nat) ≤ 32 := Nat.le_trans (Nat.pow_le_pow_right (by decide) hM5) (by decide)
    have sq : (1 + x6) * (1 + x6) ≤ 6 * 6 := Nat.mul_le_mul (by omega) (by omega)
    walk_at "dw"
    refine ⟨2, _, fd, ys5, _, _, _, _, rfl, rfl, rfl, hF5, ?_, ⟨M, 1 + x6, ?_, hM5, by omega, by omega, rfl, rfl⟩, ?_⟩
    · omega
    · rw [show ((1 + x6 : Nat) : Int) = 1 + (x6 : Int) by omega]
    rintro r ys6 hF6 ⟨N, B, tp, S, gd, rfl, md, lS⟩
    walk_at "dw"
    refine d_cut (fun δ => ∃ (ys : List D) (N : List Str) (B : List (List Int)) (tp : Int) (S : List (List Int)) (gd : List Int), δ = [.fz (.ro (ns.map D.int)), .fz (.int i), .ow (.fl fd ys), .fz (.int M), .fz (.tup (docL l)), .fz (.lst (chL l)), .fz (.int l.length), .fz (.int nd), .fz (.lst (intL row)), .fz (.int b), .fz (.int e), .fz (machD N B tp S gd), s12, s13] ∧ MD N B tp S gd M ∧ S.length ≤ 40) ?_ ?_
    · walk_at "dw"
      refine i_dec (fun z => ?_) (fun z => ?_)
      · walk_at "dw"
        refine d_callF hx ?_
        walk_at "dw"
        refine ⟨2, _, fd, ys6, _, _, 1, _, rfl, rfl, rfl, hF6, by omega, ⟨_, rfl, by decide, by decide, rfl, rfl⟩, ?_⟩
        rintro r ys7 hF7 ⟨j, hj, rfl⟩
        walk_at "dw"
        refine i_dec (fun z => ?_) (fun z => ?_)
        · walk_at "dw"
          refine d_callF hx ?_
          walk_at "dw"
          refine ⟨2, _, fd, ys7, _, _, _, _, rfl, rfl, rfl, hF7, ?_, ⟨M, 40, rfl, hM5, by decide, by decide, rfl, rfl⟩, ?_⟩
          · omega
          rintro r ys8 hF8 ⟨N2, B2, tp2, S2, gd2, rfl, md2, lS2⟩
          walk_at "dw"
          exact ⟨ys8, N2, B2, tp2, S2, gd2, rfl, md2, by omega⟩
        · walk_at "dw"
          exact ⟨ys7, N, B, tp, S, gd, rfl, md, by omega⟩
      · walk_at "dw"
        exact ⟨ys6, N, B, tp, S, gd, rfl, md, by omega⟩
    clear md lS hF6
    rintro δ ⟨ys7, N, B, tp, S, gd, rfl, md, lS⟩
    have hbound : S.length * (l.length + 1) ^ M ≤ 300000 := Nat.le_trans (Nat.mul_le_mul lS hpow) (by decide)
    have hcl : ∀ c ∈ (row.drop b).take (e - b), c < l.length := fun c hc => by
      have := (up c (List.mem_of_mem_drop (List.mem_of_mem_take hc))).1
      omega
    have small := small_row md.mo h8 hg.fo ⟨hcl⟩ hbound
    walk_at "dw"
    refine d_callR hx ?_
    walk_at "dw"
    refine d_slL rfl rfl fun a5 => ?_
    have ecut : cutD (intL row) (some ((b : Nat) : Int)) (some ((e : Nat) : Int)) = intL ((row.drop b).take (e - b)) := by
      rw [cutD_nat _ hbe (by omega), intL, intL, List.map_take, List.map_drop]
    rw [ecut]
    walk_at "dw"
    refine ⟨_, _, rfl, ⟨l, N, B, tp, S, gd, M, (row.drop b).take (e - b), rfl, md.mo, md.nm, h8, hg.fo, by omega, ⟨hcl⟩, by rw [List.length_take, List.length_drop]; omega, hbound, rfl⟩, ?_⟩
    walk_at "dw"
    refine d_rep rfl rfl small ?_
    walk_at "dw"
    refine d_for ?_
    walk_at "dw"
    refine ⟨_, rfl, by decide, by decide, ?_⟩
    refine ⟨fun k δ => ∃ s13, δ = [.fz (.ro (ns.map D.int)), .fz (.int i), .ow (.fl fd ys7), .fz (.int M), .fz (.tup (docL l)), .fz (.lst (chL l)), .fz (.int l.length), .fz (.int nd), .fz (.lst (intL row)), .fz (.int b), .fz (.int e), .fz (machD N B tp S gd), .fz (.str (rep (srt ((rowDue S B l M ((row.drop b).take (e - b))).map quad)))), s13],
      ⟨_, rfl⟩, fun _ _ _ => trivial, ?_, ?_⟩
    · rintro k δ hk ⟨s13, rfl⟩
      have spec : soRowWays [machD N B tp S gd, .tup (docL l), oN (rowAt l.length nd), .int (b : Nat), .int (e : Nat)] (.ret (.tup ((srt ((rowDue S B l M ((row.drop b).take (e - b))).map quad)).map tiD))) :=
        ⟨l, N, B, tp, S, gd, M, b, e, rowAt l.length nd, rfl, md, hg.mono (by omega), h8, fun v q => by rw [← ld]; exact hpd v q, hbe, by rw [hr]; exact her, by omega, by rw [hr]⟩
      walk_at "dw"
      refine d_callR hx ?_
      walk_at "dw"
      refine i_dec (fun z => ?_) (fun z => ?_)
      · have e1 : oN (rowAt l.length nd) = .non := by unfold rowAt; rw [if_pos (by omega)]; rfl
        rw [e1] at spec
        walk_at "dw"
        refine ⟨_, _, rfl, spec, ?_⟩
        walk_at "dw"
        refine d_rep rfl rfl small ?_
        walk_at "dw"
        rw [decide_eq_true (rfl : rep _ = rep _)]
        walk_at "dw"
        exact ⟨_, rfl⟩
      · have e1 : oN (rowAt l.length nd) = .int (nd : Nat) := by unfold rowAt; rw [if_neg (by omega)]; rfl
        rw [e1] at spec
        walk_at "dw"
        refine ⟨_, _, rfl, spec, ?_⟩
        walk_at "dw"
        refine d_rep rfl rfl small ?_
        walk_at "dw"
        rw [decide_eq_true (rfl : rep _ = rep _)]
        walk_at "dw"
        exact ⟨_, rfl⟩
    · rintro δ ⟨s13, rfl⟩
      exact ⟨_, _, _, _, _, _, _, _, _, _, _, _, _, rfl⟩
  · rintro δ ⟨s1, s2, s3, s4, s5, s6, s7, s8, s9, s10, s11, s12, s13, rfl⟩
    walk_at "dw"
    rfl
theorem cd_asked_one (T : Txt K mg) : CalG P w K mg base 43 "_law_asked_one" (toSp (gb P w K) (spO K soAsked)) := T.d__law_asked_one.calG sc__law_asked_one (len_spO fun ds out ⟨_, h, _⟩ => by rw [h]; rfl)
  (bd_asked_one T (cd_feed T) (cd_draw T) (cd_one T) (cd_law_document8 T) (cd_children T) (cd_machine T) (cd_due T) (cd_row_ways T))
end

end K67

set_option maxHeartbeats 4000000
namespace K67
open PySem PySem.Spec PyProof.Rows L2 KB KM
open KD hiding Dp
section
open KW
/-! ### a piece as a document of its own; the beginning of a document -/
theorem fo_of : ∀ {ds : List Nat} {m : Nat}, (∀ i, i < ds.length → ds.getD i 0 ≤ (if i = 0 then m else ds.getD (i - 1) 0 + 1)) → Fo m ds
  | [], _, _ => trivial
  | d :: r, m, h => by
    refine ⟨by simpa using h 0 (by simp), fo_of fun i hi => ?_⟩
    have := h (i + 1) (by simpa using hi)
    rw [if_neg (by omega)] at this
    cases i with
    | zero => simpa using this
    | succ i => simpa using this
/-- the piece of v, lowered -/
def pieceL (l : List (Str × Nat)) (v : Nat) : List (Str × Nat) := ((l.drop v).take (enD (dps l) v - v)).map fun p => (p.1, p.2 - (dps l).getD v 0)
section
variable {l : List (Str × Nat)} {v : Nat}
theorem piece_len (hv : v < l.length) : (pieceL l v).length = enD (dps l) v - v := by
  have := (enD_is (ds := dps l) (v := v) (by rw [fo_len]; exact hv)).hi
  rw [fo_len] at this
  rw [pieceL, List.length_map, List.length_take, List.length_drop]
  omega
theorem piece_at (hv : v < l.length) {i : Nat} (hi : i < enD (dps l) v - v) : (pieceL l v).getD i ("", 0) = ((l.getD (v + i) ("", 0)).1, (dps l).getD (v + i) 0 - (dps l).getD v 0) := by
  have := (enD_is (ds := dps l) (v := v) (by rw [fo_len]; exact hv)).hi
  rw [fo_len] at this
  rw [pieceL, List.getD_eq_getElem?_getD, List.getElem?_map, List.getElem?_take, if_pos hi, List.getElem?_drop, List.getElem?_eq_getElem (show v + i < l.length by omega)]
  have e1 : l.getD (v + i) ("", 0) = l[v + i] := by rw [List.getD_eq_getElem?_getD, List.getElem?_eq_getElem (show v + i < l.length by omega)]; rfl
  have e2 : (dps l).getD (v + i) 0 = l[v + i].2 := by rw [List.getD_eq_getElem?_getD, List.getElem?_map, List.getElem?_eq_getElem (show v + i < l.length by omega)]; rfl
  rw [e1, e2]
  rfl
theorem dps_piece (hv : v < l.length) {i : Nat} (hi : i < enD (dps l) v - v) : (dps (pieceL l v)).getD i 0 = (dps l).getD (v + i) 0 - (dps l).getD v 0 := by
  have h1 := piece_at hv hi
  have h2 : i < (pieceL l v).length := by rw [piece_len hv]; exact hi
  have e : (dps (pieceL l v)).getD i 0 = ((pieceL l v).getD i ("", 0)).2 := by
    rw [List.getD_eq_getElem?_getD, List.getElem?_map, getD_at (d := (("" : Str), 0)) h2]; rfl
  rw [e, h1]
theorem piece_ge (hv : v < l.length) {i : Nat} (hi : i < enD (dps l) v - v) : (dps l).getD v 0 ≤ (dps l).getD (v + i) 0 ∧ (0 < i → (dps l).getD v 0 < (dps l).getD (v + i) 0) := by
  have E := enD_is (ds := dps l) (v := v) (by rw [fo_len]; exact hv)
  by_cases z : i = 0
  · subst z; exact ⟨Nat.le_refl _, fun h => absurd h (by decide)⟩
  · have := E.all (v + i) (by omega) (by omega)
    exact ⟨by omega, fun _ => this⟩
theorem fo_piece (hf : Fo 0 (dps l)) (hv : v < l.length) : Fo 0 (dps (pieceL l v)) := by
  refine fo_of fun i hi => ?_
  rw [fo_len, piece_len hv] at hi
  have E := enD_is (ds := dps l) (v := v) (by rw [fo_len]; exact hv)
  have ehi := E.hi
  rw [dps_piece hv hi]
  by_cases z : i = 0
  · subst z; rw [if_pos rfl]; simp
  · rw [if_neg z, dps_piece hv (show i - 1 < _ by omega)]
    have := hf.step (v + i) (by omega)
    rw [if_neg (by omega), show v + i - 1 = v + (i - 1) by omega] at this
    have := (piece_ge hv (show i - 1 < _ by omega)).1
    omega
theorem en_piece (hv : v < l.length) {i : Nat} (hi : i < enD (dps l) v - v) : enD (dps l) (v + i) = v + enD (dps (pieceL l v)) i := by
  have E := enD_is (ds := dps l) (v := v) (by rw [fo_len]; exact hv)
  have ehi := E.hi
  have pl := piece_len hv
  have E2 := enD_is (ds := dps (pieceL l v)) (v := i) (by rw [fo_len, pl]; exact hi)
  have e2hi := E2.hi
  rw [fo_len, pl] at e2hi
  have g0 := piece_ge hv hi
  refine EndIs.uniq (enD_is (by omega)) ⟨by have := E2.lo; omega, by omega, fun k k1 k2 => ?_, fun h => ?_⟩
  · have := E2.all (k - v) (by omega) (by omega)
    rw [dps_piece hv hi, dps_piece hv (show k - v < _ by omega), show v + (k - v) = k by omega] at this
    omega
  · by_cases q : enD (dps (pieceL l v)) i < enD (dps l) v - v
    · have := E2.stop (by rw [fo_len, pl]; exact q)
      rw [dps_piece hv hi, dps_piece hv q] at this
      have := (piece_ge hv q).1
      omega
    · have e : v + enD (dps (pieceL l v)) i = enD (dps l) v := by omega
      rw [e] at h ⊢
      have := E.stop h
      omega
theorem ch_piece (hv : v < l.length) {i : Nat} (hi : i < enD (dps l) v - v) : chD (dps l) (v + i) = (chD (dps (pieceL l v)) i).map fun c => v + c := by
  have e1 := en_piece hv hi
  have pl := piece_len hv
  have E2 := enD_is (ds := dps (pieceL l v)) (v := i) (by rw [fo_len, pl]; exact hi)
  have e2hi := E2.hi
  rw [fo_len, pl] at e2hi
  have g0 := piece_ge hv hi
  unfold chD rowNode
  rw [List.map_map, e1, show v + enD (dps (pieceL l v)) i - (v + i + 1) = enD (dps (pieceL l v)) i - (i + 1) by omega]
  have e3 : ((List.range (enD (dps (pieceL l v)) i - (i + 1))).filter fun j => decide ((dps l).getD (v + i + 1 + j) 0 = (dps l).getD (v + i) 0 + 1)) = (List.range (enD (dps (pieceL l v)) i - (i + 1))).filter fun j => decide ((dps (pieceL l v)).getD (i + 1 + j) 0 = (dps (pieceL l v)).getD i 0 + 1) := by
    refine List.filter_congr fun j hj => decide_eq_decide.mpr ?_
    rw [List.mem_range] at hj
    rw [dps_piece hv hi, dps_piece hv (show i + 1 + j < _ by omega), show v + (i + 1 + j) = v + i + 1 + j by omega]
    have := (piece_ge hv (show i + 1 + j < _ by omega)).1
    rw [show v + (i + 1 + j) = v + i + 1 + j by omega] at this
    omega
  rw [e3]
  refine List.map_congr_left fun j _ => ?_
  show v + i + 1 + j = v + (i + 1 + j)
  omega
theorem mk_piece (hv : v < l.length) {i : Nat} (hi : i < enD (dps l) v - v) : mkL (pieceL l v) i = mkL l (v + i) := by
  unfold mkL
  rw [piece_at hv hi]
theorem lay_shift (v i : Nat) (p : List (Option Nat)) : lay (p.map (Option.map fun c => v + c)) (v + i) = lay p i := by
  unfold lay
  induction p with
  | nil => rfl
  | cons x r ih =>
    simp only [List.map_cons, bs, ih]
    have : (Option.map (fun c => v + c) x == some (v + i)) = (x == some i) := by
      cases x with
      | none => rfl
      | some c =>
        by_cases e : c = i
        · subst e; simp
        · have h1 : (c == i) = false := beq_eq_false_iff_ne.mpr e
          have h2 : (v + c == v + i) = false := beq_eq_false_iff_ne.mpr (by omega)
          show (v + c == v + i) = (c == i)
          rw [h1, h2]
    rw [this]
theorem mask_shift (v : Nat) (p : List (Option Nat)) : mask (p.map (Option.map fun c => v + c)) = mask p := by
  unfold mask
  induction p with
  | nil => rfl
  | cons x r ih =>
    simp only [List.map_cons, bs, ih]
    cases x <;> rfl
theorem st_piece {S B : List (List Int)} (hf : Fo 0 (dps l)) (hv : v < l.length) (p : List (Option Nat)) : ∀ (k i : Nat), i < enD (dps l) v - v → enD (dps l) v - v - i ≤ k →
    stL S B l (p.map (Option.map fun c => v + c)) (v + i) = stL S B (pieceL l v) p i
  | 0, i, hi, hk => by omega
  | k + 1, i, hi, hk => by
    have E := enD_is (ds := dps l) (v := v) (by rw [fo_len]; exact hv)
    have ehi := E.hi
    have pl := piece_len hv
    have F1 := frs_of hf
    have F2 := frs_of (fo_piece hf hv)
    have h1 : v + i < (dps l).length := by omega
    have h2 : i < (dps (pieceL l v)).length := by rw [fo_len, pl]; exact hi
    have s1 : stL S B l (p.map (Option.map fun c => v + c)) (v + i) = KW.run (stpD S) (begD B (mkL l)) (chD (dps l)) (dps l).length (lay (p.map (Option.map fun c => v + c))) (begD B (mkL l) (v + i) (lay (p.map (Option.map fun c => v + c)) (v + i))) (chD (dps l) (v + i)) := st_eq F1 _ h1
    have s2 : stL S B (pieceL l v) p i = KW.run (stpD S) (begD B (mkL (pieceL l v))) (chD (dps (pieceL l v))) (dps (pieceL l v)).length (lay p) (begD B (mkL (pieceL l v)) i (lay p i)) (chD (dps (pieceL l v)) i) := st_eq F2 _ h2
    rw [s1, s2, ch_piece hv hi, lay_shift]
    unfold KW.run
    rw [List.foldl_map]
    have eb : begD B (mkL l) (v + i) (lay p i) = begD B (mkL (pieceL l v)) i (lay p i) := by unfold begD; rw [mk_piece hv hi]
    rw [eb]
    refine foldl_congr fun s c hc => ?_
    obtain ⟨c1, c2, c3⟩ := (F2.sib i h2).mem hc
    have c4 := F2.up i h2
    rw [fo_len, pl] at c4
    have := st_piece (S := S) (B := B) hf hv p k c (by omega) (by omega)
    have this : st (stpD S) (begD B (mkL l)) (chD (dps l)) (dps l).length (lay (p.map (Option.map fun c => v + c))) (v + c) = st (stpD S) (begD B (mkL (pieceL l v))) (chD (dps (pieceL l v))) (dps (pieceL l v)).length (lay p) c := this
    rw [this]
theorem due_piece {S B : List (List Int)} {M : Nat} (hf : Fo 0 (dps l)) (hv : v < l.length) : nodeDue S B (pieceL l v) M 0 = nodeDue S B l M v := by
  have E := enD_is (ds := dps l) (v := v) (by rw [fo_len]; exact hv)
  have lo := E.lo
  have e0 := en_piece hv (i := 0) (by omega)
  rw [Nat.add_zero] at e0
  have ei : itv v (enD (dps l) v) = (itv 0 (enD (dps (pieceL l v)) 0)).map fun c => v + c := by
    unfold itv
    rw [e0, show v + enD (dps (pieceL l v)) 0 - v = enD (dps (pieceL l v)) 0 - 0 by omega, List.range'_eq_map_range, List.range'_eq_map_range, List.map_map]
    refine List.map_congr_left fun c _ => ?_
    show v + c = v + (0 + c)
    omega
  unfold nodeDue
  rw [ei, lays_map, List.map_map]
  refine congrArg addedG (List.map_congr_left fun p _ => ?_)
  have h := st_piece (S := S) (B := B) hf hv p (enD (dps l) v - v) 0 (by omega) (by omega)
  rw [Nat.add_zero] at h
  show ((stL S B (pieceL l v) p 0, (mask p : Int)), (1 : Int)) = ((stL S B l (p.map (Option.map fun c => v + c)) v, (mask (p.map (Option.map fun c => v + c)) : Int)), (1 : Int))
  rw [h, mask_shift]
end
theorem M8.of {l k : List (Str × Nat)} (h : M8 l) (s : ∀ p ∈ k, ∃ q ∈ l, p.1 = q.1) : M8 k := fun p hp => by
  obtain ⟨q, hq, e⟩ := s p hp
  rw [e]
  exact h q hq
theorem good_of {l k : List (Str × Nat)} {n m : Nat} (h : GoodDoc l n) (s : ∀ p ∈ k, ∃ q ∈ l, p.1 = q.1) (hf : Fo 0 (dps k)) (hm : k.length ≤ m) : GoodDoc k m := ⟨hf, hm, fun p hp => by
  obtain ⟨q, hq, e⟩ := s p hp
  rw [e]
  exact h.mks q hq⟩
theorem piece_marks (l : List (Str × Nat)) (v : Nat) : ∀ p ∈ pieceL l v, ∃ q ∈ l, p.1 = q.1 := fun p hp => by
  obtain ⟨q, hq, rfl⟩ := List.mem_map.mp hp
  exact ⟨q, List.mem_of_mem_drop (List.mem_of_mem_take hq), rfl⟩
theorem fo_take : ∀ (k : Nat) {ds : List Nat} {m : Nat}, Fo m ds → Fo m (ds.take k)
  | 0, _, _, _ => trivial
  | k + 1, [], _, _ => trivial
  | k + 1, d :: r, m, ⟨h1, h2⟩ => ⟨h1, fo_take k h2⟩
theorem cut_five (ds : List D) : KD.cutD ds none (some 5) = ds.take 5 := by
  by_cases h : 5 ≤ ds.length
  · exact cutD_to (b := 5) ds h
  · have e1 : ds.take 5 = ds := List.take_of_length_le (by omega)
    have e2 : HT.sIx ds.length 0 none = 0 := rfl
    have e3 : HT.sIx ds.length ds.length (some 5) = ds.length := by
      have := HT.sIx_nat ds.length ds.length 5
      rw [Nat.min_eq_right (by omega)] at this
      exact this
    rw [e1, KD.cutD, e2, e3]
    simp
end

end K67

set_option maxHeartbeats 4000000
namespace K67
open PySem PySem.Spec PyProof.Rows L2 KB KM
open KD hiding Dp
section
open KW
variable {P : Program} {w : World} {K : PySem.W.Frag} {mg : Str → Option Value} {base : Heap}
/-! ### nodes asked -/
theorem strOk8 : ∀ ch ∈ List.range' 97 8, PyData.strOk (⟨#[ch]⟩ : Str) = true := by decide +kernel
theorem pyD_doc {l : List (Str × Nat)} (h8 : M8 l) : ∃ p, pyD (.tup (docL l)) = some (.tuple p) ∧ SeqAt.shaped (.tuple p) = true ∧ PyData.eqv (.tuple p) (.tuple []) = decide (l = []) := by
  have k : ∀ l : List (Str × Nat), pyL (docL l) = some (l.map fun q => PyData.tuple [.str q.1, .int (q.2 : Nat)]) := by
    intro l
    induction l with
    | nil => rfl
    | cons q r ih =>
      unfold docL at ih ⊢
      simp only [List.map_cons, pyL, ih, ent, pyD]
      rfl
  refine ⟨l.map fun q => PyData.tuple [.str q.1, .int (q.2 : Nat)], by simp only [pyD, k]; rfl, ?_, ?_⟩
  · have h1 : ∀ l : List (Str × Nat), M8 l → PyData.canLayAll0 (l.map fun q => PyData.tuple [.str q.1, .int (q.2 : Nat)]) = true := by
      intro l
      induction l with
      | nil => intro _; rfl
      | cons x r ih =>
        intro h
        obtain ⟨ch, c1, c2, c3⟩ := h x List.mem_cons_self
        have e := strOk8 ch (List.mem_range'_1.mpr ⟨c1, c2⟩)
        rw [← c3] at e
        simp only [List.map_cons, PyData.canLayAll0, PyData.canLay0, ih (fun p hp => h p (List.mem_cons_of_mem _ hp)), e, Bool.and_self]
    have h2 : ∀ l : List (Str × Nat), PyData.depthAll (l.map fun q => PyData.tuple [.str q.1, .int (q.2 : Nat)]) ≤ 1 := by
      intro l
      induction l with
      | nil => exact Nat.zero_le _
      | cons x r ih =>
        simp only [List.map_cons, PyData.depthAll, PyData.depth]
        omega
    have := h2 l
    show (PyData.canLayAll0 (l.map fun q => PyData.tuple [.str q.1, .int (q.2 : Nat)]) && decide (PyData.depthAll (l.map fun q => PyData.tuple [.str q.1, .int (q.2 : Nat)]) + 1 ≤ 64)) = true
    rw [h1 l h8, Bool.true_and, decide_eq_true_eq]
    omega
  · cases l with
    | nil => rfl
    | cons x r => rfl
abbrev s__law_asked_two : Stmt := (top 60)
theorem sc__law_asked_two : FnScope ["script", "k", "feed", "many", "document", "great", "children", "size", "one", "other", "machine", "due", "depth", "piece", "mark", "below"] ["script"] (defScope s__law_asked_two) := ⟨rfl, rfl, rfl, by decide +kernel, rfl, by decide +kernel, by decide +kernel⟩
theorem bd_asked_two (T : Txt K mg) (C__law_feed : Cal P w K mg base 1 "_law_feed" (toSp (gb P w K) (spN soFeed))) (C__law_draw : Cal P w K mg base 1 "_law_draw" (toSp (gb P w K) (spFd soDraw))) (C__law_one : Cal P w K mg base 2 "_law_one" (toSp (gb P w K) (spFd soOne)))
    (C__law_oneS : Cal P w K mg base 2 "_law_one" (toSp (gb P w K) (spFd soOneS)))
    (C__law_document : Cal P w K mg base 3 "_law_document" (toSp (gb P w K) (spFd soDocument8))) (C__law_children : Cal P w K mg base 1 "_law_children" (toSp (gb P w K) (spO K soChildren))) (C__law_machine : Cal P w K mg base 3 "_law_machine" (toSp (gb P w K) (spFd soMachine)))
    (C__law_great_machine : Cal P w K mg base 3 "_law_great_machine" (toSp (gb P w K) (spFd soGreat))) (C__law_end : Cal P w K mg base 1 "_law_end" (toSp (gb P w K) (spO K soEnd)))
    (C__law_due_too : CalG P w K mg base 42 "_law_due_too" (toSp (gb P w K) (spO K soDueToo))) (C_node_ways : Cal P w K mg base 6 "node_ways" (toSp (gb P w K) (spO K soNodeWays))) : BodyG P w K mg base (42) ["script", "k", "feed", "many", "document", "great", "children", "size", "one", "other", "machine", "due", "depth", "piece", "mark", "below"] "_law_asked_two" (defScope s__law_asked_two) (defBody s__law_asked_two) (toSp (gb P w K) (spO K soAsked)) := by
  intro f cdv A outer s H vs Q E hG0 hr h
  have hu := hu_of hr
  have tk : Takes (cxOf (L2.CX P w) P w K mg base ["script", "k", "feed", "many", "document", "great", "children", "size", "one", "other", "machine", "due", "depth", "piece", "mark", "below"] "_law_asked_two" (defScope s__law_asked_two) f cdv A outer s H E) (WF E) := takes_of rfl rfl rfl rfl
  have hG : (cxOf (L2.CX P w) P w K mg base ["script", "k", "feed", "many", "document", "great", "children", "size", "one", "other", "machine", "due", "depth", "piece", "mark", "below"] "_law_asked_two" (defScope s__law_asked_two) f cdv A outer s H E).A.guards = some [] := hG0
  have hu64 : (cxOf (L2.CX P w) P w K mg base ["script", "k", "feed", "many", "document", "great", "children", "size", "one", "other", "machine", "due", "depth", "piece", "mark", "below"] "_law_asked_two" (defScope s__law_asked_two) f cdv A outer s H E).A.units + 64 < cLine := hr.units
  refine ⟨_, (pss_cons (ps_for (passes_of rfl) rfl (pi_range1 rfl T.g_range (pa_cons (pe_callB (call_max2K rfl) (by rfl) T.g_max (by decide +kernel) (pa_cons pe_int (pa_cons (pe_callB (call_min2K rfl) (by rfl) T.g_min (by decide +kernel) (pa_cons pe_int (pa_cons (pe_callB call_lenK (by rfl) T.g_len (by decide +kernel) (pa_cons (pv 0) pa_nil)) pa_nil))) pa_nil))) pa_nil)) (pg_name (i := 1) sc__law_asked_two.nd rfl (Or.inl rfl)) (pss_cons (ps_setO (i := 2) sc__law_asked_two.nd rfl (Or.inl rfl) (pe_cal C__law_feed hr (by omega) tk (pa_cons (pv 0) (pa_cons (pv 1) pa_nil))))
    (pss_cons (ps_set (i := 3) sc__law_asked_two.nd rfl (Or.inl rfl) (pe_cal C__law_one hr (by omega) tk (pa_cons (pv 2) (pa_cons (pe_lst (pa_cons pe_int (pa_cons pe_int (pa_cons pe_int (pa_cons pe_int (pa_cons pe_int (pa_cons pe_int (pa_cons pe_int (pa_cons pe_int (pa_cons pe_int pa_nil)))))))))) pa_nil))))
    (pss_cons (ps_set (i := 4) sc__law_asked_two.nd rfl (Or.inl rfl) (pe_cal C__law_document hr (by omega) tk (pa_cons (pv 2) (pa_cons (pe_ix ix_seq (pe_lst (pa_cons pe_int (pa_cons pe_int (pa_cons pe_int (pa_cons pe_int (pa_cons pe_int (pa_cons pe_int pa_nil))))))) (pv 3) (fun _ _ => rfl)) pa_nil))))
    (Evl.pss_cut (ps_set (i := 5) sc__law_asked_two.nd rfl (Or.inl rfl) (pe_and (pe_cmpR op_eq (pv 1) pe_int (nomark _)) (pe_one (pe_cmpR op_eq (pe_cal C__law_draw hr (by omega) tk (pa_cons (pv 2) (pa_cons pe_int pa_nil))) pe_int (nomark _)))))
    (Evl.pss_cut (ps_if (pt_cmpR (op_eqD hr.units) (pv 4) (pe_tup pa_nil) (nomark _)) (pss_one (ps_set (i := 4) sc__law_asked_two.nd rfl (Or.inl rfl) (pe_tup (pa_cons (pe_tup (pa_cons (pe_cal C__law_oneS hr (by omega) tk (pa_cons (pv 2) (pa_cons pe_str pa_nil))) (pa_cons pe_int pa_nil))) pa_nil)))) pss_nil)
    (Evl.pss_cut (ps_if (pt_val (pv 5)) (pss_one (ps_set (i := 4) sc__law_asked_two.nd rfl (Or.inl rfl) (pe_slice sl_tupA (pv 4) po_none (po_some pe_int)))) pss_nil)
    (pss_cons (ps_par (i := 6) (j := 7) (by rfl) sc__law_asked_two.nd rfl rfl (by decide) rfl rfl (pa_cons (pe_cal C__law_children hr (by omega) tk (pa_cons (pv 4) pa_nil)) (pa_cons (pe_callB call_lenK (by rfl) T.g_len (by decide +kernel) (pa_cons (pv 4) pa_nil)) pa_nil)) (by rfl))
    (Evl.pss_cut (ps_set (i := 8) sc__law_asked_two.nd rfl (Or.inl rfl) (pe_ifExp (pt_cmpR op_eq (pe_cal C__law_draw hr (by omega) tk (pa_cons (pv 2) (pa_cons pe_int pa_nil))) pe_int (nomark _)) pe_int (pe_cal C__law_draw hr (by omega) tk (pa_cons (pv 2) (pa_cons (pv 7) pa_nil)))))
    (pss_cons (ps_set (i := 9) sc__law_asked_two.nd rfl (Or.inl rfl) (pe_cal C__law_draw hr (by omega) tk (pa_cons (pv 2) (pa_cons (pv 7) pa_nil))))
    (pss_cons (ps_set (i := 10) sc__law_asked_two.nd rfl (Or.inl rfl) (pe_cal C__law_machine hr (by omega) tk (pa_cons (pv 2) (pa_cons (pv 3) (pa_cons (pe_op op_add pe_int (pe_cal C__law_draw hr (by omega) tk (pa_cons (pv 2) (pa_cons pe_int pa_nil)))) pa_nil)))))
    (Evl.pss_cut (ps_if (pt_val (pv 5)) (pss_one (ps_set (i := 10) sc__law_asked_two.nd rfl (Or.inl rfl) (pe_cal C__law_great_machine hr (by omega) tk (pa_cons (pv 2) (pa_cons (pv 3) pa_nil))))) pss_nil)
    (pss_cons (ps_set (i := 11) sc__law_asked_two.nd rfl (Or.inl rfl) (pe_calG C__law_due_too hG hr (by omega) tk (pa_cons (pv 10) (pa_cons (pv 4) (pa_cons (pv 6) (pa_cons (pv 8) pa_nil))))))
    (pss_cons (ps_if (pt_cmpR op_ne (pe_callB (call_reprG hG hu64) (by rfl) T.g_repr (by decide +kernel) (pa_cons (pe_cal C_node_ways hr (by omega) tk (pa_cons (pv 10) (pa_cons (pv 4) (pa_cons (pv 8) pa_nil)))) pa_nil)) (pv 11) (nomark _)) (pss_one (ps_ret pe_bl)) pss_nil)
    (pss_cons (ps_if (pt_cmpR op_ne (pe_callB (call_reprG hG hu64) (by rfl) T.g_repr (by decide +kernel) (pa_cons (pe_cal C_node_ways hr (by omega) tk (pa_cons (pv 10) (pa_cons (pv 4) (pa_cons (pv 9) pa_nil)))) pa_nil)) (pe_calG C__law_due_too hG hr (by omega) tk (pa_cons (pv 10) (pa_cons (pv 4) (pa_cons (pv 6) (pa_cons (pv 9) pa_nil))))) (nomark _)) (pss_one (ps_ret pe_bl)) pss_nil)
    (pss_cons (ps_set (i := 12) sc__law_asked_two.nd rfl (Or.inr rfl) (pe_ix ix_seq (pe_ix ix_seq (pv 4) (pv 8) (fun _ _ => rfl)) pe_int (fun _ _ => rfl)))
    (pss_cons (ps_set (i := 13) sc__law_asked_two.nd rfl (Or.inl rfl) (pe_callTy call_tupD (by rfl) T.g_tuple (by decide +kernel) (pa_cons (pe_lc (own := [("mark", 14), ("below", 15)]) (g := (gTup K 2 (gCons (gName 14) (gCons (gName 15) gNil)))) (by rfl) sc__law_asked_two.nd  (pi_tup (pe_slice sl_tupA (pv 4) (po_some (pv 8)) (po_some (pe_cal C__law_end hr (by omega) takesN (pa_cons (pv 4) (pa_cons (pv 8) pa_nil)))))) (blkOk_by (own := [("mark", 14), ("below", 15)]) (N := ["script", "k", "feed", "many", "document", "great", "children", "size", "one", "other", "machine", "due", "depth", "piece", "mark", "below"]) (sc := defScope s__law_asked_two) (by decide +kernel)) (fun _ _ _ _ _ => (pg_tup (n := 2) (by rfl) (pgs_cons (pg_name (i := 14) sc__law_asked_two.nd rfl (Or.inl rfl)) (pgs_cons (pg_name (i := 15) sc__law_asked_two.nd rfl (Or.inl rfl)) pgs_nil)))) (fun _ _ _ _ _ => pts_nil) (fun _ _ _ _ _ => (pe_tup (pa_cons (pv 14) (pa_cons (pe_op op_sub (pv 15) (pv 12)) pa_nil))))) pa_nil)))
    (pss_one (ps_if (PW.pt (pw_or (pt_cmpR op_ne (pe_callB (call_reprG hG hu64) (by rfl) T.g_repr (by decide +kernel) (pa_cons (pe_cal C_node_ways hr (by omega) tk (pa_cons (pv 10) (pa_cons (pv 13) (pa_cons pe_int pa_nil)))) pa_nil)) (pv 11) (nomark _)) (pw_or1 (pt_cmpR op_ne (pe_callB (call_reprG hG hu64) (by rfl) T.g_repr (by decide +kernel) (pa_cons (pe_cal C_node_ways hr (by omega) tk (pa_cons (pv 10) (pa_cons (pv 4) (pa_cons (pv 8) pa_nil)))) pa_nil)) (pv 11) (nomark _))))) (pss_one (ps_ret pe_bl)) pss_nil)))))))))))))))))))
    (pss_one (ps_ret pe_bl))), ?_⟩
  try dsimp only [cxOf]
  refine d_startO h fun ds out hS c hx hM => ?_
  obtain ⟨ns, rfl, hb, hl, rfl⟩ := hS
  have hz : (1000000 : Nat) < sizeLine := by decide
  refine d_st (δ' := [.fz (.ro (ns.map D.int)), .no, .no, .no, .no, .no, .no, .no, .no, .no, .no, .no, .no, .no, .no, .no]) (by rfl) ?_
  walk_at "dw"
  refine d_for ?_
  walk_at "dw"
  rw [List.length_map]
  refine ⟨_, rfl, by omega, by omega, ?_⟩
  refine ⟨fun i δ => ∃ s1 s2 s3 s4 s5 s6 s7 s8 s9 s10 s11 s12 s13, δ = [.fz (.ro (ns.map D.int)), s1, s2, s3, s4, s5, s6, s7, s8, s9, s10, s11, s12, s13, .no, .no], ⟨_, _, _, _, _, _, _, _, _, _, _, _, _, rfl⟩, fun _ _ _ => trivial, ?_, ?_⟩
  · rintro i δ hi ⟨s1, s2, s3, s4, s5, s6, s7, s8, s9, s10, s11, s12, s13, rfl⟩
    have hi8 : i < 8 := by omega
    dsimp only
    rw [Int.zero_add]
    walk_at "dw"
    refine d_callN hx ?_
    walk_at "dw"
    refine ⟨_, _, rfl, ⟨ns, i, rfl, hb, by omega, rfl⟩, ?_⟩
    rintro r ⟨fd, ys0, rfl, hF0⟩
    walk_at "dw"
    refine d_callF hx ?_
    walk_at "dw"
    intro p1
    walk_at "dw"
    refine ⟨2, _, fd, ys0, _, _, 1, _, rfl, rfl, rfl, hF0, by decide, ⟨_, _, rfl, rfl, by simp, by simp, rfl, rfl⟩, ?_⟩
    rintro r ys1 hF1 ⟨mn, hmn, rfl⟩
    obtain ⟨M, most, rfl, hM5, hm30, hm243, hat⟩ := many_of hmn
    have pw : (2 ^ M : Nat) ≤ 32 := Nat.le_trans (Nat.pow_le_pow_right (by decide) hM5) (by decide)
    walk_at "dw"
    refine d_callF hx ?_
    walk_at "dw"
    intro p2
    walk_at "dw"
    refine d_ix (i := (M : Nat)) rfl rfl hat ?_
    walk_at "dw"
    refine ⟨2, _, fd, ys1, _, _, 3 + 3 * most, _, rfl, rfl, rfl, hF1, by omega, ⟨most, rfl, by omega, rfl, rfl⟩, ?_⟩
    rintro r ys2 hF2 ⟨l0, rfl, hg0, h80⟩
    walk_at "dw"
    refine d_cut (fun δ => ∃ (ys : List D) (gr : Bool), δ = [.fz (.ro (ns.map D.int)), .fz (.int i), .ow (.fl fd ys), .fz (.int M), .fz (.tup (docL l0)), .fz (.bl gr), s6, s7, s8, s9, s10, s11, s12, s13, .no, .no] ∧ FdD 200 ys) ?_ ?_
    · walk_at "dw"
      refine i_dec (fun z => ?_) (fun z => ?_)
      · walk_at "dw"
        refine d_callF hx ?_
        walk_at "dw"
        refine ⟨2, _, fd, ys2, _, _, 1, _, rfl, rfl, rfl, hF2, by omega, ⟨_, rfl, by decide, by decide, rfl, rfl⟩, ?_⟩
        rintro r ys3 hF3 ⟨j, hj, rfl⟩
        walk_at "dw"
        exact ⟨ys3, _, rfl, hF3.mono (by omega)⟩
      · walk_at "dw"
        exact ⟨ys2, false, rfl, hF2.mono (by omega)⟩
    rintro δ ⟨ys3, gr, rfl, hF3⟩
    walk_at "dw"
    refine d_cut (fun δ => ∃ (ys : List D) (l : List (Str × Nat)), δ = [.fz (.ro (ns.map D.int)), .fz (.int i), .ow (.fl fd ys), .fz (.int M), .fz (.tup (docL l)), .fz (.bl gr), s6, s7, s8, s9, s10, s11, s12, s13, .no, .no] ∧ FdD 201 ys ∧ GoodDoc l 30 ∧ M8 l ∧ 0 < l.length ∧ (l.length + 1) ^ M ≤ 243) ?_ ?_
    · walk_at "dw"
      obtain ⟨pd, e1, e2, e3⟩ := pyD_doc h80
      refine d_eqD (p := .tuple pd) (p' := .tuple []) rfl rfl e1 rfl e2 (by decide) ?_
      rw [e3]
      walk_at "dw"
      refine i_dec (fun z => ?_) (fun z => ?_)
      · walk_at "dw"
        refine d_callF hx ?_
        walk_at "dw"
        refine ⟨2, _, fd, ys3, _, _, 1, _, rfl, rfl, rfl, hF3, by omega, ⟨"abcdefgh", rfl, by decide, by decide, rfl, rfl⟩, ?_⟩
        rintro r ys4 hF4 ⟨j, ch, hch, rfl⟩
        have h8m : Mks8 "abcdefgh" := mks8_of (by decide +kernel)
        obtain ⟨c1, c2, c3⟩ := h8m.2.2 j ch hch
        walk_at "dw"
        refine ⟨ys4, [(⟨#[ch]⟩, 0)], rfl, hF4.mono (by omega), ⟨⟨Nat.le_refl _, trivial⟩, by simp, fun p hp => by rw [List.mem_singleton.mp hp]; exact c1⟩, fun p hp => by rw [List.mem_singleton.mp hp]; exact ⟨ch, c2, c3, rfl⟩, by simp, ?_⟩
        exact Nat.le_trans pw (by decide)
      · walk_at "dw"
        have hlen := hg0.len
        exact ⟨ys3, l0, rfl, hF3.mono (by omega), hg0.mono hm30, h80, List.length_pos_iff.mpr z, Nat.le_trans (Nat.pow_le_pow_left (by omega) M) hm243⟩
    clear hg0 h80 hm243
    rintro δ ⟨ys4, l1, rfl, hF4, hg1, h81, hpos1, hpow1⟩
    walk_at "dw"
    refine d_cut (fun δ => ∃ (l : List (Str × Nat)), δ = [.fz (.ro (ns.map D.int)), .fz (.int i), .ow (.fl fd ys4), .fz (.int M), .fz (.tup (docL l)), .fz (.bl gr), s6, s7, s8, s9, s10, s11, s12, s13, .no, .no] ∧ GoodDoc l 30 ∧ M8 l ∧ 0 < l.length ∧ (l.length + 1) ^ M ≤ 243) ?_ ?_
    · walk_at "dw"
      cases gr with
      | false =>
        walk_at "dw"
        exact ⟨l1, rfl, hg1, h81, hpos1, hpow1⟩
      | true =>
        walk_at "dw"
        refine d_slT rfl rfl ?_
        rw [cut_five]
        walk_at "dw"
        have ml : ∀ p ∈ l1.take 5, ∃ q ∈ l1, p.1 = q.1 := fun p hp => ⟨p, List.mem_of_mem_take hp, rfl⟩
        have tl : (l1.take 5).length ≤ l1.length := by rw [List.length_take]; omega
        have hl1 := hg1.len
        refine ⟨l1.take 5, ?_, good_of hg1 ml ?_ (by omega), h81.of ml, by rw [List.length_take]; omega, Nat.le_trans (Nat.pow_le_pow_left (by omega) M) hpow1⟩
        · rw [docL, docL, List.map_take]
          rfl
        · show Fo 0 ((l1.take 5).map (·.2))
          rw [List.map_take]
          exact fo_take 5 hg1.fo
    clear hg1 h81 hpos1 hpow1
    rintro δ ⟨l, rfl, hg, h8, hpos, hpow⟩
    have hlen := hg.len
    have ld := fo_len l
    have hb3 : (l.length + 1) ^ M ≤ 300000 := by omega
    have hb6 : (l.length + 1) ^ M ≤ 1000000 := by omega
    walk_at "dw"
    refine d_callL hx ?_
    walk_at "dw"
    refine ⟨_, _, rfl, ⟨l, rfl, hg.fo, by omega, rfl⟩, fun a3 => ?_⟩
    walk_at "dw"
    rw [docL_len]
    refine d_cut (fun δ => ∃ (ys : List D) (one : Nat), δ = [.fz (.ro (ns.map D.int)), .fz (.int i), .ow (.fl fd ys), .fz (.int M), .fz (.tup (docL l)), .fz (.bl gr), .fz (.lst (chL l)), .fz (.int l.length), .fz (.int one), s9, s10, s11, s12, s13, .no, .no] ∧ FdD 210 ys ∧ one < l.length) ?_ ?_
    · walk_at "dw"
      refine d_callF hx ?_
      walk_at "dw"
      refine ⟨2, _, fd, ys4, _, _, 1, _, rfl, rfl, rfl, hF4, by omega, ⟨_, rfl, by decide, by decide, rfl, rfl⟩, ?_⟩
      rintro r ys5 hF5 ⟨j, hj, rfl⟩
      walk_at "dw"
      refine i_dec (fun z => ?_) (fun z => ?_)
      · walk_at "dw"
        exact ⟨ys5, 0, rfl, hF5.mono (by omega), hpos⟩
      · walk_at "dw"
        refine d_callF hx ?_
        walk_at "dw"
        refine ⟨2, _, fd, ys5, _, _, 1, _, rfl, rfl, rfl, hF5, by omega, ⟨_, rfl, by omega, by omega, rfl, rfl⟩, ?_⟩
        rintro r ys6 hF6 ⟨x, hxx, rfl⟩
        walk_at "dw"
        exact ⟨ys6, x, rfl, hF6.mono (by omega), by omega⟩
    rintro δ ⟨ys5, one, rfl, hF5, hone⟩
    walk_at "dw"
    refine d_callF hx ?_
    walk_at "dw"
    refine ⟨2, _, fd, ys5, _, _, 1, _, rfl, rfl, rfl, hF5, by omega, ⟨_, rfl, by omega, by omega, rfl, rfl⟩, ?_⟩
    rintro r ys6 hF6 ⟨other, hother, rfl⟩
    have hother : other < l.length := by omega
    walk_at "dw"
    refine d_callF hx ?_
    walk_at "dw"
    refine d_callF hx ?_
    walk_at "dw"
    refine ⟨2, _, fd, ys6, _, _, 1, _, rfl, rfl, rfl, hF6, by omega, ⟨_, rfl, by decide, by decide, rfl, rfl⟩, ?_⟩
    rintro r ys7 hF7 ⟨x6, hx6, rfl⟩
    have sq : (1 + x6) * (1 + x6) ≤ 6 * 6 := Nat.mul_le_mul (by omega) (by omega)
    walk_at "dw"
    refine ⟨2, _, fd, ys7, _, _, _, _, rfl, rfl, rfl, hF7, ?_, ⟨M, 1 + x6, ?_, hM5, by omega, by omega, rfl, rfl⟩, ?_⟩
    · omega
    · rw [show ((1 + x6 : Nat) : Int) = 1 + (x6 : Int) by omega]
    rintro r ys8 hF8 ⟨N, B, tp, S, gd, rfl, md, lS⟩
    walk_at "dw"
    refine d_cut (fun δ => ∃ (ys : List D) (N : List Str) (B : List (List Int)) (tp : Int) (S : List (List Int)) (gd : List Int), δ = [.fz (.ro (ns.map D.int)), .fz (.int i), .ow (.fl fd ys), .fz (.int M), .fz (.tup (docL l)), .fz (.bl gr), .fz (.lst (chL l)), .fz (.int l.length), .fz (.int one), .fz (.int other), .fz (machD N B tp S gd), s11, s12, s13, .no, .no] ∧ MD N B tp S gd M) ?_ ?_
    · walk_at "dw"
      cases gr with
      | false =>
        walk_at "dw"
        exact ⟨ys8, N, B, tp, S, gd, rfl, md⟩
      | true =>
        walk_at "dw"
        refine d_callF hx ?_
        walk_at "dw"
        refine ⟨2, _, fd, ys8, _, _, 15, _, rfl, rfl, rfl, hF8, by omega, ⟨M, rfl, hM5, rfl, rfl⟩, ?_⟩
        rintro r ys9 hF9 ⟨N2, B2, tp2, S2, gd2, rfl, md2⟩
        walk_at "dw"
        exact ⟨ys9, N2, B2, tp2, S2, gd2, rfl, md2⟩
    clear md lS hF8
    rintro δ ⟨ys9, N, B, tp, S, gd, rfl, md⟩
    have small : ∀ v, v < l.length → SmallT (srt ((nodeDue S B l M v).map trip)) := fun v hv => small_node md.mo h8 hg.fo hv hb3
    have spec : ∀ v : Nat, v < l.length → soNodeWays [machD N B tp S gd, .tup (docL l), .int (v : Nat)] (.ret (.tup ((srt ((nodeDue S B l M v).map trip)).map tiD))) := fun v hv =>
      ⟨l, N, B, tp, S, gd, M, v, rfl, md, hg.mono (by omega), h8, hv, hb6, rfl⟩
    have due : ∀ v : Nat, v < l.length → soDueToo [machD N B tp S gd, .tup (docL l), .lst (chL l), .int (v : Nat)] (.ret (.str (rep (srt ((nodeDue S B l M v).map trip))))) := fun v hv =>
      ⟨l, N, B, tp, S, gd, M, v, rfl, md.mo, md.nm, h8, hg.fo, by omega, hv, hb3, rfl⟩
    walk_at "dw"
    refine d_callR hx ?_
    walk_at "dw"
    refine ⟨_, _, rfl, due one hone, ?_⟩
    walk_at "dw"
    refine d_callR hx ?_
    walk_at "dw"
    refine ⟨_, _, rfl, spec one hone, ?_⟩
    walk_at "dw"
    refine d_rep rfl rfl (small one hone) ?_
    walk_at "dw"
    rw [decide_eq_true (rfl : rep _ = rep _)]
    walk_at "dw"
    refine d_callR hx ?_
    walk_at "dw"
    refine ⟨_, _, rfl, spec other hother, ?_⟩
    walk_at "dw"
    refine d_rep rfl rfl (small other hother) ?_
    walk_at "dw"
    refine d_callR hx ?_
    walk_at "dw"
    refine ⟨_, _, rfl, due other hother, ?_⟩
    walk_at "dw"
    rw [decide_eq_true (rfl : rep _ = rep _)]
    walk_at "dw"
    refine d_ix (i := (one : Nat)) rfl rfl (docL_at hone) ?_
    walk_at "dw"
    refine d_ix (i := 1) (d := .int ((dps l).getD one 0 : Nat)) rfl rfl rfl ?_
    walk_at "dw"
    have E := enD_is (ds := dps l) (v := one) (by omega)
    have ehi := E.hi
    have elo := E.lo
    have pl := piece_len hone
    refine d_lcP (only_tup (only_cons (only_name (by decide)) (only_cons (only_name (by decide)) only_nil))) ?_
    walk_at "dw"
    refine d_callR (ok0 c) ?_
    walk_at "dw"
    refine ⟨_, _, rfl, ⟨l, one, _, rfl, hone, by omega, E, rfl⟩, ?_⟩
    walk_at "dw"
    refine d_slT rfl rfl ?_
    rw [cutD_nat _ (by omega) (by rw [docL_len]; omega)]
    have dl : ((docL l).drop one).take (enD (dps l) one - one) = docL ((l.drop one).take (enD (dps l) one - one)) := by
      rw [docL, docL, List.map_take, List.map_drop]
    have dlen : (docL ((l.drop one).take (enD (dps l) one - one))).length = enD (dps l) one - one := by
      rw [docL_len, List.length_take, List.length_drop]; omega
    rw [dl]
    refine ⟨_, rfl, ?_⟩
    rw [dlen]
    refine ⟨by omega, trivial, rfl, fun j => ent ((pieceL l one).getD j ("", 0)), fun c2 j hj => ?_, fun a6 => ?_⟩
    · have e1 : (docL ((l.drop one).take (enD (dps l) one - one))).getD j .non = .tup [.str (l.getD (one + j) ("", 0)).1, .int ((dps l).getD (one + j) 0 : Nat)] := by
        have hlt : one + j < l.length := by omega
        rw [List.getD_eq_getElem?_getD, docL, List.getElem?_map, List.getElem?_take, if_pos hj, List.getElem?_drop, List.getElem?_eq_getElem hlt]
        have e2 : l.getD (one + j) ("", 0) = l[one + j] := by rw [List.getD_eq_getElem?_getD, List.getElem?_eq_getElem hlt]; rfl
        have e3 : (dps l).getD (one + j) 0 = l[one + j].2 := by rw [List.getD_eq_getElem?_getD, List.getElem?_map, List.getElem?_eq_getElem hlt]; rfl
        rw [e2, e3]
        rfl
      dsimp only
      rw [e1, piece_at hone hj]
      have ge := (piece_ge hone hj).1
      walk_at "dw"
      refine ⟨?_, rfl⟩
      show KD.R.fz (.tup [.str _, .int _]) = KD.R.fz (.tup [.str _, .int _])
      congr 4
      refine congrArg D.int ?_
      omega
    have ePc : ((List.range (enD (dps l) one - one)).map fun j => ent ((pieceL l one).getD j ("", 0))) = docL (pieceL l one) := by
      rw [← pl, range_getD (pieceL l one) ("", 0) ent]
      rfl
    rw [ePc]
    have gp : GoodDoc (pieceL l one) 20000 := good_of hg (piece_marks l one) (fo_piece hg.fo hone) (by rw [pl]; omega)
    have m8p : M8 (pieceL l one) := h8.of (piece_marks l one)
    have ppos : 0 < (pieceL l one).length := by rw [pl]; omega
    have hbp : ((pieceL l one).length + 1) ^ M ≤ 1000000 := Nat.le_trans (Nat.pow_le_pow_left (by rw [pl]; omega) M) hb6
    have specP : soNodeWays [machD N B tp S gd, .tup (docL (pieceL l one)), .int 0] (.ret (.tup ((srt ((nodeDue S B l M one).map trip)).map tiD))) :=
      ⟨pieceL l one, N, B, tp, S, gd, M, 0, rfl, md, gp, m8p, ppos, hbp, by rw [due_piece hg.fo hone]⟩
    walk_at "dw"
    refine d_callR hx ?_
    walk_at "dw"
    refine ⟨_, _, rfl, specP, ?_⟩
    walk_at "dw"
    refine d_rep rfl rfl (small one hone) ?_
    walk_at "dw"
    rw [decide_eq_true (rfl : rep _ = rep _)]
    walk_at "dw"
    refine d_callR hx ?_
    walk_at "dw"
    refine ⟨_, _, rfl, spec one hone, ?_⟩
    walk_at "dw"
    refine d_rep rfl rfl (small one hone) ?_
    walk_at "dw"
    rw [decide_eq_true (rfl : rep _ = rep _)]
    walk_at "dw"
    exact ⟨_, _, _, _, _, _, _, _, _, _, _, _, _, rfl⟩
  · rintro δ ⟨s1, s2, s3, s4, s5, s6, s7, s8, s9, s10, s11, s12, s13, rfl⟩
    walk_at "dw"
    rfl
theorem cd_asked_two (T : Txt K mg) : CalG P w K mg base 43 "_law_asked_two" (toSp (gb P w K) (spO K soAsked)) := T.d__law_asked_two.calG sc__law_asked_two (len_spO fun ds out ⟨_, h, _⟩ => by rw [h]; rfl)
  (bd_asked_two T (cd_feed T) (cd_draw T) (cd_one T) (cd_oneS T) (cd_law_document8 T) (cd_children T) (cd_machine T) (cd_great T) (cd_law_end T) (cd_due_too T) (cd_node_ways T))
/-! ### law -/
abbrev s_law : Stmt := (top 61)
theorem sc_law : FnScope ["script"] ["script"] (defScope s_law) := ⟨rfl, rfl, rfl, by decide +kernel, rfl, by decide +kernel, by decide +kernel⟩
theorem lawG (T : Txt K mg) : BodyG P w K mg base (99) ["script"] "law" (defScope s_law) (defBody s_law) (toSp (gb P w K) (spO K soAsked)) := by
  have C__law_asked_one : CalG P w K mg base 43 "_law_asked_one" (toSp (gb P w K) (spO K soAsked)) := cd_asked_one T
  have C__law_asked_two : CalG P w K mg base 43 "_law_asked_two" (toSp (gb P w K) (spO K soAsked)) := cd_asked_two T
  intro f cdv A outer s H vs Q E hG0 hr h
  have hu := hu_of hr
  have tk : Takes (cxOf (L2.CX P w) P w K mg base ["script"] "law" (defScope s_law) f cdv A outer s H E) (WF E) := takes_of rfl rfl rfl rfl
  have hG : (cxOf (L2.CX P w) P w K mg base ["script"] "law" (defScope s_law) f cdv A outer s H E).A.guards = some [] := hG0
  have hu64 : (cxOf (L2.CX P w) P w K mg base ["script"] "law" (defScope s_law) f cdv A outer s H E).A.units + 64 < cLine := hr.units
  refine ⟨_, (pss_one (ps_ret (pe_and (pe_calG C__law_asked_one hG hr (by omega) tk (pa_cons (pv 0) pa_nil)) (pe_one (pe_calG C__law_asked_two hG hr (by omega) tk (pa_cons (pv 0) pa_nil)))))), ?_⟩
  try dsimp only [cxOf]
  refine d_startO h fun ds out hS c hx hM => ?_
  obtain ⟨ns, rfl, hb, hl, rfl⟩ := hS
  refine d_st (δ' := [.fz (.ro (ns.map D.int))]) (by rfl) ?_
  walk_at "dw"
  refine d_callR hx ?_
  walk_at "dw"
  refine ⟨_, _, rfl, ⟨ns, rfl, hb, hl, rfl⟩, ?_⟩
  walk_at "dw"
  refine d_callR hx ?_
  walk_at "dw"
  refine ⟨_, _, rfl, ⟨ns, rfl, hb, hl, rfl⟩, ?_⟩
  rfl
theorem law_sp {a : Addr} {ns : List Int} {H : Hp} (hS : SqL K H a (ns.map V.int)) (hb : ∀ z ∈ ns, ib z ≤ 1048576) (hl : ns.length ≤ 63) : toSp (gb P w K) (spO K soAsked) [.ref a] H (fun v _ => v = .bl true) fun _ _ _ => False := by
  obtain ⟨F, ent⟩ := script_ent (g := gb P w K) hS
  refine to_old F ent ⟨_, _, rfl, ⟨ns, rfl, hb, hl, rfl⟩, rfl⟩ rfl (fun r os v H' F' h s rn => ?_) (fun C os z => z.2.elim)
  obtain ⟨rfl, rfl⟩ := h
  cases rn
  rfl
end

end K67

set_option maxHeartbeats 0
open PySem PySem.W PySem.Calls PyProof.Rows
theorem PySem.Challenge.cw_lawfulpages_k67_whole_row_ways_by_laying_holds : PySem.Challenge.rw_lawfulpages_k67_whole_row_ways_by_laying.Holds := by
  w_on; o_law
  refine HandSHeadRun.head_any (r := OpenLaw.row PySem.Challenge.rw_lawfulpages_k67_whole_row_ways_by_laying) (q := view (OpenLaw.row PySem.Challenge.rw_lawfulpages_k67_whole_row_ways_by_laying).prog [K67.lawAt]) (H := K67.hdK) (ob := K67.hdOb) (M := 6000) (loose := K67.names)
    (d := HandSHeadRun.topDef (OpenLaw.row PySem.Challenge.rw_lawfulpages_k67_whole_row_ways_by_laying).prog K67.lawAt) (kwd := []) K67.hdOb_eq
    (by kernel_rfl) (fun s => by kernel_rfl) K67.hdRun (by kernel_rfl) (by kernel_rfl) (by kernel_rfl) (by rfl) (by first | assumption | decide +kernel) (by decide +kernel) ⟨rfl, rfl, rfl, rfl, rfl, by decide +kernel⟩ ?hw ?hc
  case hw => w_witness2
  case hc =>
    refine KB.walk_ofG (l := PySem.Challenge.rw_lawfulpages_k67_whole_row_ways_by_laying) (n := 63) (k := 100) (x := "script") rfl (by decide) (by kernel_rfl) ⟨rfl, by decide, by decide⟩ ?F
    intro w mg fa h Y G hmg0
    obtain ⟨K, KX, c⟩ := Y
    have hmg : mg ("law" : PySem.Str) = some (.ref fa) := by
      have e : (HandSHeadRun.topDef (OpenLaw.row PySem.Challenge.rw_lawfulpages_k67_whole_row_ways_by_laying).prog K67.lawAt).name = ("law" : PySem.Str) := by kernel_rfl
      rw [← e]
      exact hmg0
    have cd := c.t.d
    have T := K67.txt_of KX G cd c.more
    obtain ⟨fd, F⟩ := K67.law_def cd
    have e := hmg.symm.trans (K67.law_glo KX G cd)
    cases e
    refine ⟨K, fd, KD.toSp ⟨PySem.Challenge.rw_lawfulpages_k67_whole_row_ways_by_laying.prog, w, K⟩ (KD.spO K K67.soAsked), KX, ?_, fun H a ns hl hb _ hS => K67.law_sp (P := PySem.Challenge.rw_lawfulpages_k67_whole_row_ways_by_laying.prog) hS hb hl, fun base _ _ => ?_⟩
    · have b := L2.FunD.bindsA (ps := ["script"]) F fun _ _ _ _ _ _ us hl => match us, hl with | [_], _ => rfl
      exact fun s v => b s [v] rfl
    · exact KB.fnG_of F K67.sc_law (KD.len_spO fun ds out ⟨_, h, _⟩ => by rw [h]; rfl) (K67.lawG T)
#print axioms PySem.Challenge.cw_lawfulpages_k67_whole_row_ways_by_laying_holds
end
end
