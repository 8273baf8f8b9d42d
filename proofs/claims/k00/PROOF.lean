import PyProof.Rows.All
import Wide.All
import OpenK.AllK
import Wide.FinOn
import KE.KStateDown
import Lean
import HandS.ForMost
import HandS.More
import HandS.TryOnly
import HandS.ExcOwn
import HandS.WordsExc
import HandS.Flow
import HandS.IsInst
import HandS.Star
import HandS.TupAny
import HandS.Deep
import HandS.Defaults
import HandS.Head0
import HandS.Head1
import HandS.Head2
import HandS.HeadEnd
import HandS.HeadHook1
import HandS.HeadHook2
import KE.KExcInit
import HandS.ExcInit
import HandS.ExcField
import HandS.ExcValue
import HandS.ExcIs
import KE.KExcRaise
import KE.KExcIs
import PySem.Challenge.RW_checkwright_k00_errors
import HandS.ExcCtx
import HandS.HotCalls
set_option Elab.async false
set_option linter.all false
set_option maxRecDepth 100000
set_option maxHeartbeats 4000000
namespace L2
open PySem
theorem Same.mut {H H' : Hp} {p : Addr} {o : HO} (e : Same H H') (h : H p = none) : Same H (upd H' p o) := fun a u ha => by
  rw [upd_ne (ne_of_none ha h)]
  exact e a u ha
theorem Same.new {H : Hp} {p : Addr} {o : HO} (h : H p = none) : Same H (upd H p o) := (Same.refl H).mut h
end L2
/-! the base: a hook with any test of the written part, defs as constants, promises by the number of arguments -/
namespace CW
open PySem PySem.Spec PyProof.Rows L2
/-! ### the hook -/
def obsX (chk : PySem.W.Frag → Bool) (fn : List He.DefD) (K : PySem.W.Frag) : He.AlD := (chk K && fn.all fun d => d.ok K, fn.map fun d => He.fnW K d.at_)
def SaysX (chk : PySem.W.Frag → Bool) (fn : List He.DefD) (K : PySem.W.Frag) : Prop := obsX chk fn K = He.valD fn
def obsXG (n : Nat) (chk : PySem.W.Frag → Bool) (fn : List He.DefD) (g : Addr → Option Obj) : He.AlD := obsX chk fn (He.frG g (He.asD g n))
def hookX (n : Nat) (chk : PySem.W.Frag → Bool) (fn : List He.DefD) : PySem.W.Hook where
  α := He.AlD
  obs := fun s => obsXG n chk fn s.heap.get?
  val := fun _ => He.valD fn
  says := fun _ h => ∃ K : PySem.W.Frag, K.In h ∧ SaysX chk fn K
  of := fun _ _ e => ⟨_, He.frG_in, e⟩
  keeps := fun _ _ _ ⟨K, hK, c⟩ k => ⟨K, PySem.W.Frag.In.keeps hK k, c⟩
theorem obsXG_eq {n : Nat} {chk : PySem.W.Frag → Bool} {fn : List He.DefD} {g : Addr → Option Obj} {s : Shared} (h : ∀ a, g a = s.heap.get? a) : obsXG n chk fn g = (hookX n chk fn).obs s := by
  have e : g = s.heap.get? := funext h
  rw [e] <;> rfl
/-- a def of the text: some function object stands at f -/
def FnD (K : PySem.W.Frag) (x qual : Str) (st : Stmt) (f : Addr) : Prop := ∃ fd, FunD K x qual (defArgs st) (defBody st) (defScope st) [] [] f fd
def dd (x : Str) (st : Stmt) : He.DefD := ⟨(x, none), x, x, defArgs st, defBody st, defScope st, [], []⟩
def dm (c m : Str) (st : Stmt) : He.DefD := ⟨(c, some m), m, c ++ "." ++ m, defArgs st, defBody st, defScope st, [], []⟩
section
variable {ck : PySem.W.Frag → Bool} {fa : List He.Fa} {fn : List He.DefD} {K : PySem.W.Frag}
theorem says_chkX (c : SaysX ck fn K) : ck K = true :=
  (He.ba (show (ck K && fn.all fun d => d.ok K) = true from congrArg (fun z : He.AlD => z.1) c)).1
theorem says_chk (c : SaysX (fun K => ck K && fa.all fun f => f.ok K) fn K) : ck K = true := (He.ba (says_chkX c)).1
theorem says_fact (c : SaysX (fun K => ck K && fa.all fun f => f.ok K) fn K) (i : Nat) {f : He.Fa} (h : fa[i]? = some f := by rfl) : f.ok K = true :=
  List.all_eq_true.mp (He.ba (says_chkX c)).2 f (List.mem_of_getElem? h)
theorem says_defD (c : SaysX ck fn K) (i : Nat) {d : He.DefD} (h : fn[i]? = some d := by rfl) : ∃ fd, FunD K d.name d.qual d.params d.body d.scope (d.dvs K) (d.kws K) (He.fAd K d.at_) fd := by
  have c2 := (He.ba (show (ck K && fn.all fun d => d.ok K) = true from congrArg (fun z : He.AlD => z.1) c)).2
  have e : fn.map (fun d => He.fnW K d.at_) = fn.map He.DefD.val := congrArg (fun z : He.AlD => z.2) c
  have e2 : (fn.map fun d => He.fnW K d.at_)[i]? = (fn.map He.DefD.val)[i]? := by rw [e]
  rw [List.getElem?_map, List.getElem?_map, h] at e2
  exact He.DefD.funD (Option.some.inj e2) (List.all_eq_true.mp c2 d (List.mem_of_getElem? h))
theorem says_def (c : SaysX ck fn K) {x : Str} {st : Stmt} (i : Nat) (h : fn[i]? = some (dd x st) := by rfl) : FnD K x x st (He.ga K x) := says_defD c i h
theorem says_meth (c : SaysX ck fn K) {x m : Str} {st : Stmt} (i : Nat) (h : fn[i]? = some (dm x m st) := by rfl) : FnD K m (x ++ "." ++ m) st (He.ma K (He.ga K x) m) := says_defD c i h
end
/-! ### promises by the number of arguments -/
def sp0 (p : Hp → VK → XK → Prop) : Sp
  | [], H, Q, E => p H Q E
  | _, _, _, _ => False
def sp1 (p : V → Hp → VK → XK → Prop) : Sp
  | [a], H, Q, E => p a H Q E
  | _, _, _, _ => False
def sp2 (p : V → V → Hp → VK → XK → Prop) : Sp
  | [a, b], H, Q, E => p a b H Q E
  | _, _, _, _ => False
def sp3 (p : V → V → V → Hp → VK → XK → Prop) : Sp
  | [a, b, c], H, Q, E => p a b c H Q E
  | _, _, _, _ => False
def sp4 (p : V → V → V → V → Hp → VK → XK → Prop) : Sp
  | [a, b, c, d], H, Q, E => p a b c d H Q E
  | _, _, _, _ => False
def sp5 (p : V → V → V → V → V → Hp → VK → XK → Prop) : Sp
  | [a, b, c, d, e], H, Q, E => p a b c d e H Q E
  | _, _, _, _ => False
/-! ### a def as a constant of the module -/
def Cal (P : Program) (w : World) (K : PySem.W.Frag) (mg : Str → Option Value) (base : Heap) (k : Nat) (x : Str) (sp : Sp) : Prop :=
  ∃ f fd ps, mg x = some (.ref f) ∧ PySem.W.keepIn K (.ref f) = true ∧ Binds K fd ps [] ∧ FnOk P w K mg base (L2.CX P w) k f fd ps sp
section
variable {P : Program} {w : World} {K : PySem.W.Frag} {mg : Str → Option Value} {base : Heap}
abbrev bodyCx (P : Program) (w : World) (K : PySem.W.Frag) (mg : Str → Option Value) (base : Heap) (N : List Str) (qual : Str) (st : Stmt) (f : Addr) (cdv : Value) (A : Around) (outer : List Env) (s : Shared) (H : Hp) (E : XK) : Cx :=
  cxOf (L2.CX P w) P w K mg base N qual (defScope st) f cdv A outer s H E
/-- THE RULE for a def of the module: the number of its parameters n -/
theorem fn_okx {x qual : Str} {st : Stmt} {f : Addr} {fd : FuncData} {N ps : List Str} {k : Nat} {sp : Sp} (F : FunD K x qual (defArgs st) (defBody st) (defScope st) [] [] f fd) (S : FnScope N ps (defScope st))
    (len : ∀ vs H Q E, sp vs H Q E → vs.length = ps.length)
    (hbody : ∀ (cdv : Value) (A : Around) (outer : List Env) (s : Shared) (H : Hp) (vs : List V) (Q : VK) (E : XK), Room k (bodyCx P w K mg base N qual st f cdv A outer s H E).A →
      Takes (bodyCx P w K mg base N qual st f cdv A outer s H E) (fun cls d _ H' => E cls d H') → sp vs H Q E →
      ∃ t, PSs (bodyCx P w K mg base N qual st f cdv A outer s H E) (defBody st) t ∧ t { nx := fun _ H' => Q .non H', rt := Q } (start N vs) H) : FnOk P w K mg base (L2.CX P w) (k + 1) f fd ps sp :=
  F.ok S len fun cdv A outer s H vs Q E hr h => hbody cdv A outer s H vs Q E hr (takes_of rfl rfl rfl rfl) h
theorem cal_ok {x qual : Str} {st : Stmt} {f : Addr} {N ps : List Str} {k : Nat} {sp : Sp} (g : mg x = some (.ref f)) (F : FnD K x qual st f) (S : FnScope N ps (defScope st))
    (hb : ∀ (kV doc pm : Value) (an : Option Addr) (cdv ct : Value) (us : List Value), us.length = ps.length → bindArgs (PySem.W.fnOf x qual (defArgs st) (defBody st) (defScope st) .none kV doc pm an cdv ct) ⟨us, []⟩ = pure (ps.zip us))
    (len : ∀ vs H Q E, sp vs H Q E → vs.length = ps.length)
    (hbody : ∀ (cdv : Value) (A : Around) (outer : List Env) (s : Shared) (H : Hp) (vs : List V) (Q : VK) (E : XK), Room k (bodyCx P w K mg base N qual st f cdv A outer s H E).A →
      Takes (bodyCx P w K mg base N qual st f cdv A outer s H E) (fun cls d _ H' => E cls d H') → sp vs H Q E →
      ∃ t, PSs (bodyCx P w K mg base N qual st f cdv A outer s H E) (defBody st) t ∧ t { nx := fun _ H' => Q .non H', rt := Q } (start N vs) H) : Cal P w K mg base (k + 1) x sp := by
  obtain ⟨fd, FD⟩ := F
  exact ⟨f, fd, ps, g, FD.kp, FD.bindsN hb, fn_okx FD S len hbody⟩
theorem cal1 {x qual : Str} {st : Stmt} {f : Addr} {N : List Str} {a : Str} {k : Nat} {p : V → Hp → VK → XK → Prop} (g : mg x = some (.ref f)) (F : FnD K x qual st f) (S : FnScope N [a] (defScope st))
    (hbody : ∀ (cdv : Value) (A : Around) (outer : List Env) (s : Shared) (H : Hp) (v : V) (Q : VK) (E : XK), Room k (bodyCx P w K mg base N qual st f cdv A outer s H E).A →
      Takes (bodyCx P w K mg base N qual st f cdv A outer s H E) (fun cls d _ H' => E cls d H') → p v H Q E →
      ∃ t, PSs (bodyCx P w K mg base N qual st f cdv A outer s H E) (defBody st) t ∧ t { nx := fun _ H' => Q .non H', rt := Q } (start N [v]) H)
    (hb : ∀ (kV doc pm : Value) (an : Option Addr) (cdv ct : Value) (u : Value), bindArgs (PySem.W.fnOf x qual (defArgs st) (defBody st) (defScope st) .none kV doc pm an cdv ct) ⟨[u], []⟩ = pure [(a, u)] := by intros; rfl) : Cal P w K mg base (k + 1) x (sp1 p) :=
  cal_ok g F S (fun kV doc pm an cdv ct us hl => match us, hl with | [u], _ => hb kV doc pm an cdv ct u) (fun vs H Q E h => match vs, h with | [_], _ => rfl)
    fun cdv A outer s H vs Q E hr tk h => match vs, h with | [v], h => hbody cdv A outer s H v Q E hr tk h
theorem cal2 {x qual : Str} {st : Stmt} {f : Addr} {N : List Str} {a b : Str} {k : Nat} {p : V → V → Hp → VK → XK → Prop} (g : mg x = some (.ref f)) (F : FnD K x qual st f) (S : FnScope N [a, b] (defScope st))
    (hbody : ∀ (cdv : Value) (A : Around) (outer : List Env) (s : Shared) (H : Hp) (v v' : V) (Q : VK) (E : XK), Room k (bodyCx P w K mg base N qual st f cdv A outer s H E).A →
      Takes (bodyCx P w K mg base N qual st f cdv A outer s H E) (fun cls d _ H' => E cls d H') → p v v' H Q E →
      ∃ t, PSs (bodyCx P w K mg base N qual st f cdv A outer s H E) (defBody st) t ∧ t { nx := fun _ H' => Q .non H', rt := Q } (start N [v, v']) H)
    (hb : ∀ (kV doc pm : Value) (an : Option Addr) (cdv ct : Value) (u u' : Value), bindArgs (PySem.W.fnOf x qual (defArgs st) (defBody st) (defScope st) .none kV doc pm an cdv ct) ⟨[u, u'], []⟩ = pure [(a, u), (b, u')] := by intros; rfl) : Cal P w K mg base (k + 1) x (sp2 p) :=
  cal_ok g F S (fun kV doc pm an cdv ct us hl => match us, hl with | [u, u'], _ => hb kV doc pm an cdv ct u u') (fun vs H Q E h => match vs, h with | [_, _], _ => rfl)
    fun cdv A outer s H vs Q E hr tk h => match vs, h with | [v, v'], h => hbody cdv A outer s H v v' Q E hr tk h
theorem cal3 {x qual : Str} {st : Stmt} {f : Addr} {N : List Str} {a b c : Str} {k : Nat} {p : V → V → V → Hp → VK → XK → Prop} (g : mg x = some (.ref f)) (F : FnD K x qual st f) (S : FnScope N [a, b, c] (defScope st))
    (hbody : ∀ (cdv : Value) (A : Around) (outer : List Env) (s : Shared) (H : Hp) (v v' v'' : V) (Q : VK) (E : XK), Room k (bodyCx P w K mg base N qual st f cdv A outer s H E).A →
      Takes (bodyCx P w K mg base N qual st f cdv A outer s H E) (fun cls d _ H' => E cls d H') → p v v' v'' H Q E →
      ∃ t, PSs (bodyCx P w K mg base N qual st f cdv A outer s H E) (defBody st) t ∧ t { nx := fun _ H' => Q .non H', rt := Q } (start N [v, v', v'']) H)
    (hb : ∀ (kV doc pm : Value) (an : Option Addr) (cdv ct : Value) (u u' u'' : Value), bindArgs (PySem.W.fnOf x qual (defArgs st) (defBody st) (defScope st) .none kV doc pm an cdv ct) ⟨[u, u', u''], []⟩ = pure [(a, u), (b, u'), (c, u'')] := by intros; rfl) : Cal P w K mg base (k + 1) x (sp3 p) :=
  cal_ok g F S (fun kV doc pm an cdv ct us hl => match us, hl with | [u, u', u''], _ => hb kV doc pm an cdv ct u u' u'') (fun vs H Q E h => match vs, h with | [_, _, _], _ => rfl)
    fun cdv A outer s H vs Q E hr tk h => match vs, h with | [v, v', v''], h => hbody cdv A outer s H v v' v'' Q E hr tk h
theorem cal4 {x qual : Str} {st : Stmt} {f : Addr} {N : List Str} {a b c d : Str} {k : Nat} {p : V → V → V → V → Hp → VK → XK → Prop} (g : mg x = some (.ref f)) (F : FnD K x qual st f) (S : FnScope N [a, b, c, d] (defScope st))
    (hbody : ∀ (cdv : Value) (A : Around) (outer : List Env) (s : Shared) (H : Hp) (v v' v'' v3 : V) (Q : VK) (E : XK), Room k (bodyCx P w K mg base N qual st f cdv A outer s H E).A →
      Takes (bodyCx P w K mg base N qual st f cdv A outer s H E) (fun cls d _ H' => E cls d H') → p v v' v'' v3 H Q E →
      ∃ t, PSs (bodyCx P w K mg base N qual st f cdv A outer s H E) (defBody st) t ∧ t { nx := fun _ H' => Q .non H', rt := Q } (start N [v, v', v'', v3]) H)
    (hb : ∀ (kV doc pm : Value) (an : Option Addr) (cdv ct : Value) (u u' u'' u3 : Value), bindArgs (PySem.W.fnOf x qual (defArgs st) (defBody st) (defScope st) .none kV doc pm an cdv ct) ⟨[u, u', u'', u3], []⟩ = pure [(a, u), (b, u'), (c, u''), (d, u3)] := by intros; rfl) : Cal P w K mg base (k + 1) x (sp4 p) :=
  cal_ok g F S (fun kV doc pm an cdv ct us hl => match us, hl with | [u, u', u'', u3], _ => hb kV doc pm an cdv ct u u' u'' u3) (fun vs H Q E h => match vs, h with | [_, _, _, _], _ => rfl)
    fun cdv A outer s H vs Q E hr tk h => match vs, h with | [v, v', v'', v3], h => hbody cdv A outer s H v v' v'' v3 Q E hr tk h
theorem cal5 {x qual : Str} {st : Stmt} {f : Addr} {N : List Str} {a b c d e : Str} {k : Nat} {p : V → V → V → V → V → Hp → VK → XK → Prop} (g : mg x = some (.ref f)) (F : FnD K x qual st f) (S : FnScope N [a, b, c, d, e] (defScope st))
    (hbody : ∀ (cdv : Value) (A : Around) (outer : List Env) (s : Shared) (H : Hp) (v v' v'' v3 v4 : V) (Q : VK) (E : XK), Room k (bodyCx P w K mg base N qual st f cdv A outer s H E).A →
      Takes (bodyCx P w K mg base N qual st f cdv A outer s H E) (fun cls d _ H' => E cls d H') → p v v' v'' v3 v4 H Q E →
      ∃ t, PSs (bodyCx P w K mg base N qual st f cdv A outer s H E) (defBody st) t ∧ t { nx := fun _ H' => Q .non H', rt := Q } (start N [v, v', v'', v3, v4]) H)
    (hb : ∀ (kV doc pm : Value) (an : Option Addr) (cdv ct : Value) (u u' u'' u3 u4 : Value), bindArgs (PySem.W.fnOf x qual (defArgs st) (defBody st) (defScope st) .none kV doc pm an cdv ct) ⟨[u, u', u'', u3, u4], []⟩ = pure [(a, u), (b, u'), (c, u''), (d, u3), (e, u4)] := by intros; rfl) : Cal P w K mg base (k + 1) x (sp5 p) :=
  cal_ok g F S (fun kV doc pm an cdv ct us hl => match us, hl with | [u, u', u'', u3, u4], _ => hb kV doc pm an cdv ct u u' u'' u3 u4) (fun vs H Q E h => match vs, h with | [_, _, _, _, _], _ => rfl)
    fun cdv A outer s H vs Q E hr tk h => match vs, h with | [v, v', v'', v3, v4], h => hbody cdv A outer s H v v' v'' v3 v4 Q E hr tk h
end
section
variable {X : Cx} {k : Nat} {x : Str} {sp : Sp} {p pos : Pos} {e : Expr} {es : List Expr} {t : TA}
/-- a call of a def of the module that lets nothing out here -/
theorem pe_c0 (c : Cal X.prog X.w X.K X.mg X.base k x sp) (hr : Room k X.A) (ha : PA X (e :: es) t) (hg : Gl X x := by rfl) (hdb : (x == ("__debug__" : Str)) = false := by decide)
    (he : starEach (e :: es) X.env = (false, eval e X.env) :: starEach es X.env := by rfl) (hpl : (backTo pos (starEach es X.env)).any (·.1) = false := by rfl) : PE X (.Call (.Name x p) (e :: es) [] pos) (tCall sp [] E0 t) := by
  obtain ⟨f, fd, ps, gm, kp, b, F⟩ := c
  exact pe_call F hr hg gm kp b .nil passL ha hdb he hpl
/-- .. that may raise -/
theorem pe_cx {W : WX} (tk : Takes X W) (c : Cal X.prog X.w X.K X.mg X.base k x sp) (hr : Room k X.A) (ha : PA X (e :: es) t) (hg : Gl X x := by rfl) (hdb : (x == ("__debug__" : Str)) = false := by decide)
    (he : starEach (e :: es) X.env = (false, eval e X.env) :: starEach es X.env := by rfl) (hpl : (backTo pos (starEach es X.env)).any (·.1) = false := by rfl) : PE X (.Call (.Name x p) (e :: es) [] pos) (tCallS sp (WE W) t) := by
  obtain ⟨f, fd, ps, gm, kp, b, F⟩ := c
  exact pe_callS F hr hg gm kp b (fun σ => passAt tk σ) ha hdb he hpl
end
theorem pe_ty {X : Cx} {x : Str} {T : String} {pos : Pos} (hg : Gl X x) (hm : X.mg x = none) (hv : bootBuiltins x = some (.type T)) (hn : x ≠ "__name__" := by decide) (hd : (x == ("__debug__" : Str)) = false := by decide) : PE X (.Name x pos) (tC (.ty T)) :=
  pe_bltn hg hm hv rfl hn hd
/-- a number or a text of the module; an object of the module -/
theorem pg {X : Cx} {x : Str} {v : V} {pos : Pos} (h : ∃ u, X.mg x = some u ∧ RelV v u) (hg : Gl X x := by rfl) (hd : (x == ("__debug__" : Str)) = false := by decide) : PE X (.Name x pos) (tC v) := by
  obtain ⟨u, e, r⟩ := h
  exact pe_glob hg e r hd
theorem pgr {X : Cx} {x : Str} {a : Addr} {pos : Pos} (h : X.mg x = some (.ref a)) (hg : Gl X x := by rfl) (hd : (x == ("__debug__" : Str)) = false := by decide) : PE X (.Name x pos) (tC (.ref a)) := pe_glob hg h rfl hd
/-! ### data -/
def tyN : PyData → String
  | .none => "NoneType"
  | .bool _ => "bool"
  | .int _ => "int"
  | .str _ => "str"
  | .list _ => "list"
  | .tuple _ => "tuple"
  | .dict _ => "dict"
def isD (c : String) (d : PyData) : Bool := tyN d == c || (tyN d == "bool" && c == "int")
theorem dp_ty {K : PySem.W.Frag} {H : Hp} {v : V} {d : PyData} (h : Dp K H v d) : TyX K H v (.type (tyN d)) := by
  cases h with
  | non => exact .base .non
  | bl b => exact .base (.bl b)
  | int i => exact .base (.int i)
  | str x => exact .base (.str x)
  | lst h _ =>
    rcases h with (h | ⟨o, h⟩) | ⟨o, its, n, e, c, _⟩
    · exact .base (.lst h)
    · exact .base (.frz h)
    · exact .kList e c
  | tup h _ =>
    rcases h with (h | ⟨o, h⟩) | ⟨o, its, n, e, c, _⟩
    · exact .base (.tup h)
    · exact .fTuple h
    · exact .kTuple e c
theorem kit_none {c : String} (h : ∀ d : PyData, kitB (tyN d) c = some (isD c d)) {K : PySem.W.Frag} {H : Hp} {v : V} {d : PyData} {Q : VK} (hv : Dp K H v d) (q : Q (.bl (isD c d)) H) : rIsi K [v, .ty c] H Q :=
  ⟨v, .ty c, _, _, _, rfl, .ty c, dp_ty hv, kit_ty (h d), q⟩
theorem kb_int (d : PyData) : kitB (tyN d) "int" = some (isD "int" d) := by cases d <;> (dsimp only [isD, tyN]; decide +kernel)
theorem kb_bool (d : PyData) : kitB (tyN d) "bool" = some (isD "bool" d) := by cases d <;> (dsimp only [isD, tyN]; decide +kernel)
theorem kb_str (d : PyData) : kitB (tyN d) "str" = some (isD "str" d) := by cases d <;> (dsimp only [isD, tyN]; decide +kernel)
theorem kb_tuple (d : PyData) : kitB (tyN d) "tuple" = some (isD "tuple" d) := by cases d <;> (dsimp only [isD, tyN]; decide +kernel)
theorem kb_list (d : PyData) : kitB (tyN d) "list" = some (isD "list" d) := by cases d <;> (dsimp only [isD, tyN]; decide +kernel)
/-- a def that is never called -/
theorem cal_bot {P : Program} {w : World} {K : PySem.W.Frag} {mg : Str → Option Value} {base : Heap} {x qual : Str} {st : Stmt} {f : Addr} {ps : List Str} {sp : Sp} (k : Nat) (g : mg x = some (.ref f)) (F : FnD K x qual st f) (hn : ∀ vs H Q E, ¬ sp vs H Q E)
    (hb : ∀ (kV doc pm : Value) (an : Option Addr) (cdv ct : Value) (us : List Value), us.length = ps.length → bindArgs (PySem.W.fnOf x qual (defArgs st) (defBody st) (defScope st) .none kV doc pm an cdv ct) ⟨us, []⟩ = pure (ps.zip us)) : Cal P w K mg base k x sp := by
  obtain ⟨fd, FD⟩ := F
  exact ⟨f, fd, ps, g, FD.kp, FD.bindsN hb, fun vs H Q E h => (hn vs H Q E h).elim, fun A outer s H args us vs Q E _ _ _ _ h => (hn vs H Q E h).elim⟩
theorem dpAll_len {K : PySem.W.Frag} {H : Hp} : ∀ {vs : List V} {ds : List PyData}, DpAll K H vs ds → vs.length = ds.length
  | _, _, .nil => rfl
  | _, _, .cons _ t => congrArg (· + 1) (dpAll_len t)
theorem dpAll_get {K : PySem.W.Frag} {H : Hp} : ∀ {vs : List V} {ds : List PyData} {i : Nat} {d : PyData}, DpAll K H vs ds → ds[i]? = some d → ∃ v, vs[i]? = some v ∧ Dp K H v d
  | _, _, _, _, .nil, e => by simp at e
  | _, _, 0, _, .cons h _, e => by simp at e; subst e; exact ⟨_, rfl, h⟩
  | _, _, i + 1, d, .cons _ t, e => by
    obtain ⟨v, h1, h2⟩ := dpAll_get (i := i) t (by simpa using e)
    exact ⟨v, by simpa using h1, h2⟩
theorem dpAll_getV {K : PySem.W.Frag} {H : Hp} : ∀ {vs : List V} {ds : List PyData} {i : Nat} {v : V}, DpAll K H vs ds → vs[i]? = some v → ∃ d, ds[i]? = some d ∧ Dp K H v d
  | _, _, _, _, .nil, e => by simp at e
  | _, _, 0, _, .cons h _, e => by simp at e; subst e; exact ⟨_, rfl, h⟩
  | _, _, i + 1, v, .cons _ t, e => by
    obtain ⟨d, h1, h2⟩ := dpAll_getV (i := i) t (by simpa using e)
    exact ⟨d, by simpa using h1, h2⟩
end CW

set_option maxHeartbeats 4000000
/-! own exceptions over Exception: class X(CheckError): def __init__(self, f): self.f = f -/
namespace CWX
open PySem PySem.W PySem.Calls PyProof.Rows PySem.HandSPX
abbrev exBm : List Value := [.type "Exception", .type "BaseException", .type "object"]
section
open Builtin Builtin.ObjectAttr
variable {prog : Program} {w : World} {A : Around} {R : Result → Shared → Prop} {hp : Heap} {g : Array GenState} {d : Drawn} {t : Nat} {os : OsState}
/-- self.name = v on such an exception that has no dict yet -/
theorem osa_ex {K : W.Frag} {name : Str} {tk : Tok} {v : Value} {x C : Addr} {fv : Array Value} {cd : ClassData}
    (X : K.In hp) (hx : hp.get? x = some { cls := .ref C, data := .fields fv }) (hcd : W.clsIn K C = some cd) (hm : excTail exBm cd.mro = true) (hh : cd.hasDict = true) (ha : W.findIn K (.ref C) name = some none)
    (hq : ∀ h' tk' dx, (∀ b o, b ≠ x → hp.get? b = some o → h'.get? b = some o) → hp.objs.size ≤ dx → dx ≠ x → h'.get? x = some { cls := .ref C, dict := some dx, data := .fields fv } →
      h'.Ns1 dx (fun y => if y = name then some v else none) → R (.ok (.ret .none)) ⟨h', g, d, tk', os⟩) :
    codeAny (model prog w) A (.call (.builtin "object.__setattr__") ⟨[.ref x, .str name tk, v], []⟩) R ⟨hp, g, d, t, os⟩ := by
  have I : W.InstAt hp x { cls := .ref C, data := .fields fv } C none := ⟨hx, rfl, rfl, trivial⟩
  have SF := F.store_object
  have hob : cd.mro.contains (.type "object") = true := (excTail_contains "object" _ hm).trans (by decide +kernel)
  have ne : cd.mro.isEmpty = false := by
    cases e : cd.mro with
    | nil =>
      rw [e] at hob
      cases hob
    | cons _ _ => rfl
  have hxs : x ≠ hp.objs.size := Nat.ne_of_lt (Heap.lt_size hx)
  have hmi : W.mroIn K C (.type "object") = some true := by
    unfold W.mroIn
    rw [hcd, Option.bind_some, if_neg (by rw [ne]; decide), hob]
  have sub : W.Looks (model prog w) hp (isInstance (.ref x) (.type "object")) true := I.type.andThen (W.looks_mroIn X hmi)
  have hmr : W.Looks (model prog w) hp (mroOf (.ref C)) cd.mro := (W.looks_clsIn X hcd).andThen .now
  have L3 : W.Looks (model prog w) hp (storeTaker? none) none := .now
  have hcls : W.Looks (model prog w) hp (classData C) cd := W.looks_clsIn X hcd
  refine codeAny_call_builtin SF.slot.plain SF.entry
    (@W.check_slot (model prog w) _ _ ⟨hp, g, d, t, os⟩ "object.__setattr__" "object" "__setattr__" (.ref x) [.str name tk, v] [] _ SF.kind SF.split sub (SF.args (.ref x) (.str name tk) v) ?_)
  rw [W.osa_eq, refuse_eq]
  refine wpAny_bind (wpAny_bind (I.type.at (wpAny_bind (hmr.at ?_))))
  rw [excTail_pass _ (F.store_Exception.passes _) _ hm]
  refine wpAny_pure (wpAny_bind (I.type.at (wpAny_bind ((W.looks_findIn X ha).at (wpAny_bind (L3.at ?_))))))
  show wpAny _ _ (storeInOwnDict (.ref x) (.ref C) (.str name tk) name v false) _ _ _
  obtain ⟨nm, bs, mro, ns, qn, hd, sn, sb, ab, col, del⟩ := cd
  dsimp only at hh
  subst hh
  unfold storeInOwnDict ownDictForStores
  repeat (first
    | with_reducible refine HandSPX.store_in_new ?_ ?_
    | with_reducible refine wpAny_loadPart_at hx ?_
    | with_reducible refine hcls.at ?_
    | wp_step)
  · exact ⟨_, #[], _, (Heap.get?_update_ne _ _ _ _ hxs.symm).trans (Heap.get?_push_at rfl rfl), rfl, fun e he => absurd he (by simp), fun _ => rfl⟩
  · intro h' tk' hn' hs
    have hx₁ : (hp.push { cls := .type "dict", data := .dict #[] }).get? x = some { cls := .ref C, data := .fields fv } := Heap.get?_push_of_some _ hx
    refine hq h' tk' hp.objs.size (fun b o hb ho => ?_) (Nat.le_refl _) hxs.symm ?_ hn'
    · exact (hs.2 b (Nat.ne_of_lt (Heap.lt_size ho))).trans ((Heap.get?_update_ne _ _ _ _ hb).trans (Heap.get?_push_of_some _ ho))
    · exact (hs.2 x hxs).trans (Heap.get?_update_self _ hx₁ rfl)
end
/-- what __init__ leaves of a fresh exception at x -/
structure InitEnd (h h' : Heap) (x C dx t1 : Addr) (f : Str) (v : Value) : Prop where
  keep : ∀ b o, b ≠ x → h.get? b = some o → h'.get? b = some o
  obj : h'.get? x = some { cls := .ref C, dict := some dx, data := .fields #[.ref t1, .none, .none, .none, .bool false, .none] }
  dbig : h.objs.size ≤ dx
  dne : dx ≠ x
  ns : h'.Ns1 dx (fun y => if y = f then some v else none)
/-- a made exception -/
structure OwnMade (h h' : Heap) (e C d : Addr) (f : Str) (v : Value) : Prop where
  keep : ∀ b o, h.get? b = some o → h'.get? b = some o
  new : h.objs.size ≤ e
  obj : ∃ t1 : Addr, h'.get? e = some { cls := .ref C, dict := some d, data := .fields #[.ref t1, .none, .none, .none, .bool false, .none] }
  dbig : h.objs.size ≤ d
  dne : d ≠ e
  ns : h'.Ns1 d (fun y => if y = f then some v else none)
/-- the own __init__ at fI stores its argument as f -/
def InitOk (K : Frag) (C fI : Addr) (f : Str) : Prop :=
  ∀ (prog : Program) (w : World) (A : Around) (s : Shared) (R : Result → Shared → Prop) (x t0 : Addr) (v : Value), K.In s.heap → s.heap.NoLimit → s.heap.get? x = some (excO C t0) → A.depth < recursionLimit →
    (∀ h' tk dx, InitEnd s.heap h' x C dx t0 f v → R (.ok (.ret .none)) { s with heap := h', toks := tk }) →
    codeAny (model prog w) A (.call (.ref fI) ⟨[.ref x, v], []⟩) R s
/-- the class of the name x, its field f -/
structure ExT (K : Frag) (C fI : Addr) (f : Str) : Prop where
  new : excInitIn K C exBm "Exception.__new__" = true
  cls : ∃ cd, clsIn K C = some cd ∧ excTail exBm cd.mro = true ∧ cd.hasDict = true
  sa : findIn K (.ref C) "__setattr__" = some (some (.builtin "object.__setattr__"))
  ga : findIn K (.ref C) "__getattribute__" = some (some (.builtin "BaseException.__getattribute__"))
  gg : findIn K (.ref C) "__getattr__" = some none
  noN : findIn K (.ref C) f = some none
  iC : findIn K (.ref C) "__init__" = some (some (.ref fI))
  tC : typeIn K (.ref fI) = some (.type "function")
  kC : keepIn K (.ref C) = true
  exC : subIn K (.ref C) (.type "BaseException") = some true
  tyC : typeIn K (.ref C) = some (.type "type")
  hdC : hasDictIn K C = true
  cl : findIn K (.ref C) "__class__" = some (some (.builtin "object.__class__"))
  cg : specialIn K (.builtin "object.__class__") "__get__" = some (some (.builtin "getset_descriptor.__get__"))
  ct : takesIn K (.builtin "object.__class__") = some true
  mo : mroIn K C (.type "object") = some true
def exB (K : Frag) (x f : Str) : Bool :=
  let C := He.ga K x
  let fI := He.ma K C "__init__"
  excInitIn K C exBm "Exception.__new__" && (((clsIn K C).any fun cd => excTail exBm cd.mro && cd.hasDict) && (
  decide (findIn K (.ref C) "__setattr__" = some (some (.builtin "object.__setattr__"))) && (
  decide (findIn K (.ref C) "__getattribute__" = some (some (.builtin "BaseException.__getattribute__"))) && (
  decide (findIn K (.ref C) "__getattr__" = some none) && (
  decide (findIn K (.ref C) f = some none) && (
  decide (findIn K (.ref C) "__init__" = some (some (.ref fI))) && (
  decide (typeIn K (.ref fI) = some (.type "function")) && (
  keepIn K (.ref C) && (
  decide (subIn K (.ref C) (.type "BaseException") = some true) && (
  decide (typeIn K (.ref C) = some (.type "type")) && (
  hasDictIn K C && (
  decide (findIn K (.ref C) "__class__" = some (some (.builtin "object.__class__"))) && (
  decide (specialIn K (.builtin "object.__class__") "__get__" = some (some (.builtin "getset_descriptor.__get__"))) && (
  decide (takesIn K (.builtin "object.__class__") = some true) &&
  decide (mroIn K C (.type "object") = some true)))))))))))))))
theorem exB_ok {K : Frag} {x f : Str} (h : exB K x f = true) : ExT K (He.ga K x) (He.ma K (He.ga K x) "__init__") f := by
  unfold exB at h
  dsimp only at h
  simp only [Bool.and_eq_true, decide_eq_true_eq] at h
  obtain ⟨h1, h2, h3, h4, h5, h6, h7, h8, h9, h10, h11, h12, h13, h14, h15, h16⟩ := h
  refine ⟨h1, ?_, h3, h4, h5, h6, h7, h8, h9, h10, h11, h12, h13, h14, h15, h16⟩
  cases e : clsIn K (He.ga K x) with
  | none =>
    rw [e] at h2
    cases h2
  | some cd =>
    rw [e] at h2
    have h2' : (excTail exBm cd.mro && cd.hasDict) = true := h2
    obtain ⟨a, b⟩ := Bool.and_eq_true_iff.mp h2'
    exact ⟨cd, rfl, a, b⟩
theorem one_size (v : Value) : [v].length ≤ sizeLine := by
  rw [sizeLine_eq]
  exact (by decide : 1 ≤ 16777216)
section
variable {prog : Program} {w : World} {A : Around} {R : Result → Shared → Prop} {s : Shared} {K : Frag} {C fI : Addr} {f : Str}
theorem ex_made (T : ExT K C fI f) (IN : InitOk K C fI f) {v : Value} (X : K.In s.heap) (hlim : s.heap.NoLimit) (hroom : A.depth + 1 < recursionLimit)
    (hq : ∀ h' tk e d, OwnMade s.heap h' e C d f v → R (.ok (.ret (.ref e))) { s with heap := h', toks := tk }) :
    codeAny (model prog w) A (.call (.ref C) ⟨[v], []⟩) R s := by
  obtain ⟨hp, g, dr, tk, os⟩ := s
  obtain ⟨nm, N, qn, bs, bm, hdct, sn, sub, ab, col, dd, k0, k1, k2, k3, k5, hC, hbm⟩ := excInit_of X T.new
  have k : ∀ b o, hp.get? b = some o → ((hp.push (kdv_tup [v])).push (excO C hp.objs.size)).get? b = some o := fun b o e => Heap.get?_push_of_some _ (Heap.get?_push_of_some _ e)
  have hget : ((hp.push (kdv_tup [v])).push (excO C hp.objs.size)).get? (hp.objs.size + 1) = some (excO C hp.objs.size) := by heap_get
  refine call_own F.excBase_Exception hbm hC (looks_findIn X T.iC) (fun self => bind_fn X self T.tC) (one_size v) ?_
  refine IN prog w _ ⟨(hp.push (kdv_tup [v])).push (excO C hp.objs.size), g, dr, tk, os⟩ _ _ _ v (X.keeps k) (hlim.keeps k) hget ?_ fun h' tk' dx ⟨k', hx, dn, dne, hns⟩ => ?_
  · show A.depth + 1 < recursionLimit
    exact hroom
  · have old : ∀ b o, hp.get? b = some o → h'.get? b = some o := fun b o e => k' b o (Nat.ne_of_lt (Nat.lt_succ_of_lt (Heap.lt_size e))) (k b o e)
    have z : hp.objs.size + 1 + 1 ≤ dx := by
      first
        | (simpa only [Heap.size_push] using dn)
        | exact dn
        | (have q := dn; rw [Heap.size_push, Heap.size_push] at q; exact q)
    exact ⟨rfl, hq h' tk' (hp.objs.size + 1) dx ⟨old, Nat.le_succ _, ⟨_, hx⟩, Nat.le_trans (Nat.le_trans (Nat.le_succ _) (Nat.le_succ _)) z, dne, hns⟩⟩
end
theorem ldC {M : Model} {s : Shared} {name : Str} {scope : Scope} {L a : Addr} {cd : Value} {m : Str → Option Value} {x : Str} {pos : Pos} {v : Value} {Q : Value → Shared → Prop} {A : Around} {E : Value → Shared → Prop} (hn : s.heap.Ns L m) (hv : m x = some v) (h : Q v s)
    (hk : scope.kind = .function := by rfl) (hl : (envOfC name scope L a cd).kindOf x = some .local := by rfl) (hd : (x == ("__debug__" : Str)) = false := by decide) :
    wpAny M A (eval (.Name x pos) (envOfC name scope L a cd)) Q E s := wpAny_Name (wpAny_loadName_local hk hl hn hv h) hd
end CWX

/-! ### self.at = at -/
namespace CWX
open PySem PySem.W PySem.Calls PyProof.Rows PySem.HandSPX
def iA_at (p1 p2 : Pos) : Arguments := { posonlyargs := [], args := [{ arg := "self", annotation := none, pos := p1 }, { arg := "at", annotation := none, pos := p2 }], vararg := none, kwonlyargs := [], kw_defaults := [], kwarg := none, defaults := [] }
def iB_at (q1 q2 q3 q4 : Pos) : List Stmt := [.Assign [.Attribute (.Name "self" q1) "at" q2] (.Name "at" q3) q4]
def iS_at : Scope := { kind := .function, names := [(PySem.Str.ofString "self", .local), (PySem.Str.ofString "at", .local)], isGenerator := false, isCoroutine := false, more := [] }
theorem init_at {K : Frag} {C fI : Addr} {st : Stmt} {q : Str} (T : ExT K C fI "at") (F : CW.FnD K "__init__" q st fI) (p : ∃ p1 p2, L2.defArgs st = iA_at p1 p2) (b : ∃ q1 q2 q3 q4, L2.defBody st = iB_at q1 q2 q3 q4) (sc : L2.defScope st = iS_at) :
    InitOk K C fI "at" := by
  intro prog w A s R x t0 v X hlim hx hroom hq
  obtain ⟨fd, ⟨oc, od, dV, kV, doc, pm, an, cdv, ct, osl, rfl, ho, hcd, hD, _⟩, _⟩ := F
  obtain ⟨p1, p2, ep⟩ := p
  obtain ⟨q1, q2, q3, q4, eb⟩ := b
  rw [ep, eb, sc] at ho
  rcases hD with ⟨_, rfl⟩ | ⟨e, _⟩
  case inr => exact absurd rfl e
  obtain ⟨cd, hcl, hm, hh⟩ := T.cls
  refine Att.call_fn (binds := [("self", .ref x), ("at", v)]) X hlim ho hcd hroom (BindsTo.of_eq (by first | rfl | with_unfolding_all rfl)) (by first | rfl | decide | with_unfolding_all rfl) (fun s₁ IC => ?_) rfl rfl rfl
  obtain ⟨h₁, tk₁, rfl⟩ := IC.toInCall.same
  have k : ∀ b o, s.heap.get? b = some o → h₁.get? b = some o := IC.toInCall.keep
  have hn := IC.toInCall.ns
  have hxL : s.heap.objs.size ≠ x := Nat.ne_of_gt (Heap.lt_size hx)
  have X₁ : K.In h₁ := X.keeps k
  have hx₁ := k _ _ hx
  show wpAny _ _ (execs _ _) _ _ _
  refine wpAny_execs_cons (plainObj_wpAny_Assign_Attribute ?_)
  refine ldC (v := v) hn (by first | rfl | with_unfolding_all rfl | kernel_rfl) (ldC (v := .ref x) hn (by first | rfl | with_unfolding_all rfl | kernel_rfl) ?_)
  refine set_plain X₁ (ox := excO C t0) (od := none) ⟨hx₁, rfl, rfl, trivial⟩ T.sa ?_
  refine osa_ex X₁ hx₁ hcl hm hh T.noN (fun h₃ tk₃ dx k₃ dn dne hx₃ hn₃ => ?_)
  show wpAny _ _ (execs _ _) _ _ _
  have z : s.heap.objs.size < h₁.objs.size := hn.lt
  exact wpAny_execs_nil (hq h₃ tk₃ dx ⟨fun b o hb e => k₃ b o hb (k b o e), hx₃, Nat.le_of_lt (Nat.lt_of_lt_of_le z dn), dne, hn₃⟩)
end CWX

/-! ### self.line = line -/
namespace CWX
open PySem PySem.W PySem.Calls PyProof.Rows PySem.HandSPX
def iA_line (p1 p2 : Pos) : Arguments := { posonlyargs := [], args := [{ arg := "self", annotation := none, pos := p1 }, { arg := "line", annotation := none, pos := p2 }], vararg := none, kwonlyargs := [], kw_defaults := [], kwarg := none, defaults := [] }
def iB_line (q1 q2 q3 q4 : Pos) : List Stmt := [.Assign [.Attribute (.Name "self" q1) "line" q2] (.Name "line" q3) q4]
def iS_line : Scope := { kind := .function, names := [(PySem.Str.ofString "self", .local), (PySem.Str.ofString "line", .local)], isGenerator := false, isCoroutine := false, more := [] }
theorem init_line {K : Frag} {C fI : Addr} {st : Stmt} {q : Str} (T : ExT K C fI "line") (F : CW.FnD K "__init__" q st fI) (p : ∃ p1 p2, L2.defArgs st = iA_line p1 p2) (b : ∃ q1 q2 q3 q4, L2.defBody st = iB_line q1 q2 q3 q4) (sc : L2.defScope st = iS_line) :
    InitOk K C fI "line" := by
  intro prog w A s R x t0 v X hlim hx hroom hq
  obtain ⟨fd, ⟨oc, od, dV, kV, doc, pm, an, cdv, ct, osl, rfl, ho, hcd, hD, _⟩, _⟩ := F
  obtain ⟨p1, p2, ep⟩ := p
  obtain ⟨q1, q2, q3, q4, eb⟩ := b
  rw [ep, eb, sc] at ho
  rcases hD with ⟨_, rfl⟩ | ⟨e, _⟩
  case inr => exact absurd rfl e
  obtain ⟨cd, hcl, hm, hh⟩ := T.cls
  refine Att.call_fn (binds := [("self", .ref x), ("line", v)]) X hlim ho hcd hroom (BindsTo.of_eq (by first | rfl | with_unfolding_all rfl)) (by first | rfl | decide | with_unfolding_all rfl) (fun s₁ IC => ?_) rfl rfl rfl
  obtain ⟨h₁, tk₁, rfl⟩ := IC.toInCall.same
  have k : ∀ b o, s.heap.get? b = some o → h₁.get? b = some o := IC.toInCall.keep
  have hn := IC.toInCall.ns
  have hxL : s.heap.objs.size ≠ x := Nat.ne_of_gt (Heap.lt_size hx)
  have X₁ : K.In h₁ := X.keeps k
  have hx₁ := k _ _ hx
  show wpAny _ _ (execs _ _) _ _ _
  refine wpAny_execs_cons (plainObj_wpAny_Assign_Attribute ?_)
  refine ldC (v := v) hn (by first | rfl | with_unfolding_all rfl | kernel_rfl) (ldC (v := .ref x) hn (by first | rfl | with_unfolding_all rfl | kernel_rfl) ?_)
  refine set_plain X₁ (ox := excO C t0) (od := none) ⟨hx₁, rfl, rfl, trivial⟩ T.sa ?_
  refine osa_ex X₁ hx₁ hcl hm hh T.noN (fun h₃ tk₃ dx k₃ dn dne hx₃ hn₃ => ?_)
  show wpAny _ _ (execs _ _) _ _ _
  have z : s.heap.objs.size < h₁.objs.size := hn.lt
  exact wpAny_execs_nil (hq h₃ tk₃ dx ⟨fun b o hb e => k₃ b o hb (k b o e), hx₃, Nat.le_of_lt (Nat.lt_of_lt_of_le z dn), dne, hn₃⟩)
end CWX

/-! ### self.name = name -/
namespace CWX
open PySem PySem.W PySem.Calls PyProof.Rows PySem.HandSPX
def iA_name (p1 p2 : Pos) : Arguments := { posonlyargs := [], args := [{ arg := "self", annotation := none, pos := p1 }, { arg := "name", annotation := none, pos := p2 }], vararg := none, kwonlyargs := [], kw_defaults := [], kwarg := none, defaults := [] }
def iB_name (q1 q2 q3 q4 : Pos) : List Stmt := [.Assign [.Attribute (.Name "self" q1) "name" q2] (.Name "name" q3) q4]
def iS_name : Scope := { kind := .function, names := [(PySem.Str.ofString "self", .local), (PySem.Str.ofString "name", .local)], isGenerator := false, isCoroutine := false, more := [] }
theorem init_name {K : Frag} {C fI : Addr} {st : Stmt} {q : Str} (T : ExT K C fI "name") (F : CW.FnD K "__init__" q st fI) (p : ∃ p1 p2, L2.defArgs st = iA_name p1 p2) (b : ∃ q1 q2 q3 q4, L2.defBody st = iB_name q1 q2 q3 q4) (sc : L2.defScope st = iS_name) :
    InitOk K C fI "name" := by
  intro prog w A s R x t0 v X hlim hx hroom hq
  obtain ⟨fd, ⟨oc, od, dV, kV, doc, pm, an, cdv, ct, osl, rfl, ho, hcd, hD, _⟩, _⟩ := F
  obtain ⟨p1, p2, ep⟩ := p
  obtain ⟨q1, q2, q3, q4, eb⟩ := b
  rw [ep, eb, sc] at ho
  rcases hD with ⟨_, rfl⟩ | ⟨e, _⟩
  case inr => exact absurd rfl e
  obtain ⟨cd, hcl, hm, hh⟩ := T.cls
  refine Att.call_fn (binds := [("self", .ref x), ("name", v)]) X hlim ho hcd hroom (BindsTo.of_eq (by first | rfl | with_unfolding_all rfl)) (by first | rfl | decide | with_unfolding_all rfl) (fun s₁ IC => ?_) rfl rfl rfl
  obtain ⟨h₁, tk₁, rfl⟩ := IC.toInCall.same
  have k : ∀ b o, s.heap.get? b = some o → h₁.get? b = some o := IC.toInCall.keep
  have hn := IC.toInCall.ns
  have hxL : s.heap.objs.size ≠ x := Nat.ne_of_gt (Heap.lt_size hx)
  have X₁ : K.In h₁ := X.keeps k
  have hx₁ := k _ _ hx
  show wpAny _ _ (execs _ _) _ _ _
  refine wpAny_execs_cons (plainObj_wpAny_Assign_Attribute ?_)
  refine ldC (v := v) hn (by first | rfl | with_unfolding_all rfl | kernel_rfl) (ldC (v := .ref x) hn (by first | rfl | with_unfolding_all rfl | kernel_rfl) ?_)
  refine set_plain X₁ (ox := excO C t0) (od := none) ⟨hx₁, rfl, rfl, trivial⟩ T.sa ?_
  refine osa_ex X₁ hx₁ hcl hm hh T.noN (fun h₃ tk₃ dx k₃ dn dne hx₃ hn₃ => ?_)
  show wpAny _ _ (execs _ _) _ _ _
  have z : s.heap.objs.size < h₁.objs.size := hn.lt
  exact wpAny_execs_nil (hq h₃ tk₃ dx ⟨fun b o hb e => k₃ b o hb (k b o e), hx₃, Nat.le_of_lt (Nat.lt_of_lt_of_le z dn), dne, hn₃⟩)
end CWX

set_option maxHeartbeats 4000000
/-! own exceptions as rules: made and raised, made as values, their field, isinstance -/
namespace CW
open PySem PySem.Spec PyProof.Rows L2 CWX
theorem relO_1 {f : Str} {v : V} {v' : Value} (r : RelV v v') (g : Str) : RelO (List.lookup g [(f, v)]) (if g = f then some v' else none) := by
  by_cases hw : g = f
  · subst hw
    rw [if_pos rfl]
    have q : List.lookup g [(g, v)] = some v := by simp [List.lookup]
    rw [q]
    exact r
  · rw [if_neg hw]
    have qw : (g == f) = false := by simpa using hw
    have q2 : List.lookup g [(f, v)] = none := by simp [List.lookup, qw]
    rw [q2]
    trivial
/-- an exception class of the module by its name -/
structure ExM (K : PySem.W.Frag) (mg : Str → Option Value) (x f : Str) : Prop where
  g : mg x = some (.ref (He.ga K x))
  t : ExT K (He.ga K x) (He.ma K (He.ga K x) "__init__") f
  i : InitOk K (He.ga K x) (He.ma K (He.ga K x) "__init__") f
abbrev exObj (C t1 d : Addr) : Obj := { cls := .ref C, dict := some d, data := .fields #[.ref t1, .none, .none, .none, .bool false, .none] }
/-- X(e): the state behind, without the exception (sI), and with it -/
def Made (X : Cx) (pins : List (Addr × Obj)) (σ : L2.St) (C : Addr) (f : Str) (Q : V → Hp → Prop) (u : Value) (s' : Shared) : Prop :=
  ∃ (a d t1 : Addr) (v : V) (H1 : Hp) (G : Heap), u = .ref a ∧ Inv X pins σ (upd H1 d (.xd [(f, v)])) { s' with heap := G } ∧ (∀ b o, G.get? b = some o → s'.heap.get? b = some o) ∧ G.get? a = none ∧
    s'.heap.get? a = some (exObj C t1 d) ∧ H1 d = none ∧ H1 a = none ∧ d ≠ a ∧ Q v H1
section
variable {X : Cx} {x f : Str}
theorem ex_mk {a : Expr} {ta : TA} {p pos : Pos} {k : Nat} (T : ExM X.K X.mg x f) (hr : Room k X.A) (ha : PA X [a] ta) (hg : Gl X x := by rfl) (hdb : (x == ("__debug__" : Str)) = false := by decide)
    (he : starEach (a :: []) X.env = (false, eval a X.env) :: starEach [] X.env := by rfl) (hpl : (backTo pos (starEach [] X.env)).any (·.1) = false := by rfl)
    {pins : List (Addr × Obj)} {s : Shared} {σ : L2.St} {H : Hp} {Q : V → Hp → Prop} (I : Inv X pins σ H s)
    (h : ta σ H fun vs H1 => ∃ v, vs = [v] ∧ Q v H1) :
    wpAny (model X.prog X.w) X.A (eval (.Call (.Name x p) [a] [] pos) X.env) (Made X pins σ (He.ga X.K x) f Q) X.xe s := by
  refine wpAny_Call_Name_kw (ld_glob I hg T.g ?_ hdb)
  refine PySem.W.callWith_K (h₀ := X.base) I.ok.mod.kin T.t.kC (thn (ha.run pos pins s σ H _ I h) fun us s1 hh => ?_) he hpl
  obtain ⟨vs, H1, I1, r1, v, ev, q1⟩ := hh
  subst ev
  refine ⟨I1.kIn, ?_⟩
  cases r1 with
  | cons rv rn =>
    rename_i v' us'
    cases rn
    show wpAny _ _ (call (.ref (He.ga X.K x)) [v']) _ _ _
    have hlim := I1.nolimit
    obtain ⟨hp, g, dr, tk, os⟩ := s1
    refine wpAny_call (ex_made T.t T.i I1.kIn hlim (by have := hr.dp; omega) fun h' tk' e d M => ?_)
    obtain ⟨t1, hoe⟩ := M.obj
    have hns := M.ns
    obtain ⟨G', g1, g2⟩ := restrict h' fun b => decide (b ≠ e)
    have gk : ∀ b, b ≠ e → G'.get? b = h'.get? b := fun b hb => g1 b (decide_eq_true hb)
    have ge : G'.get? e = none := g2 e (by simp)
    have old : ∀ b o, hp.get? b = some o → G'.get? b = some o := fun b o q => (gk b (Nat.ne_of_lt (Nat.lt_of_lt_of_le (Heap.lt_size q) M.new))).trans (M.keep b o q)
    have ob : ObjOk X.prog X.w (upd H1 d (.xd [(f, v)])) G' d (.xd [(f, v)]) :=
      ⟨_, hns.at (fun o q => (gk d M.dne).trans q), fun f' => relO_1 rv f'⟩
    have J : Inv X pins σ (upd H1 d (.xd [(f, v)])) ⟨G', g, dr, tk', os⟩ := I1.laid (t' := tk') old M.dbig ob
    refine ⟨e, d, t1, v, H1, G', rfl, J, fun b o q => ?_, ge, hoe, I1.hok.fresh M.dbig, I1.hok.fresh M.new, M.dne, q1⟩
    by_cases hb : b = e
    · have q' : G'.get? b = some o := q
      rw [hb, ge] at q'; cases q'
    · exact (gk b hb).symm.trans q
/-- X(e), to be raised -/
def tMkE (C : Addr) (f : Str) (ta : TA) : L2.St → Hp → XK → Prop := fun σ H Q => ta σ H fun vs H1 => ∃ v, vs = [v] ∧ ∀ d, H1 d = none → Q (.ref C) (some d) (upd H1 d (.xd [(f, v)]))
theorem pmk_ex {a : Expr} {ta : TA} {p pos : Pos} {k : Nat} (T : ExM X.K X.mg x f) (hr : Room k X.A) (ha : PA X [a] ta) (hg : Gl X x := by rfl) (hdb : (x == ("__debug__" : Str)) = false := by decide)
    (he : starEach (a :: []) X.env = (false, eval a X.env) :: starEach [] X.env := by rfl) (hpl : (backTo pos (starEach [] X.env)).any (·.1) = false := by rfl) :
    PMk X (.Call (.Name x p) [a] [] pos) (tMkE (He.ga X.K x) f ta) := by
  intro pins s σ H Q I h
  refine thn (ex_mk (Q := fun v H1 => ∀ d, H1 d = none → Q (.ref (He.ga X.K x)) (some d) (upd H1 d (.xd [(f, v)]))) T hr ha hg hdb he hpl I h) fun u s' hu => ?_
  obtain ⟨e, d, t1, v, H1, G, rfl, J, kG, ge, hoe, nd, na, ne, q⟩ := hu
  refine ⟨e, _, _, { s' with heap := G }, _, .ref (He.ga X.K x), some d, rfl, J, kG, ge, hoe, ⟨rfl, rfl⟩, rfl, rfl, ?_, rfl, J.bare, raises_own T.t.exC T.t.tyC, q d nd⟩
  rw [upd_ne (Ne.symm ne)]
  exact na
/-- raise X(e) from None, nothing being handled -/
theorem ps_raiseN {W : WX} {a : Expr} {ta : TA} {p pos cpos pos' : Pos} {j k : Nat} (hc : X.calm = true) (tk : Takes X W) (T : ExM X.K X.mg x f) (hr : Room k X.A) (ha : PA X [a] ta) (hg : Gl X x := by rfl) (hdb : (x == ("__debug__" : Str)) = false := by decide)
    (he : starEach (a :: []) X.env = (false, eval a X.env) :: starEach [] X.env := by rfl) (hpl : (backTo pos (starEach [] X.env)).any (·.1) = false := by rfl) :
    PS X (.Raise (some (.Call (.Name x p) [a] [] pos)) (some (.Constant .none j cpos)) pos') (fun _ σ H => tMkE (He.ga X.K x) f ta σ H fun cls d H' => W cls d σ H') := by
  refine ⟨fun pins s σ H D I h => ?_⟩
  refine wpAny_Raise_from (thn (ex_mk (Q := fun v H1 => ∀ d, H1 d = none → W (.ref (He.ga X.K x)) (some d) σ (upd H1 d (.xd [(f, v)]))) T hr ha hg hdb he hpl I h) fun u s' hu => Constant_none ?_)
  obtain ⟨e, d, t1, v, H1, G, rfl, J, kG, ge, hoe, nd, na, ne, q⟩ := hu
  obtain ⟨r1, r2⟩ := raises_own (X := X) T.t.exC T.t.tyC (model X.prog X.w) G J.kIn
  have RA : RaiseAt (model X.prog X.w) G s'.heap e (exObj (He.ga X.K x) t1 d) #[.ref t1, .none, .none, .none, .bool false, .none] (.ref (He.ga X.K x)) := ⟨hoe, rfl, rfl, kG, ge, r1, r2⟩
  have RA1 := RA.set 3 .none
  have RA2 := RA1.set 4 (.bool true)
  refine raise_from_tree RA (show 4 < 6 by decide) (.inl rfl) ?_
  refine setFlight_fresh (s := { s' with heap := (s'.heap.update e (Obj.mapFields (·.setIfInBounds 3 Value.none))).update e (Obj.mapFields (·.setIfInBounds 4 (.bool true))) }) RA2.at_ RA2.dat rfl ?_
  refine raiseNew_none' (.inl (I.ok.hd hc)) (tk _ _ ?_)
  have na' : upd H1 d (.xd [(f, v)]) e = none := by
    rw [upd_ne (Ne.symm ne)]
    exact na
  exact XE.new J RA2.keep RA2.new RA2.at_ ⟨RA2.cl, rfl⟩ RA2.dat rfl na' rfl J.bare (q d nd)
/-- X(e) as a value: an exception at p, its own dict at d -/
def tMkV (C : Addr) (f : Str) (ta : TA) : TE := fun σ H Q => ta σ H fun vs H1 => ∃ v, vs = [v] ∧ ∀ a d, H1 a = none → H1 d = none → d ≠ a → Q (.ref a) (upd (upd H1 d (.xd [(f, v)])) a (exo a C (some d)))
theorem pe_exv {a : Expr} {ta : TA} {p pos : Pos} {k : Nat} (T : ExM X.K X.mg x f) (hr : Room k X.A) (ha : PA X [a] ta) (hg : Gl X x := by rfl) (hdb : (x == ("__debug__" : Str)) = false := by decide)
    (he : starEach (a :: []) X.env = (false, eval a X.env) :: starEach [] X.env := by rfl) (hpl : (backTo pos (starEach [] X.env)).any (·.1) = false := by rfl) :
    PE X (.Call (.Name x p) [a] [] pos) (tMkV (He.ga X.K x) f ta) := by
  refine ⟨fun pins s σ H Q I h => ?_⟩
  refine thn (ex_mk (Q := fun v H1 => ∀ a d, H1 a = none → H1 d = none → d ≠ a → Q (.ref a) (upd (upd H1 d (.xd [(f, v)])) a (exo a (He.ga X.K x) (some d)))) T hr ha hg hdb he hpl I h) fun u s' hu => ?_
  obtain ⟨e, d, t1, v, H1, G, rfl, J, kG, ge, hoe, nd, na, ne, q⟩ := hu
  have na' : upd H1 d (.xd [(f, v)]) e = none := by
    rw [upd_ne (Ne.symm ne)]
    exact na
  obtain ⟨hp, g, dr, tk, os⟩ := s'
  exact ⟨.ref e, _, Inv.laidN (h' := hp) J kG ge na' (exo_ok hoe), rfl, q e d na nd ne⟩
/-- e.f, e such a value -/
def tExF (C : Addr) (f : Str) (te : TE) : TE := fun σ H Q => te σ H fun u H1 => ∃ (a d : Addr) (v : V), u = .ref a ∧ H1 a = some (exo a C (some d)) ∧ H1 d = some (.xd [(f, v)]) ∧ Q v H1
theorem pe_exf {e : Expr} {te : TE} {pos : Pos} (T : ExM X.K X.mg x f) (he : PE X e te) (hb : attributeBase e f X.env (eval e X.env) = eval e X.env := by rfl) :
    PE X (.Attribute e f pos) (tExF (He.ga X.K x) f te) := by
  refine ⟨fun pins s σ H Q I h => ?_⟩
  refine attr_of hb (thn (he.run pins s σ H _ I h) fun u s1 hh => ?_)
  obtain ⟨x', H1, I1, rx, a, d, v, ex, ea, ed, q⟩ := hh
  subst ex
  obtain rfl : u = Value.ref a := rx
  obtain ⟨t1, ha⟩ := exo_at I1.hok ea
  have hx : ObjOk X.prog X.w H1 s1.heap d (.xd [(f, v)]) := I1.hok d _ ed
  obtain ⟨mA, hns, hr⟩ := hx
  obtain ⟨od, ho, hl⟩ := lookIn_ns hns
  have l : List.lookup f [(f, v)] = some v := by simp [List.lookup]
  obtain ⟨u, hu, ru⟩ := RelO.some_of (v := v) (o := mA f) (by rw [← l]; exact hr f)
  have IA : PySem.W.InstAt s1.heap a _ (He.ga X.K x) (some od) := ⟨ha, rfl, rfl, ho⟩
  exact HandSPX.exc_get I1.kIn IA T.t.ga T.t.gg T.t.exC (PySem.W.findObj_own T.t.hdC T.t.noN rfl (by rw [hl, hu])) (handed_of ru) ⟨v, H1, I1.tok _, ru, q⟩
theorem exXf {K : PySem.W.Frag} {C fI : Addr} {f : Str} (t : ExT K C fI f) : XfC K C := ⟨t.ga, t.gg, t.exC, t.hdC⟩
/-- isinstance(e, c), e such a value -/
def rIsV (K : PySem.W.Frag) : List V → Hp → VK → Prop := fun xs H Q => ∃ (a d C fI : Addr) (f : Str) (c : V) (cv : Value) (b : Bool), xs = [.ref a, c] ∧ ExT K C fI f ∧ H a = some (exo a C (some d)) ∧ (∃ fs, H d = some (.xd fs)) ∧ (∀ u, RelV c u → u = cv) ∧
  PySem.W.kitOne K (.ref C) cv = some b ∧ Q (.bl b) H
theorem exKit {K : PySem.W.Frag} {C fI : Addr} {f : Str} {x : Addr} {ox : Obj} {od : Option Obj} (t : ExT K C fI f) : PySem.W.KitX K (.ref x) (.ref C) (fun h => PySem.W.InstAt h x ox C od) := by
  obtain ⟨cd, hc, _⟩ := t.cls
  exact PySem.W.kitx_exc (by rw [hc]; rfl) t.ga t.gg t.exC t.cl t.cg t.ct t.mo
theorem call_isV : CallR X (.builtin "isinstance") (rIsV X.K) := by
  intro pins s σ H xs us Q I r h
  obtain ⟨a, d, C, fI, f, c, cv, b, rfl, T, ea, ⟨fs, ed⟩, hcv, e, q⟩ := h
  cases r with
  | cons rx rr =>
    cases rr with
    | cons rt rr =>
      cases rr
      cases rx
      have ec := hcv _ rt
      subst ec
      obtain ⟨t1, ha⟩ := exo_at I.hok ea
      have hx : ObjOk X.prog X.w H s.heap d (.xd fs) := I.hok d _ ed
      obtain ⟨mA, hns, hr⟩ := hx
      obtain ⟨od, ho, hl⟩ := lookIn_ns hns
      have J : PySem.W.InstAt s.heap a _ C (some od) := ⟨ha, rfl, rfl, ho⟩
      exact PySem.W.kia_one (exKit T) I.kIn J e (fun z => nomatch z) fun tk => ⟨.bl b, H, I.kept (t' := tk) fun _ _ z => z, rfl, q⟩
/-- isinstance(e, c), e the exception that the suite holds -/
def rIsS (K : PySem.W.Frag) (a : Addr) (cls : Value) (d : Option Addr) : List V → Hp → VK → Prop := fun xs H Q => ∃ (C fI dd : Addr) (f : Str) (c : V) (cv : Value) (b : Bool), xs = [.ref a, c] ∧ cls = .ref C ∧ d = some dd ∧ ExT K C fI f ∧ (∃ fs, H dd = some (.xd fs)) ∧
  (∀ u, RelV c u → u = cv) ∧ PySem.W.kitOne K (.ref C) cv = some b ∧ Q (.bl b) H
theorem call_isS {a : Addr} {oe : Obj} {cls : Value} {d : Option Addr} {pn : List (Addr × Obj)} (hz : Zc cls d oe) (hf : ∃ vs, oe.data = .fields vs) : CallR (X.suite a ((a, oe) :: pn)) (.builtin "isinstance") (rIsS X.K a cls d) := by
  intro pins s σ H xs us Q I r h
  obtain ⟨C, fI, dd, f, c, cv, b, rfl, rfl, rfl, T, ⟨fs, ed⟩, hcv, e, q⟩ := h
  cases r with
  | cons rx rr =>
    cases rr with
    | cons rt rr =>
      cases rr
      cases rx
      have ec := hcv _ rt
      subst ec
      obtain ⟨hget, _⟩ := I.pin (a, oe) (List.mem_append.mpr (.inl List.mem_cons_self))
      obtain ⟨vs, hv⟩ := hf
      have hx : ObjOk X.prog X.w H s.heap dd (.xd fs) := I.hok dd _ ed
      obtain ⟨mA, hns, hr⟩ := hx
      obtain ⟨od, ho, hl⟩ := lookIn_ns hns
      have J : PySem.W.InstAt s.heap a oe C (some od) := ⟨hget, hz.1, by unfold PySem.W.notCls; rw [hv] <;> rfl, by rw [hz.2]; exact ho⟩
      exact PySem.W.kia_one (exKit T) I.kIn J e (fun z => nomatch z) fun tk => ⟨.bl b, H, I.kept (t' := tk) fun _ _ z => z, rfl, q⟩
end
end CW

set_option maxHeartbeats 4000000
/-! the law's own def: its promise, its function before any ground -/
namespace CW
open PySem PySem.Spec PyProof.Rows L2 CWX
def spLaw (K : PySem.W.Frag) : Sp := sp1 fun v H Q _ => ∃ (a : Addr) (ns : List Int), v = .ref a ∧ SqL K H a (ns.map V.int) ∧ ns.length ≤ 63 ∧ ∀ H', Q (.bl true) H'
def LawFn (P : Program) (w : World) (K : PySem.W.Frag) (mg : Str → Option Value) (k : Nat) (f : Addr) : Prop :=
  ∃ fd : FuncData, (∀ (s : Shared) (u : Value), BindsTo s fd ⟨[u], []⟩ [("script", u)]) ∧ ∀ base : Heap, FnOk P w K mg base (L2.CX P w) k f fd ["script"] (spLaw K)
theorem lawFn {P : Program} {w : World} {K : PySem.W.Frag} {mg : Str → Option Value} {st : Stmt} {f : Addr} {N : List Str} {k : Nat} (F : FnD K "law" "law" st f) (S : FnScope N ["script"] (defScope st))
    (hbody : ∀ (base : Heap) (cdv : Value) (A : Around) (outer : List Env) (s : Shared) (H : Hp) (a : Addr) (ns : List Int) (Q : VK) (E : XK), Room k (bodyCx P w K mg base N "law" st f cdv A outer s H E).A →
      Takes (bodyCx P w K mg base N "law" st f cdv A outer s H E) (fun cls d _ H' => E cls d H') → SqL K H a (ns.map V.int) → ns.length ≤ 63 → (∀ H', Q (.bl true) H') →
      ∃ t, PSs (bodyCx P w K mg base N "law" st f cdv A outer s H E) (defBody st) t ∧ t { nx := fun _ H' => Q .non H', rt := Q } (start N [.ref a]) H)
    (hb : ∀ (kV doc pm : Value) (an : Option Addr) (cdv ct : Value) (us : List Value), us.length = ["script"].length → bindArgs (PySem.W.fnOf "law" "law" (defArgs st) (defBody st) (defScope st) .none kV doc pm an cdv ct) ⟨us, []⟩ = pure ((["script"] : List Str).zip us) := by
      intro _ _ _ _ _ _ us hl
      match us, hl with
      | [_], _ => rfl) : LawFn P w K mg (k + 1) f := by
  obtain ⟨fd, FD⟩ := F
  have b := FunD.bindsA (ps := ["script"]) FD hb
  refine ⟨fd, fun s u => b s [u] rfl, fun base => fn_okx FD S (fun vs H Q E h => match vs, h with | [_], _ => rfl) fun cdv A outer s H vs Q E hr tk h => ?_⟩
  match vs, h with
  | [v], h =>
    obtain ⟨a, ns, rfl, hS, hl, kq⟩ := h
    exact hbody base cdv A outer s H a ns Q E hr tk hS hl kq
theorem cx_never {P : Program} {w : World} (H : Hp) (s : Shared) (e : Value) (s' : Shared) (c : L2.CX P w [] H s (fun _ _ _ => False) e s') : False := by
  obtain ⟨_, _, _, _, _, _, _, _, _, _, _, _, z⟩ := c
  exact z.elim
/-- the walk of a law, its promise told for each world by itself -/
theorem law_walk {l : PySem.W.OpenLaw} {k : Nat} {q : Program} {loose : List Str} {XP : (Str → Option Value) → Heap → Prop} {YP : World → Heap → Prop} {d : DefRec} (hn : l.most = some 63) (hd0 : d.params.defaults = []) (hr : Room k callerA)
    (F : ∀ (w : World) (mg : Str → Option Value) (fa : Addr) (h : Heap), YP w h → h.Ns mainGlobals mg → mg d.name = some (.ref fa) → ∃ K : PySem.W.Frag, K.In h ∧ LawFn l.prog w K mg k fa) :
    PySem.W.WalkO q loose XP YP l.row.toRowW d [] (fun f vs => PySem.call f vs) := by
  refine Att.attach_call hn hd0 fun w _ s₁ mg mb fa _ _ _ _ a vs ns G Y _ _ _ hm ob hi hle hg => ?_
  obtain ⟨K, KX, fd, hb, hF⟩ := F w mg fa _ Y G.T.g hm
  exact law_call KX G.T.g G.T.b G.T.builtins G.T.nolimit hg ob hi (Nat.le_trans hle (by decide)) hr (fun base _ _ => hF base) hb (fun H _ hS => ⟨a, ns, rfl, hS, hle, fun _ => rfl⟩) fun H e s' => cx_never H s₁ e s'
end CW

set_option maxHeartbeats 0
/-! the head: places, scopes, facts by names -/
namespace CW
open PySem PySem.Spec PyProof.Rows L2 CWX
def top (i : Nat) : Stmt := PySem.Challenge.pw_checkwright_k00_errors.main.body.getD i (.Pass ⟨0, 0, 0, 0⟩)
abbrev s__law_so : Stmt := top 10
theorem sc__law_so : FnScope ["found", "meant", "k"] ["found", "meant"] (defScope s__law_so) := ⟨rfl, rfl, rfl, by decide +kernel, rfl, by decide +kernel, by decide +kernel⟩
abbrev s__law_numbers : Stmt := top 11
theorem sc__law_numbers : FnScope ["script", "row", "alone", "left", "k", "stirred"] ["script"] (defScope s__law_numbers) := ⟨rfl, rfl, rfl, by decide +kernel, rfl, by decide +kernel, by decide +kernel⟩
abbrev s__law_draw : Stmt := top 12
theorem sc__law_draw : FnScope ["row", "at", "limit", "stirred"] ["row", "at", "limit"] (defScope s__law_draw) := ⟨rfl, rfl, rfl, by decide +kernel, rfl, by decide +kernel, by decide +kernel⟩
abbrev s__law_take : Stmt := top 13
theorem sc__law_take : FnScope ["row", "spot", "limit"] ["row", "spot", "limit"] (defScope s__law_take) := ⟨rfl, rfl, rfl, by decide +kernel, rfl, by decide +kernel, by decide +kernel⟩
abbrev s__law_wide : Stmt := top 14
theorem sc__law_wide : FnScope ["row", "spot", "limit", "first", "second", "third"] ["row", "spot", "limit"] (defScope s__law_wide) := ⟨rfl, rfl, rfl, by decide +kernel, rfl, by decide +kernel, by decide +kernel⟩
abbrev s_law : Stmt := top 15
theorem sc_law : FnScope ["script", "row", "spot", "at", "made", "k", "one", "held", "j", "why"] ["script"] (defScope s_law) := ⟨rfl, rfl, rfl, by decide +kernel, rfl, by decide +kernel, by decide +kernel⟩
abbrev s_BadValue_init : Stmt := inClass (top 2) 0
theorem sc_BadValue_init : FnScope ["self", "at"] ["self", "at"] (defScope s_BadValue_init) := ⟨rfl, rfl, rfl, by decide +kernel, rfl, by decide +kernel, by decide +kernel⟩
abbrev s_BadText_init : Stmt := inClass (top 3) 0
theorem sc_BadText_init : FnScope ["self", "line"] ["self", "line"] (defScope s_BadText_init) := ⟨rfl, rfl, rfl, by decide +kernel, rfl, by decide +kernel, by decide +kernel⟩
abbrev s_BadCode_init : Stmt := inClass (top 4) 0
theorem sc_BadCode_init : FnScope ["self", "at"] ["self", "at"] (defScope s_BadCode_init) := ⟨rfl, rfl, rfl, by decide +kernel, rfl, by decide +kernel, by decide +kernel⟩
abbrev s_NoClass_init : Stmt := inClass (top 5) 0
theorem sc_NoClass_init : FnScope ["self", "name"] ["self", "name"] (defScope s_NoClass_init) := ⟨rfl, rfl, rfl, by decide +kernel, rfl, by decide +kernel, by decide +kernel⟩
abbrev s_NoField_init : Stmt := inClass (top 6) 0
theorem sc_NoField_init : FnScope ["self", "name"] ["self", "name"] (defScope s_NoField_init) := ⟨rfl, rfl, rfl, by decide +kernel, rfl, by decide +kernel, by decide +kernel⟩
abbrev s_NoMethod_init : Stmt := inClass (top 7) 0
theorem sc_NoMethod_init : FnScope ["self", "name"] ["self", "name"] (defScope s_NoMethod_init) := ⟨rfl, rfl, rfl, by decide +kernel, rfl, by decide +kernel, by decide +kernel⟩
abbrev s_NoPlace_init : Stmt := inClass (top 8) 0
theorem sc_NoPlace_init : FnScope ["self", "at"] ["self", "at"] (defScope s_NoPlace_init) := ⟨rfl, rfl, rfl, by decide +kernel, rfl, by decide +kernel, by decide +kernel⟩
def fn0 : List He.DefD := [dd "_law_so" s__law_so, dd "_law_numbers" s__law_numbers, dd "_law_draw" s__law_draw, dd "_law_take" s__law_take, dd "_law_wide" s__law_wide, dd "law" s_law, dm "BadValue" "__init__" s_BadValue_init, dm "BadText" "__init__" s_BadText_init, dm "BadCode" "__init__" s_BadCode_init, dm "NoClass" "__init__" s_NoClass_init, dm "NoField" "__init__" s_NoField_init, dm "NoMethod" "__init__" s_NoMethod_init, dm "NoPlace" "__init__" s_NoPlace_init]
def fn : List He.DefD := fn0
def fa0 : List He.Fa := [.glo "CheckError", .glo "BadValue", .glo "BadText", .glo "BadCode", .glo "NoClass", .glo "NoField", .glo "NoMethod", .glo "NoPlace", .glo "_law_so", .glo "_law_numbers", .glo "_law_draw", .glo "_law_take", .glo "_law_wide", .glo "law", .free "Exception", .free "LookupError", .free "ValueError", .free "bool", .free "int", .free "isinstance"]
def fa1 : List He.Fa := [.free "len", .free "range", .free "str", .free "tuple"]
def fa : List He.Fa := fa0 ++ fa1
def ck0 : List (PySem.W.Frag → Bool) := [fun K => exB K "BadValue" "at", fun K => exB K "BadText" "line", fun K => exB K "BadCode" "at", fun K => exB K "NoClass" "name", fun K => exB K "NoField" "name", fun K => exB K "NoMethod" "name", fun K => exB K "NoPlace" "at", fun K => decide (PySem.W.exmOne K (.ref (He.ga K "BadValue")) (.ref (He.ga K "BadValue")) = some true), fun K => decide (PySem.W.exmOne K (.ref (He.ga K "BadValue")) (.ref (He.ga K "BadText")) = some false), fun K => decide (PySem.W.exmOne K (.ref (He.ga K "BadValue")) (.ref (He.ga K "BadCode")) = some false), fun K => decide (PySem.W.exmOne K (.ref (He.ga K "BadValue")) (.ref (He.ga K "NoClass")) = some false), fun K => decide (PySem.W.exmOne K (.ref (He.ga K "BadValue")) (.ref (He.ga K "NoField")) = some false), fun K => decide (PySem.W.exmOne K (.ref (He.ga K "BadValue")) (.ref (He.ga K "NoMethod")) = some false), fun K => decide (PySem.W.exmOne K (.ref (He.ga K "BadValue")) (.ref (He.ga K "NoPlace")) = some false), fun K => decide (PySem.W.exmOne K (.ref (He.ga K "BadValue")) (.ref (He.ga K "CheckError")) = some true), fun K => decide (PySem.W.exmOne K (.ref (He.ga K "BadText")) (.ref (He.ga K "BadValue")) = some false), fun K => decide (PySem.W.exmOne K (.ref (He.ga K "BadText")) (.ref (He.ga K "BadText")) = some true), fun K => decide (PySem.W.exmOne K (.ref (He.ga K "BadText")) (.ref (He.ga K "BadCode")) = some false), fun K => decide (PySem.W.exmOne K (.ref (He.ga K "BadText")) (.ref (He.ga K "NoClass")) = some false), fun K => decide (PySem.W.exmOne K (.ref (He.ga K "BadText")) (.ref (He.ga K "NoField")) = some false)]
def ck1 : List (PySem.W.Frag → Bool) := [fun K => decide (PySem.W.exmOne K (.ref (He.ga K "BadText")) (.ref (He.ga K "NoMethod")) = some false), fun K => decide (PySem.W.exmOne K (.ref (He.ga K "BadText")) (.ref (He.ga K "NoPlace")) = some false), fun K => decide (PySem.W.exmOne K (.ref (He.ga K "BadText")) (.ref (He.ga K "CheckError")) = some true), fun K => decide (PySem.W.exmOne K (.ref (He.ga K "BadCode")) (.ref (He.ga K "BadValue")) = some false), fun K => decide (PySem.W.exmOne K (.ref (He.ga K "BadCode")) (.ref (He.ga K "BadText")) = some false), fun K => decide (PySem.W.exmOne K (.ref (He.ga K "BadCode")) (.ref (He.ga K "BadCode")) = some true), fun K => decide (PySem.W.exmOne K (.ref (He.ga K "BadCode")) (.ref (He.ga K "NoClass")) = some false), fun K => decide (PySem.W.exmOne K (.ref (He.ga K "BadCode")) (.ref (He.ga K "NoField")) = some false), fun K => decide (PySem.W.exmOne K (.ref (He.ga K "BadCode")) (.ref (He.ga K "NoMethod")) = some false), fun K => decide (PySem.W.exmOne K (.ref (He.ga K "BadCode")) (.ref (He.ga K "NoPlace")) = some false), fun K => decide (PySem.W.exmOne K (.ref (He.ga K "BadCode")) (.ref (He.ga K "CheckError")) = some true), fun K => decide (PySem.W.exmOne K (.ref (He.ga K "NoClass")) (.ref (He.ga K "BadValue")) = some false), fun K => decide (PySem.W.exmOne K (.ref (He.ga K "NoClass")) (.ref (He.ga K "BadText")) = some false), fun K => decide (PySem.W.exmOne K (.ref (He.ga K "NoClass")) (.ref (He.ga K "BadCode")) = some false), fun K => decide (PySem.W.exmOne K (.ref (He.ga K "NoClass")) (.ref (He.ga K "NoClass")) = some true), fun K => decide (PySem.W.exmOne K (.ref (He.ga K "NoClass")) (.ref (He.ga K "NoField")) = some false), fun K => decide (PySem.W.exmOne K (.ref (He.ga K "NoClass")) (.ref (He.ga K "NoMethod")) = some false), fun K => decide (PySem.W.exmOne K (.ref (He.ga K "NoClass")) (.ref (He.ga K "NoPlace")) = some false), fun K => decide (PySem.W.exmOne K (.ref (He.ga K "NoClass")) (.ref (He.ga K "CheckError")) = some true), fun K => decide (PySem.W.exmOne K (.ref (He.ga K "NoField")) (.ref (He.ga K "BadValue")) = some false)]
def ck2 : List (PySem.W.Frag → Bool) := [fun K => decide (PySem.W.exmOne K (.ref (He.ga K "NoField")) (.ref (He.ga K "BadText")) = some false), fun K => decide (PySem.W.exmOne K (.ref (He.ga K "NoField")) (.ref (He.ga K "BadCode")) = some false), fun K => decide (PySem.W.exmOne K (.ref (He.ga K "NoField")) (.ref (He.ga K "NoClass")) = some false), fun K => decide (PySem.W.exmOne K (.ref (He.ga K "NoField")) (.ref (He.ga K "NoField")) = some true), fun K => decide (PySem.W.exmOne K (.ref (He.ga K "NoField")) (.ref (He.ga K "NoMethod")) = some false), fun K => decide (PySem.W.exmOne K (.ref (He.ga K "NoField")) (.ref (He.ga K "NoPlace")) = some false), fun K => decide (PySem.W.exmOne K (.ref (He.ga K "NoField")) (.ref (He.ga K "CheckError")) = some true), fun K => decide (PySem.W.exmOne K (.ref (He.ga K "NoMethod")) (.ref (He.ga K "BadValue")) = some false), fun K => decide (PySem.W.exmOne K (.ref (He.ga K "NoMethod")) (.ref (He.ga K "BadText")) = some false), fun K => decide (PySem.W.exmOne K (.ref (He.ga K "NoMethod")) (.ref (He.ga K "BadCode")) = some false), fun K => decide (PySem.W.exmOne K (.ref (He.ga K "NoMethod")) (.ref (He.ga K "NoClass")) = some false), fun K => decide (PySem.W.exmOne K (.ref (He.ga K "NoMethod")) (.ref (He.ga K "NoField")) = some false), fun K => decide (PySem.W.exmOne K (.ref (He.ga K "NoMethod")) (.ref (He.ga K "NoMethod")) = some true), fun K => decide (PySem.W.exmOne K (.ref (He.ga K "NoMethod")) (.ref (He.ga K "NoPlace")) = some false), fun K => decide (PySem.W.exmOne K (.ref (He.ga K "NoMethod")) (.ref (He.ga K "CheckError")) = some true), fun K => decide (PySem.W.exmOne K (.ref (He.ga K "NoPlace")) (.ref (He.ga K "BadValue")) = some false), fun K => decide (PySem.W.exmOne K (.ref (He.ga K "NoPlace")) (.ref (He.ga K "BadText")) = some false), fun K => decide (PySem.W.exmOne K (.ref (He.ga K "NoPlace")) (.ref (He.ga K "BadCode")) = some false), fun K => decide (PySem.W.exmOne K (.ref (He.ga K "NoPlace")) (.ref (He.ga K "NoClass")) = some false), fun K => decide (PySem.W.exmOne K (.ref (He.ga K "NoPlace")) (.ref (He.ga K "NoField")) = some false)]
def ck3 : List (PySem.W.Frag → Bool) := [fun K => decide (PySem.W.exmOne K (.ref (He.ga K "NoPlace")) (.ref (He.ga K "NoMethod")) = some false), fun K => decide (PySem.W.exmOne K (.ref (He.ga K "NoPlace")) (.ref (He.ga K "NoPlace")) = some true), fun K => decide (PySem.W.exmOne K (.ref (He.ga K "NoPlace")) (.ref (He.ga K "CheckError")) = some true), fun K => decide (PySem.W.kitOne K (.ref (He.ga K "BadValue")) (.ref (He.ga K "BadValue")) = some true), fun K => decide (PySem.W.kitOne K (.ref (He.ga K "BadValue")) (.ref (He.ga K "BadText")) = some false), fun K => decide (PySem.W.kitOne K (.ref (He.ga K "BadValue")) (.ref (He.ga K "BadCode")) = some false), fun K => decide (PySem.W.kitOne K (.ref (He.ga K "BadValue")) (.ref (He.ga K "NoClass")) = some false), fun K => decide (PySem.W.kitOne K (.ref (He.ga K "BadValue")) (.ref (He.ga K "NoField")) = some false), fun K => decide (PySem.W.kitOne K (.ref (He.ga K "BadValue")) (.ref (He.ga K "NoMethod")) = some false), fun K => decide (PySem.W.kitOne K (.ref (He.ga K "BadValue")) (.ref (He.ga K "NoPlace")) = some false), fun K => decide (PySem.W.kitOne K (.ref (He.ga K "BadValue")) (.ref (He.ga K "CheckError")) = some true), fun K => decide (PySem.W.kitOne K (.ref (He.ga K "BadValue")) (.type "Exception") = some true), fun K => decide (PySem.W.kitOne K (.ref (He.ga K "BadValue")) (.type "ValueError") = some false), fun K => decide (PySem.W.kitOne K (.ref (He.ga K "BadValue")) (.type "LookupError") = some false), fun K => decide (PySem.W.kitOne K (.ref (He.ga K "BadText")) (.ref (He.ga K "BadValue")) = some false), fun K => decide (PySem.W.kitOne K (.ref (He.ga K "BadText")) (.ref (He.ga K "BadText")) = some true), fun K => decide (PySem.W.kitOne K (.ref (He.ga K "BadText")) (.ref (He.ga K "BadCode")) = some false), fun K => decide (PySem.W.kitOne K (.ref (He.ga K "BadText")) (.ref (He.ga K "NoClass")) = some false), fun K => decide (PySem.W.kitOne K (.ref (He.ga K "BadText")) (.ref (He.ga K "NoField")) = some false), fun K => decide (PySem.W.kitOne K (.ref (He.ga K "BadText")) (.ref (He.ga K "NoMethod")) = some false)]
def ck4 : List (PySem.W.Frag → Bool) := [fun K => decide (PySem.W.kitOne K (.ref (He.ga K "BadText")) (.ref (He.ga K "NoPlace")) = some false), fun K => decide (PySem.W.kitOne K (.ref (He.ga K "BadText")) (.ref (He.ga K "CheckError")) = some true), fun K => decide (PySem.W.kitOne K (.ref (He.ga K "BadText")) (.type "Exception") = some true), fun K => decide (PySem.W.kitOne K (.ref (He.ga K "BadText")) (.type "ValueError") = some false), fun K => decide (PySem.W.kitOne K (.ref (He.ga K "BadText")) (.type "LookupError") = some false), fun K => decide (PySem.W.kitOne K (.ref (He.ga K "BadCode")) (.ref (He.ga K "BadValue")) = some false), fun K => decide (PySem.W.kitOne K (.ref (He.ga K "BadCode")) (.ref (He.ga K "BadText")) = some false), fun K => decide (PySem.W.kitOne K (.ref (He.ga K "BadCode")) (.ref (He.ga K "BadCode")) = some true), fun K => decide (PySem.W.kitOne K (.ref (He.ga K "BadCode")) (.ref (He.ga K "NoClass")) = some false), fun K => decide (PySem.W.kitOne K (.ref (He.ga K "BadCode")) (.ref (He.ga K "NoField")) = some false), fun K => decide (PySem.W.kitOne K (.ref (He.ga K "BadCode")) (.ref (He.ga K "NoMethod")) = some false), fun K => decide (PySem.W.kitOne K (.ref (He.ga K "BadCode")) (.ref (He.ga K "NoPlace")) = some false), fun K => decide (PySem.W.kitOne K (.ref (He.ga K "BadCode")) (.ref (He.ga K "CheckError")) = some true), fun K => decide (PySem.W.kitOne K (.ref (He.ga K "BadCode")) (.type "Exception") = some true), fun K => decide (PySem.W.kitOne K (.ref (He.ga K "BadCode")) (.type "ValueError") = some false), fun K => decide (PySem.W.kitOne K (.ref (He.ga K "BadCode")) (.type "LookupError") = some false), fun K => decide (PySem.W.kitOne K (.ref (He.ga K "NoClass")) (.ref (He.ga K "BadValue")) = some false), fun K => decide (PySem.W.kitOne K (.ref (He.ga K "NoClass")) (.ref (He.ga K "BadText")) = some false), fun K => decide (PySem.W.kitOne K (.ref (He.ga K "NoClass")) (.ref (He.ga K "BadCode")) = some false), fun K => decide (PySem.W.kitOne K (.ref (He.ga K "NoClass")) (.ref (He.ga K "NoClass")) = some true)]
def ck5 : List (PySem.W.Frag → Bool) := [fun K => decide (PySem.W.kitOne K (.ref (He.ga K "NoClass")) (.ref (He.ga K "NoField")) = some false), fun K => decide (PySem.W.kitOne K (.ref (He.ga K "NoClass")) (.ref (He.ga K "NoMethod")) = some false), fun K => decide (PySem.W.kitOne K (.ref (He.ga K "NoClass")) (.ref (He.ga K "NoPlace")) = some false), fun K => decide (PySem.W.kitOne K (.ref (He.ga K "NoClass")) (.ref (He.ga K "CheckError")) = some true), fun K => decide (PySem.W.kitOne K (.ref (He.ga K "NoClass")) (.type "Exception") = some true), fun K => decide (PySem.W.kitOne K (.ref (He.ga K "NoClass")) (.type "ValueError") = some false), fun K => decide (PySem.W.kitOne K (.ref (He.ga K "NoClass")) (.type "LookupError") = some false), fun K => decide (PySem.W.kitOne K (.ref (He.ga K "NoField")) (.ref (He.ga K "BadValue")) = some false), fun K => decide (PySem.W.kitOne K (.ref (He.ga K "NoField")) (.ref (He.ga K "BadText")) = some false), fun K => decide (PySem.W.kitOne K (.ref (He.ga K "NoField")) (.ref (He.ga K "BadCode")) = some false), fun K => decide (PySem.W.kitOne K (.ref (He.ga K "NoField")) (.ref (He.ga K "NoClass")) = some false), fun K => decide (PySem.W.kitOne K (.ref (He.ga K "NoField")) (.ref (He.ga K "NoField")) = some true), fun K => decide (PySem.W.kitOne K (.ref (He.ga K "NoField")) (.ref (He.ga K "NoMethod")) = some false), fun K => decide (PySem.W.kitOne K (.ref (He.ga K "NoField")) (.ref (He.ga K "NoPlace")) = some false), fun K => decide (PySem.W.kitOne K (.ref (He.ga K "NoField")) (.ref (He.ga K "CheckError")) = some true), fun K => decide (PySem.W.kitOne K (.ref (He.ga K "NoField")) (.type "Exception") = some true), fun K => decide (PySem.W.kitOne K (.ref (He.ga K "NoField")) (.type "ValueError") = some false), fun K => decide (PySem.W.kitOne K (.ref (He.ga K "NoField")) (.type "LookupError") = some false), fun K => decide (PySem.W.kitOne K (.ref (He.ga K "NoMethod")) (.ref (He.ga K "BadValue")) = some false), fun K => decide (PySem.W.kitOne K (.ref (He.ga K "NoMethod")) (.ref (He.ga K "BadText")) = some false)]
def ck6 : List (PySem.W.Frag → Bool) := [fun K => decide (PySem.W.kitOne K (.ref (He.ga K "NoMethod")) (.ref (He.ga K "BadCode")) = some false), fun K => decide (PySem.W.kitOne K (.ref (He.ga K "NoMethod")) (.ref (He.ga K "NoClass")) = some false), fun K => decide (PySem.W.kitOne K (.ref (He.ga K "NoMethod")) (.ref (He.ga K "NoField")) = some false), fun K => decide (PySem.W.kitOne K (.ref (He.ga K "NoMethod")) (.ref (He.ga K "NoMethod")) = some true), fun K => decide (PySem.W.kitOne K (.ref (He.ga K "NoMethod")) (.ref (He.ga K "NoPlace")) = some false), fun K => decide (PySem.W.kitOne K (.ref (He.ga K "NoMethod")) (.ref (He.ga K "CheckError")) = some true), fun K => decide (PySem.W.kitOne K (.ref (He.ga K "NoMethod")) (.type "Exception") = some true), fun K => decide (PySem.W.kitOne K (.ref (He.ga K "NoMethod")) (.type "ValueError") = some false), fun K => decide (PySem.W.kitOne K (.ref (He.ga K "NoMethod")) (.type "LookupError") = some false), fun K => decide (PySem.W.kitOne K (.ref (He.ga K "NoPlace")) (.ref (He.ga K "BadValue")) = some false), fun K => decide (PySem.W.kitOne K (.ref (He.ga K "NoPlace")) (.ref (He.ga K "BadText")) = some false), fun K => decide (PySem.W.kitOne K (.ref (He.ga K "NoPlace")) (.ref (He.ga K "BadCode")) = some false), fun K => decide (PySem.W.kitOne K (.ref (He.ga K "NoPlace")) (.ref (He.ga K "NoClass")) = some false), fun K => decide (PySem.W.kitOne K (.ref (He.ga K "NoPlace")) (.ref (He.ga K "NoField")) = some false), fun K => decide (PySem.W.kitOne K (.ref (He.ga K "NoPlace")) (.ref (He.ga K "NoMethod")) = some false), fun K => decide (PySem.W.kitOne K (.ref (He.ga K "NoPlace")) (.ref (He.ga K "NoPlace")) = some true), fun K => decide (PySem.W.kitOne K (.ref (He.ga K "NoPlace")) (.ref (He.ga K "CheckError")) = some true), fun K => decide (PySem.W.kitOne K (.ref (He.ga K "NoPlace")) (.type "Exception") = some true), fun K => decide (PySem.W.kitOne K (.ref (He.ga K "NoPlace")) (.type "ValueError") = some false), fun K => decide (PySem.W.kitOne K (.ref (He.ga K "NoPlace")) (.type "LookupError") = some false)]
def ck : List (PySem.W.Frag → Bool) := ck0 ++ ck1 ++ ck2 ++ ck3 ++ ck4 ++ ck5 ++ ck6
def chk (K : PySem.W.Frag) : Bool := ck.all fun f => f K
def lo0 : List Str := ["__name__", "CheckError", "BadValue", "BadText", "BadCode", "NoClass", "NoField", "NoMethod", "NoPlace", "_law_so", "_law_numbers", "_law_draw", "_law_take", "_law_wide"]
def loose : List Str := lo0
abbrev R : PySem.W.OpenRow := PySem.W.OpenLaw.row PySem.Challenge.rw_checkwright_k00_errors
abbrev hk : PySem.W.Hook := hookX 5 (fun K => chk K && fa.all fun f => f.ok K) fn
def ob (s : PySem.W.SharedT) : He.AlD := obsXG 5 (fun K => chk K && fa.all fun f => f.ok K) fn (HandSHeadRun.getT s)
theorem ob_eq (s : PySem.W.SharedT) : ob s = hk.obs s.abs := obsXG_eq (HandSHeadRun.getT_eq s)
theorem run (w : World) : HandSHeadRun.RunEq R (PySem.W.view R.prog [15]) hk ob 20000 loose w := by
  intro os
  kernel_rfl
abbrev lawPlace : Nat := 15
/-- what the text's top has left -/
structure Tx (K : PySem.W.Frag) (mg : Str → Option Value) : Prop where
  says : SaysX (fun K => chk K && fa.all fun f => f.ok K) fn K
  rd : ∃ h : Heap, K.In h ∧ h.Ns mainGlobals mg
section
variable {K : PySem.W.Frag} {mg : Str → Option Value}
theorem Tx.fact (T : Tx K mg) (i : Nat) {f : He.Fa} (h : fa[i]? = some f := by rfl) : f.ok K = true := says_fact T.says i h
theorem Tx.chk (T : Tx K mg) : CW.chk K = true := says_chk T.says
theorem Tx.g_CheckError (T : Tx K mg) : mg "CheckError" = some (.ref (He.ga K "CheckError")) := by obtain ⟨h, X, G⟩ := T.rd; exact He.glo_ok X G (T.fact 0)
theorem Tx.g_BadValue (T : Tx K mg) : mg "BadValue" = some (.ref (He.ga K "BadValue")) := by obtain ⟨h, X, G⟩ := T.rd; exact He.glo_ok X G (T.fact 1)
theorem Tx.g_BadText (T : Tx K mg) : mg "BadText" = some (.ref (He.ga K "BadText")) := by obtain ⟨h, X, G⟩ := T.rd; exact He.glo_ok X G (T.fact 2)
theorem Tx.g_BadCode (T : Tx K mg) : mg "BadCode" = some (.ref (He.ga K "BadCode")) := by obtain ⟨h, X, G⟩ := T.rd; exact He.glo_ok X G (T.fact 3)
theorem Tx.g_NoClass (T : Tx K mg) : mg "NoClass" = some (.ref (He.ga K "NoClass")) := by obtain ⟨h, X, G⟩ := T.rd; exact He.glo_ok X G (T.fact 4)
theorem Tx.g_NoField (T : Tx K mg) : mg "NoField" = some (.ref (He.ga K "NoField")) := by obtain ⟨h, X, G⟩ := T.rd; exact He.glo_ok X G (T.fact 5)
theorem Tx.g_NoMethod (T : Tx K mg) : mg "NoMethod" = some (.ref (He.ga K "NoMethod")) := by obtain ⟨h, X, G⟩ := T.rd; exact He.glo_ok X G (T.fact 6)
theorem Tx.g_NoPlace (T : Tx K mg) : mg "NoPlace" = some (.ref (He.ga K "NoPlace")) := by obtain ⟨h, X, G⟩ := T.rd; exact He.glo_ok X G (T.fact 7)
theorem Tx.g__law_so (T : Tx K mg) : mg "_law_so" = some (.ref (He.ga K "_law_so")) := by obtain ⟨h, X, G⟩ := T.rd; exact He.glo_ok X G (T.fact 8)
theorem Tx.g__law_numbers (T : Tx K mg) : mg "_law_numbers" = some (.ref (He.ga K "_law_numbers")) := by obtain ⟨h, X, G⟩ := T.rd; exact He.glo_ok X G (T.fact 9)
theorem Tx.g__law_draw (T : Tx K mg) : mg "_law_draw" = some (.ref (He.ga K "_law_draw")) := by obtain ⟨h, X, G⟩ := T.rd; exact He.glo_ok X G (T.fact 10)
theorem Tx.g__law_take (T : Tx K mg) : mg "_law_take" = some (.ref (He.ga K "_law_take")) := by obtain ⟨h, X, G⟩ := T.rd; exact He.glo_ok X G (T.fact 11)
theorem Tx.g__law_wide (T : Tx K mg) : mg "_law_wide" = some (.ref (He.ga K "_law_wide")) := by obtain ⟨h, X, G⟩ := T.rd; exact He.glo_ok X G (T.fact 12)
theorem Tx.g_law (T : Tx K mg) : mg "law" = some (.ref (He.ga K "law")) := by obtain ⟨h, X, G⟩ := T.rd; exact He.glo_ok X G (T.fact 13)
theorem Tx.z_Exception (T : Tx K mg) : mg "Exception" = none := by obtain ⟨h, X, G⟩ := T.rd; exact He.free_ok X G (T.fact 14)
theorem Tx.z_LookupError (T : Tx K mg) : mg "LookupError" = none := by obtain ⟨h, X, G⟩ := T.rd; exact He.free_ok X G (T.fact 15)
theorem Tx.z_ValueError (T : Tx K mg) : mg "ValueError" = none := by obtain ⟨h, X, G⟩ := T.rd; exact He.free_ok X G (T.fact 16)
theorem Tx.z_bool (T : Tx K mg) : mg "bool" = none := by obtain ⟨h, X, G⟩ := T.rd; exact He.free_ok X G (T.fact 17)
theorem Tx.z_int (T : Tx K mg) : mg "int" = none := by obtain ⟨h, X, G⟩ := T.rd; exact He.free_ok X G (T.fact 18)
theorem Tx.z_isinstance (T : Tx K mg) : mg "isinstance" = none := by obtain ⟨h, X, G⟩ := T.rd; exact He.free_ok X G (T.fact 19)
theorem Tx.z_len (T : Tx K mg) : mg "len" = none := by obtain ⟨h, X, G⟩ := T.rd; exact He.free_ok X G (T.fact 20)
theorem Tx.z_range (T : Tx K mg) : mg "range" = none := by obtain ⟨h, X, G⟩ := T.rd; exact He.free_ok X G (T.fact 21)
theorem Tx.z_str (T : Tx K mg) : mg "str" = none := by obtain ⟨h, X, G⟩ := T.rd; exact He.free_ok X G (T.fact 22)
theorem Tx.z_tuple (T : Tx K mg) : mg "tuple" = none := by obtain ⟨h, X, G⟩ := T.rd; exact He.free_ok X G (T.fact 23)
theorem Tx.f__law_so (T : Tx K mg) : FnD K "_law_so" "_law_so" (s__law_so) (He.ga K "_law_so") := says_def T.says 0
theorem Tx.f__law_numbers (T : Tx K mg) : FnD K "_law_numbers" "_law_numbers" (s__law_numbers) (He.ga K "_law_numbers") := says_def T.says 1
theorem Tx.f__law_draw (T : Tx K mg) : FnD K "_law_draw" "_law_draw" (s__law_draw) (He.ga K "_law_draw") := says_def T.says 2
theorem Tx.f__law_take (T : Tx K mg) : FnD K "_law_take" "_law_take" (s__law_take) (He.ga K "_law_take") := says_def T.says 3
theorem Tx.f__law_wide (T : Tx K mg) : FnD K "_law_wide" "_law_wide" (s__law_wide) (He.ga K "_law_wide") := says_def T.says 4
theorem Tx.f_law (T : Tx K mg) : FnD K "law" "law" (s_law) (He.ga K "law") := says_def T.says 5
theorem Tx.f_BadValue_init (T : Tx K mg) : FnD K "__init__" "BadValue.__init__" (s_BadValue_init) (He.ma K (He.ga K "BadValue") "__init__") := says_meth T.says 6
theorem Tx.f_BadText_init (T : Tx K mg) : FnD K "__init__" "BadText.__init__" (s_BadText_init) (He.ma K (He.ga K "BadText") "__init__") := says_meth T.says 7
theorem Tx.f_BadCode_init (T : Tx K mg) : FnD K "__init__" "BadCode.__init__" (s_BadCode_init) (He.ma K (He.ga K "BadCode") "__init__") := says_meth T.says 8
theorem Tx.f_NoClass_init (T : Tx K mg) : FnD K "__init__" "NoClass.__init__" (s_NoClass_init) (He.ma K (He.ga K "NoClass") "__init__") := says_meth T.says 9
theorem Tx.f_NoField_init (T : Tx K mg) : FnD K "__init__" "NoField.__init__" (s_NoField_init) (He.ma K (He.ga K "NoField") "__init__") := says_meth T.says 10
theorem Tx.f_NoMethod_init (T : Tx K mg) : FnD K "__init__" "NoMethod.__init__" (s_NoMethod_init) (He.ma K (He.ga K "NoMethod") "__init__") := says_meth T.says 11
theorem Tx.f_NoPlace_init (T : Tx K mg) : FnD K "__init__" "NoPlace.__init__" (s_NoPlace_init) (He.ma K (He.ga K "NoPlace") "__init__") := says_meth T.says 12
theorem Tx.ck (T : Tx K mg) (i : Nat) {f : PySem.W.Frag → Bool} (h : CW.ck[i]? = some f) : f K = true := List.all_eq_true.mp (show (CW.ck.all fun f => f K) = true from T.chk) f (List.mem_of_getElem? h)
theorem Tx.x_BadValue (T : Tx K mg) : CWX.ExT K (He.ga K "BadValue") (He.ma K (He.ga K "BadValue") "__init__") "at" := CWX.exB_ok (T.ck 0 (f := fun K => exB K "BadValue" "at") rfl)
theorem Tx.x_BadText (T : Tx K mg) : CWX.ExT K (He.ga K "BadText") (He.ma K (He.ga K "BadText") "__init__") "line" := CWX.exB_ok (T.ck 1 (f := fun K => exB K "BadText" "line") rfl)
theorem Tx.x_BadCode (T : Tx K mg) : CWX.ExT K (He.ga K "BadCode") (He.ma K (He.ga K "BadCode") "__init__") "at" := CWX.exB_ok (T.ck 2 (f := fun K => exB K "BadCode" "at") rfl)
theorem Tx.x_NoClass (T : Tx K mg) : CWX.ExT K (He.ga K "NoClass") (He.ma K (He.ga K "NoClass") "__init__") "name" := CWX.exB_ok (T.ck 3 (f := fun K => exB K "NoClass" "name") rfl)
theorem Tx.x_NoField (T : Tx K mg) : CWX.ExT K (He.ga K "NoField") (He.ma K (He.ga K "NoField") "__init__") "name" := CWX.exB_ok (T.ck 4 (f := fun K => exB K "NoField" "name") rfl)
theorem Tx.x_NoMethod (T : Tx K mg) : CWX.ExT K (He.ga K "NoMethod") (He.ma K (He.ga K "NoMethod") "__init__") "name" := CWX.exB_ok (T.ck 5 (f := fun K => exB K "NoMethod" "name") rfl)
theorem Tx.x_NoPlace (T : Tx K mg) : CWX.ExT K (He.ga K "NoPlace") (He.ma K (He.ga K "NoPlace") "__init__") "at" := CWX.exB_ok (T.ck 6 (f := fun K => exB K "NoPlace" "at") rfl)
theorem Tx.m_BadValue_BadValue (T : Tx K mg) : PySem.W.exmOne K (.ref (He.ga K "BadValue")) (.ref (He.ga K "BadValue")) = some true := of_decide_eq_true (T.ck 7 (f := fun K => decide (PySem.W.exmOne K (.ref (He.ga K "BadValue")) (.ref (He.ga K "BadValue")) = some true)) rfl)
theorem Tx.m_BadValue_BadText (T : Tx K mg) : PySem.W.exmOne K (.ref (He.ga K "BadValue")) (.ref (He.ga K "BadText")) = some false := of_decide_eq_true (T.ck 8 (f := fun K => decide (PySem.W.exmOne K (.ref (He.ga K "BadValue")) (.ref (He.ga K "BadText")) = some false)) rfl)
theorem Tx.m_BadValue_BadCode (T : Tx K mg) : PySem.W.exmOne K (.ref (He.ga K "BadValue")) (.ref (He.ga K "BadCode")) = some false := of_decide_eq_true (T.ck 9 (f := fun K => decide (PySem.W.exmOne K (.ref (He.ga K "BadValue")) (.ref (He.ga K "BadCode")) = some false)) rfl)
theorem Tx.m_BadValue_NoClass (T : Tx K mg) : PySem.W.exmOne K (.ref (He.ga K "BadValue")) (.ref (He.ga K "NoClass")) = some false := of_decide_eq_true (T.ck 10 (f := fun K => decide (PySem.W.exmOne K (.ref (He.ga K "BadValue")) (.ref (He.ga K "NoClass")) = some false)) rfl)
theorem Tx.m_BadValue_NoField (T : Tx K mg) : PySem.W.exmOne K (.ref (He.ga K "BadValue")) (.ref (He.ga K "NoField")) = some false := of_decide_eq_true (T.ck 11 (f := fun K => decide (PySem.W.exmOne K (.ref (He.ga K "BadValue")) (.ref (He.ga K "NoField")) = some false)) rfl)
theorem Tx.m_BadValue_NoMethod (T : Tx K mg) : PySem.W.exmOne K (.ref (He.ga K "BadValue")) (.ref (He.ga K "NoMethod")) = some false := of_decide_eq_true (T.ck 12 (f := fun K => decide (PySem.W.exmOne K (.ref (He.ga K "BadValue")) (.ref (He.ga K "NoMethod")) = some false)) rfl)
theorem Tx.m_BadValue_NoPlace (T : Tx K mg) : PySem.W.exmOne K (.ref (He.ga K "BadValue")) (.ref (He.ga K "NoPlace")) = some false := of_decide_eq_true (T.ck 13 (f := fun K => decide (PySem.W.exmOne K (.ref (He.ga K "BadValue")) (.ref (He.ga K "NoPlace")) = some false)) rfl)
theorem Tx.m_BadValue_CheckError (T : Tx K mg) : PySem.W.exmOne K (.ref (He.ga K "BadValue")) (.ref (He.ga K "CheckError")) = some true := of_decide_eq_true (T.ck 14 (f := fun K => decide (PySem.W.exmOne K (.ref (He.ga K "BadValue")) (.ref (He.ga K "CheckError")) = some true)) rfl)
theorem Tx.m_BadText_BadValue (T : Tx K mg) : PySem.W.exmOne K (.ref (He.ga K "BadText")) (.ref (He.ga K "BadValue")) = some false := of_decide_eq_true (T.ck 15 (f := fun K => decide (PySem.W.exmOne K (.ref (He.ga K "BadText")) (.ref (He.ga K "BadValue")) = some false)) rfl)
theorem Tx.m_BadText_BadText (T : Tx K mg) : PySem.W.exmOne K (.ref (He.ga K "BadText")) (.ref (He.ga K "BadText")) = some true := of_decide_eq_true (T.ck 16 (f := fun K => decide (PySem.W.exmOne K (.ref (He.ga K "BadText")) (.ref (He.ga K "BadText")) = some true)) rfl)
theorem Tx.m_BadText_BadCode (T : Tx K mg) : PySem.W.exmOne K (.ref (He.ga K "BadText")) (.ref (He.ga K "BadCode")) = some false := of_decide_eq_true (T.ck 17 (f := fun K => decide (PySem.W.exmOne K (.ref (He.ga K "BadText")) (.ref (He.ga K "BadCode")) = some false)) rfl)
theorem Tx.m_BadText_NoClass (T : Tx K mg) : PySem.W.exmOne K (.ref (He.ga K "BadText")) (.ref (He.ga K "NoClass")) = some false := of_decide_eq_true (T.ck 18 (f := fun K => decide (PySem.W.exmOne K (.ref (He.ga K "BadText")) (.ref (He.ga K "NoClass")) = some false)) rfl)
theorem Tx.m_BadText_NoField (T : Tx K mg) : PySem.W.exmOne K (.ref (He.ga K "BadText")) (.ref (He.ga K "NoField")) = some false := of_decide_eq_true (T.ck 19 (f := fun K => decide (PySem.W.exmOne K (.ref (He.ga K "BadText")) (.ref (He.ga K "NoField")) = some false)) rfl)
theorem Tx.m_BadText_NoMethod (T : Tx K mg) : PySem.W.exmOne K (.ref (He.ga K "BadText")) (.ref (He.ga K "NoMethod")) = some false := of_decide_eq_true (T.ck 20 (f := fun K => decide (PySem.W.exmOne K (.ref (He.ga K "BadText")) (.ref (He.ga K "NoMethod")) = some false)) rfl)
theorem Tx.m_BadText_NoPlace (T : Tx K mg) : PySem.W.exmOne K (.ref (He.ga K "BadText")) (.ref (He.ga K "NoPlace")) = some false := of_decide_eq_true (T.ck 21 (f := fun K => decide (PySem.W.exmOne K (.ref (He.ga K "BadText")) (.ref (He.ga K "NoPlace")) = some false)) rfl)
theorem Tx.m_BadText_CheckError (T : Tx K mg) : PySem.W.exmOne K (.ref (He.ga K "BadText")) (.ref (He.ga K "CheckError")) = some true := of_decide_eq_true (T.ck 22 (f := fun K => decide (PySem.W.exmOne K (.ref (He.ga K "BadText")) (.ref (He.ga K "CheckError")) = some true)) rfl)
theorem Tx.m_BadCode_BadValue (T : Tx K mg) : PySem.W.exmOne K (.ref (He.ga K "BadCode")) (.ref (He.ga K "BadValue")) = some false := of_decide_eq_true (T.ck 23 (f := fun K => decide (PySem.W.exmOne K (.ref (He.ga K "BadCode")) (.ref (He.ga K "BadValue")) = some false)) rfl)
theorem Tx.m_BadCode_BadText (T : Tx K mg) : PySem.W.exmOne K (.ref (He.ga K "BadCode")) (.ref (He.ga K "BadText")) = some false := of_decide_eq_true (T.ck 24 (f := fun K => decide (PySem.W.exmOne K (.ref (He.ga K "BadCode")) (.ref (He.ga K "BadText")) = some false)) rfl)
theorem Tx.m_BadCode_BadCode (T : Tx K mg) : PySem.W.exmOne K (.ref (He.ga K "BadCode")) (.ref (He.ga K "BadCode")) = some true := of_decide_eq_true (T.ck 25 (f := fun K => decide (PySem.W.exmOne K (.ref (He.ga K "BadCode")) (.ref (He.ga K "BadCode")) = some true)) rfl)
theorem Tx.m_BadCode_NoClass (T : Tx K mg) : PySem.W.exmOne K (.ref (He.ga K "BadCode")) (.ref (He.ga K "NoClass")) = some false := of_decide_eq_true (T.ck 26 (f := fun K => decide (PySem.W.exmOne K (.ref (He.ga K "BadCode")) (.ref (He.ga K "NoClass")) = some false)) rfl)
theorem Tx.m_BadCode_NoField (T : Tx K mg) : PySem.W.exmOne K (.ref (He.ga K "BadCode")) (.ref (He.ga K "NoField")) = some false := of_decide_eq_true (T.ck 27 (f := fun K => decide (PySem.W.exmOne K (.ref (He.ga K "BadCode")) (.ref (He.ga K "NoField")) = some false)) rfl)
theorem Tx.m_BadCode_NoMethod (T : Tx K mg) : PySem.W.exmOne K (.ref (He.ga K "BadCode")) (.ref (He.ga K "NoMethod")) = some false := of_decide_eq_true (T.ck 28 (f := fun K => decide (PySem.W.exmOne K (.ref (He.ga K "BadCode")) (.ref (He.ga K "NoMethod")) = some false)) rfl)
theorem Tx.m_BadCode_NoPlace (T : Tx K mg) : PySem.W.exmOne K (.ref (He.ga K "BadCode")) (.ref (He.ga K "NoPlace")) = some false := of_decide_eq_true (T.ck 29 (f := fun K => decide (PySem.W.exmOne K (.ref (He.ga K "BadCode")) (.ref (He.ga K "NoPlace")) = some false)) rfl)
theorem Tx.m_BadCode_CheckError (T : Tx K mg) : PySem.W.exmOne K (.ref (He.ga K "BadCode")) (.ref (He.ga K "CheckError")) = some true := of_decide_eq_true (T.ck 30 (f := fun K => decide (PySem.W.exmOne K (.ref (He.ga K "BadCode")) (.ref (He.ga K "CheckError")) = some true)) rfl)
theorem Tx.m_NoClass_BadValue (T : Tx K mg) : PySem.W.exmOne K (.ref (He.ga K "NoClass")) (.ref (He.ga K "BadValue")) = some false := of_decide_eq_true (T.ck 31 (f := fun K => decide (PySem.W.exmOne K (.ref (He.ga K "NoClass")) (.ref (He.ga K "BadValue")) = some false)) rfl)
theorem Tx.m_NoClass_BadText (T : Tx K mg) : PySem.W.exmOne K (.ref (He.ga K "NoClass")) (.ref (He.ga K "BadText")) = some false := of_decide_eq_true (T.ck 32 (f := fun K => decide (PySem.W.exmOne K (.ref (He.ga K "NoClass")) (.ref (He.ga K "BadText")) = some false)) rfl)
theorem Tx.m_NoClass_BadCode (T : Tx K mg) : PySem.W.exmOne K (.ref (He.ga K "NoClass")) (.ref (He.ga K "BadCode")) = some false := of_decide_eq_true (T.ck 33 (f := fun K => decide (PySem.W.exmOne K (.ref (He.ga K "NoClass")) (.ref (He.ga K "BadCode")) = some false)) rfl)
theorem Tx.m_NoClass_NoClass (T : Tx K mg) : PySem.W.exmOne K (.ref (He.ga K "NoClass")) (.ref (He.ga K "NoClass")) = some true := of_decide_eq_true (T.ck 34 (f := fun K => decide (PySem.W.exmOne K (.ref (He.ga K "NoClass")) (.ref (He.ga K "NoClass")) = some true)) rfl)
theorem Tx.m_NoClass_NoField (T : Tx K mg) : PySem.W.exmOne K (.ref (He.ga K "NoClass")) (.ref (He.ga K "NoField")) = some false := of_decide_eq_true (T.ck 35 (f := fun K => decide (PySem.W.exmOne K (.ref (He.ga K "NoClass")) (.ref (He.ga K "NoField")) = some false)) rfl)
theorem Tx.m_NoClass_NoMethod (T : Tx K mg) : PySem.W.exmOne K (.ref (He.ga K "NoClass")) (.ref (He.ga K "NoMethod")) = some false := of_decide_eq_true (T.ck 36 (f := fun K => decide (PySem.W.exmOne K (.ref (He.ga K "NoClass")) (.ref (He.ga K "NoMethod")) = some false)) rfl)
theorem Tx.m_NoClass_NoPlace (T : Tx K mg) : PySem.W.exmOne K (.ref (He.ga K "NoClass")) (.ref (He.ga K "NoPlace")) = some false := of_decide_eq_true (T.ck 37 (f := fun K => decide (PySem.W.exmOne K (.ref (He.ga K "NoClass")) (.ref (He.ga K "NoPlace")) = some false)) rfl)
theorem Tx.m_NoClass_CheckError (T : Tx K mg) : PySem.W.exmOne K (.ref (He.ga K "NoClass")) (.ref (He.ga K "CheckError")) = some true := of_decide_eq_true (T.ck 38 (f := fun K => decide (PySem.W.exmOne K (.ref (He.ga K "NoClass")) (.ref (He.ga K "CheckError")) = some true)) rfl)
theorem Tx.m_NoField_BadValue (T : Tx K mg) : PySem.W.exmOne K (.ref (He.ga K "NoField")) (.ref (He.ga K "BadValue")) = some false := of_decide_eq_true (T.ck 39 (f := fun K => decide (PySem.W.exmOne K (.ref (He.ga K "NoField")) (.ref (He.ga K "BadValue")) = some false)) rfl)
theorem Tx.m_NoField_BadText (T : Tx K mg) : PySem.W.exmOne K (.ref (He.ga K "NoField")) (.ref (He.ga K "BadText")) = some false := of_decide_eq_true (T.ck 40 (f := fun K => decide (PySem.W.exmOne K (.ref (He.ga K "NoField")) (.ref (He.ga K "BadText")) = some false)) rfl)
theorem Tx.m_NoField_BadCode (T : Tx K mg) : PySem.W.exmOne K (.ref (He.ga K "NoField")) (.ref (He.ga K "BadCode")) = some false := of_decide_eq_true (T.ck 41 (f := fun K => decide (PySem.W.exmOne K (.ref (He.ga K "NoField")) (.ref (He.ga K "BadCode")) = some false)) rfl)
theorem Tx.m_NoField_NoClass (T : Tx K mg) : PySem.W.exmOne K (.ref (He.ga K "NoField")) (.ref (He.ga K "NoClass")) = some false := of_decide_eq_true (T.ck 42 (f := fun K => decide (PySem.W.exmOne K (.ref (He.ga K "NoField")) (.ref (He.ga K "NoClass")) = some false)) rfl)
theorem Tx.m_NoField_NoField (T : Tx K mg) : PySem.W.exmOne K (.ref (He.ga K "NoField")) (.ref (He.ga K "NoField")) = some true := of_decide_eq_true (T.ck 43 (f := fun K => decide (PySem.W.exmOne K (.ref (He.ga K "NoField")) (.ref (He.ga K "NoField")) = some true)) rfl)
theorem Tx.m_NoField_NoMethod (T : Tx K mg) : PySem.W.exmOne K (.ref (He.ga K "NoField")) (.ref (He.ga K "NoMethod")) = some false := of_decide_eq_true (T.ck 44 (f := fun K => decide (PySem.W.exmOne K (.ref (He.ga K "NoField")) (.ref (He.ga K "NoMethod")) = some false)) rfl)
theorem Tx.m_NoField_NoPlace (T : Tx K mg) : PySem.W.exmOne K (.ref (He.ga K "NoField")) (.ref (He.ga K "NoPlace")) = some false := of_decide_eq_true (T.ck 45 (f := fun K => decide (PySem.W.exmOne K (.ref (He.ga K "NoField")) (.ref (He.ga K "NoPlace")) = some false)) rfl)
theorem Tx.m_NoField_CheckError (T : Tx K mg) : PySem.W.exmOne K (.ref (He.ga K "NoField")) (.ref (He.ga K "CheckError")) = some true := of_decide_eq_true (T.ck 46 (f := fun K => decide (PySem.W.exmOne K (.ref (He.ga K "NoField")) (.ref (He.ga K "CheckError")) = some true)) rfl)
theorem Tx.m_NoMethod_BadValue (T : Tx K mg) : PySem.W.exmOne K (.ref (He.ga K "NoMethod")) (.ref (He.ga K "BadValue")) = some false := of_decide_eq_true (T.ck 47 (f := fun K => decide (PySem.W.exmOne K (.ref (He.ga K "NoMethod")) (.ref (He.ga K "BadValue")) = some false)) rfl)
theorem Tx.m_NoMethod_BadText (T : Tx K mg) : PySem.W.exmOne K (.ref (He.ga K "NoMethod")) (.ref (He.ga K "BadText")) = some false := of_decide_eq_true (T.ck 48 (f := fun K => decide (PySem.W.exmOne K (.ref (He.ga K "NoMethod")) (.ref (He.ga K "BadText")) = some false)) rfl)
theorem Tx.m_NoMethod_BadCode (T : Tx K mg) : PySem.W.exmOne K (.ref (He.ga K "NoMethod")) (.ref (He.ga K "BadCode")) = some false := of_decide_eq_true (T.ck 49 (f := fun K => decide (PySem.W.exmOne K (.ref (He.ga K "NoMethod")) (.ref (He.ga K "BadCode")) = some false)) rfl)
theorem Tx.m_NoMethod_NoClass (T : Tx K mg) : PySem.W.exmOne K (.ref (He.ga K "NoMethod")) (.ref (He.ga K "NoClass")) = some false := of_decide_eq_true (T.ck 50 (f := fun K => decide (PySem.W.exmOne K (.ref (He.ga K "NoMethod")) (.ref (He.ga K "NoClass")) = some false)) rfl)
theorem Tx.m_NoMethod_NoField (T : Tx K mg) : PySem.W.exmOne K (.ref (He.ga K "NoMethod")) (.ref (He.ga K "NoField")) = some false := of_decide_eq_true (T.ck 51 (f := fun K => decide (PySem.W.exmOne K (.ref (He.ga K "NoMethod")) (.ref (He.ga K "NoField")) = some false)) rfl)
theorem Tx.m_NoMethod_NoMethod (T : Tx K mg) : PySem.W.exmOne K (.ref (He.ga K "NoMethod")) (.ref (He.ga K "NoMethod")) = some true := of_decide_eq_true (T.ck 52 (f := fun K => decide (PySem.W.exmOne K (.ref (He.ga K "NoMethod")) (.ref (He.ga K "NoMethod")) = some true)) rfl)
theorem Tx.m_NoMethod_NoPlace (T : Tx K mg) : PySem.W.exmOne K (.ref (He.ga K "NoMethod")) (.ref (He.ga K "NoPlace")) = some false := of_decide_eq_true (T.ck 53 (f := fun K => decide (PySem.W.exmOne K (.ref (He.ga K "NoMethod")) (.ref (He.ga K "NoPlace")) = some false)) rfl)
theorem Tx.m_NoMethod_CheckError (T : Tx K mg) : PySem.W.exmOne K (.ref (He.ga K "NoMethod")) (.ref (He.ga K "CheckError")) = some true := of_decide_eq_true (T.ck 54 (f := fun K => decide (PySem.W.exmOne K (.ref (He.ga K "NoMethod")) (.ref (He.ga K "CheckError")) = some true)) rfl)
theorem Tx.m_NoPlace_BadValue (T : Tx K mg) : PySem.W.exmOne K (.ref (He.ga K "NoPlace")) (.ref (He.ga K "BadValue")) = some false := of_decide_eq_true (T.ck 55 (f := fun K => decide (PySem.W.exmOne K (.ref (He.ga K "NoPlace")) (.ref (He.ga K "BadValue")) = some false)) rfl)
theorem Tx.m_NoPlace_BadText (T : Tx K mg) : PySem.W.exmOne K (.ref (He.ga K "NoPlace")) (.ref (He.ga K "BadText")) = some false := of_decide_eq_true (T.ck 56 (f := fun K => decide (PySem.W.exmOne K (.ref (He.ga K "NoPlace")) (.ref (He.ga K "BadText")) = some false)) rfl)
theorem Tx.m_NoPlace_BadCode (T : Tx K mg) : PySem.W.exmOne K (.ref (He.ga K "NoPlace")) (.ref (He.ga K "BadCode")) = some false := of_decide_eq_true (T.ck 57 (f := fun K => decide (PySem.W.exmOne K (.ref (He.ga K "NoPlace")) (.ref (He.ga K "BadCode")) = some false)) rfl)
theorem Tx.m_NoPlace_NoClass (T : Tx K mg) : PySem.W.exmOne K (.ref (He.ga K "NoPlace")) (.ref (He.ga K "NoClass")) = some false := of_decide_eq_true (T.ck 58 (f := fun K => decide (PySem.W.exmOne K (.ref (He.ga K "NoPlace")) (.ref (He.ga K "NoClass")) = some false)) rfl)
theorem Tx.m_NoPlace_NoField (T : Tx K mg) : PySem.W.exmOne K (.ref (He.ga K "NoPlace")) (.ref (He.ga K "NoField")) = some false := of_decide_eq_true (T.ck 59 (f := fun K => decide (PySem.W.exmOne K (.ref (He.ga K "NoPlace")) (.ref (He.ga K "NoField")) = some false)) rfl)
theorem Tx.m_NoPlace_NoMethod (T : Tx K mg) : PySem.W.exmOne K (.ref (He.ga K "NoPlace")) (.ref (He.ga K "NoMethod")) = some false := of_decide_eq_true (T.ck 60 (f := fun K => decide (PySem.W.exmOne K (.ref (He.ga K "NoPlace")) (.ref (He.ga K "NoMethod")) = some false)) rfl)
theorem Tx.m_NoPlace_NoPlace (T : Tx K mg) : PySem.W.exmOne K (.ref (He.ga K "NoPlace")) (.ref (He.ga K "NoPlace")) = some true := of_decide_eq_true (T.ck 61 (f := fun K => decide (PySem.W.exmOne K (.ref (He.ga K "NoPlace")) (.ref (He.ga K "NoPlace")) = some true)) rfl)
theorem Tx.m_NoPlace_CheckError (T : Tx K mg) : PySem.W.exmOne K (.ref (He.ga K "NoPlace")) (.ref (He.ga K "CheckError")) = some true := of_decide_eq_true (T.ck 62 (f := fun K => decide (PySem.W.exmOne K (.ref (He.ga K "NoPlace")) (.ref (He.ga K "CheckError")) = some true)) rfl)
theorem Tx.k_BadValue_BadValue (T : Tx K mg) : PySem.W.kitOne K (.ref (He.ga K "BadValue")) (.ref (He.ga K "BadValue")) = some true := of_decide_eq_true (T.ck 63 (f := fun K => decide (PySem.W.kitOne K (.ref (He.ga K "BadValue")) (.ref (He.ga K "BadValue")) = some true)) rfl)
theorem Tx.k_BadValue_BadText (T : Tx K mg) : PySem.W.kitOne K (.ref (He.ga K "BadValue")) (.ref (He.ga K "BadText")) = some false := of_decide_eq_true (T.ck 64 (f := fun K => decide (PySem.W.kitOne K (.ref (He.ga K "BadValue")) (.ref (He.ga K "BadText")) = some false)) rfl)
theorem Tx.k_BadValue_BadCode (T : Tx K mg) : PySem.W.kitOne K (.ref (He.ga K "BadValue")) (.ref (He.ga K "BadCode")) = some false := of_decide_eq_true (T.ck 65 (f := fun K => decide (PySem.W.kitOne K (.ref (He.ga K "BadValue")) (.ref (He.ga K "BadCode")) = some false)) rfl)
theorem Tx.k_BadValue_NoClass (T : Tx K mg) : PySem.W.kitOne K (.ref (He.ga K "BadValue")) (.ref (He.ga K "NoClass")) = some false := of_decide_eq_true (T.ck 66 (f := fun K => decide (PySem.W.kitOne K (.ref (He.ga K "BadValue")) (.ref (He.ga K "NoClass")) = some false)) rfl)
theorem Tx.k_BadValue_NoField (T : Tx K mg) : PySem.W.kitOne K (.ref (He.ga K "BadValue")) (.ref (He.ga K "NoField")) = some false := of_decide_eq_true (T.ck 67 (f := fun K => decide (PySem.W.kitOne K (.ref (He.ga K "BadValue")) (.ref (He.ga K "NoField")) = some false)) rfl)
theorem Tx.k_BadValue_NoMethod (T : Tx K mg) : PySem.W.kitOne K (.ref (He.ga K "BadValue")) (.ref (He.ga K "NoMethod")) = some false := of_decide_eq_true (T.ck 68 (f := fun K => decide (PySem.W.kitOne K (.ref (He.ga K "BadValue")) (.ref (He.ga K "NoMethod")) = some false)) rfl)
theorem Tx.k_BadValue_NoPlace (T : Tx K mg) : PySem.W.kitOne K (.ref (He.ga K "BadValue")) (.ref (He.ga K "NoPlace")) = some false := of_decide_eq_true (T.ck 69 (f := fun K => decide (PySem.W.kitOne K (.ref (He.ga K "BadValue")) (.ref (He.ga K "NoPlace")) = some false)) rfl)
theorem Tx.k_BadValue_CheckError (T : Tx K mg) : PySem.W.kitOne K (.ref (He.ga K "BadValue")) (.ref (He.ga K "CheckError")) = some true := of_decide_eq_true (T.ck 70 (f := fun K => decide (PySem.W.kitOne K (.ref (He.ga K "BadValue")) (.ref (He.ga K "CheckError")) = some true)) rfl)
theorem Tx.k_BadValue_Exception (T : Tx K mg) : PySem.W.kitOne K (.ref (He.ga K "BadValue")) (.type "Exception") = some true := of_decide_eq_true (T.ck 71 (f := fun K => decide (PySem.W.kitOne K (.ref (He.ga K "BadValue")) (.type "Exception") = some true)) rfl)
theorem Tx.k_BadValue_ValueError (T : Tx K mg) : PySem.W.kitOne K (.ref (He.ga K "BadValue")) (.type "ValueError") = some false := of_decide_eq_true (T.ck 72 (f := fun K => decide (PySem.W.kitOne K (.ref (He.ga K "BadValue")) (.type "ValueError") = some false)) rfl)
theorem Tx.k_BadValue_LookupError (T : Tx K mg) : PySem.W.kitOne K (.ref (He.ga K "BadValue")) (.type "LookupError") = some false := of_decide_eq_true (T.ck 73 (f := fun K => decide (PySem.W.kitOne K (.ref (He.ga K "BadValue")) (.type "LookupError") = some false)) rfl)
theorem Tx.k_BadText_BadValue (T : Tx K mg) : PySem.W.kitOne K (.ref (He.ga K "BadText")) (.ref (He.ga K "BadValue")) = some false := of_decide_eq_true (T.ck 74 (f := fun K => decide (PySem.W.kitOne K (.ref (He.ga K "BadText")) (.ref (He.ga K "BadValue")) = some false)) rfl)
theorem Tx.k_BadText_BadText (T : Tx K mg) : PySem.W.kitOne K (.ref (He.ga K "BadText")) (.ref (He.ga K "BadText")) = some true := of_decide_eq_true (T.ck 75 (f := fun K => decide (PySem.W.kitOne K (.ref (He.ga K "BadText")) (.ref (He.ga K "BadText")) = some true)) rfl)
theorem Tx.k_BadText_BadCode (T : Tx K mg) : PySem.W.kitOne K (.ref (He.ga K "BadText")) (.ref (He.ga K "BadCode")) = some false := of_decide_eq_true (T.ck 76 (f := fun K => decide (PySem.W.kitOne K (.ref (He.ga K "BadText")) (.ref (He.ga K "BadCode")) = some false)) rfl)
theorem Tx.k_BadText_NoClass (T : Tx K mg) : PySem.W.kitOne K (.ref (He.ga K "BadText")) (.ref (He.ga K "NoClass")) = some false := of_decide_eq_true (T.ck 77 (f := fun K => decide (PySem.W.kitOne K (.ref (He.ga K "BadText")) (.ref (He.ga K "NoClass")) = some false)) rfl)
theorem Tx.k_BadText_NoField (T : Tx K mg) : PySem.W.kitOne K (.ref (He.ga K "BadText")) (.ref (He.ga K "NoField")) = some false := of_decide_eq_true (T.ck 78 (f := fun K => decide (PySem.W.kitOne K (.ref (He.ga K "BadText")) (.ref (He.ga K "NoField")) = some false)) rfl)
theorem Tx.k_BadText_NoMethod (T : Tx K mg) : PySem.W.kitOne K (.ref (He.ga K "BadText")) (.ref (He.ga K "NoMethod")) = some false := of_decide_eq_true (T.ck 79 (f := fun K => decide (PySem.W.kitOne K (.ref (He.ga K "BadText")) (.ref (He.ga K "NoMethod")) = some false)) rfl)
theorem Tx.k_BadText_NoPlace (T : Tx K mg) : PySem.W.kitOne K (.ref (He.ga K "BadText")) (.ref (He.ga K "NoPlace")) = some false := of_decide_eq_true (T.ck 80 (f := fun K => decide (PySem.W.kitOne K (.ref (He.ga K "BadText")) (.ref (He.ga K "NoPlace")) = some false)) rfl)
theorem Tx.k_BadText_CheckError (T : Tx K mg) : PySem.W.kitOne K (.ref (He.ga K "BadText")) (.ref (He.ga K "CheckError")) = some true := of_decide_eq_true (T.ck 81 (f := fun K => decide (PySem.W.kitOne K (.ref (He.ga K "BadText")) (.ref (He.ga K "CheckError")) = some true)) rfl)
theorem Tx.k_BadText_Exception (T : Tx K mg) : PySem.W.kitOne K (.ref (He.ga K "BadText")) (.type "Exception") = some true := of_decide_eq_true (T.ck 82 (f := fun K => decide (PySem.W.kitOne K (.ref (He.ga K "BadText")) (.type "Exception") = some true)) rfl)
theorem Tx.k_BadText_ValueError (T : Tx K mg) : PySem.W.kitOne K (.ref (He.ga K "BadText")) (.type "ValueError") = some false := of_decide_eq_true (T.ck 83 (f := fun K => decide (PySem.W.kitOne K (.ref (He.ga K "BadText")) (.type "ValueError") = some false)) rfl)
theorem Tx.k_BadText_LookupError (T : Tx K mg) : PySem.W.kitOne K (.ref (He.ga K "BadText")) (.type "LookupError") = some false := of_decide_eq_true (T.ck 84 (f := fun K => decide (PySem.W.kitOne K (.ref (He.ga K "BadText")) (.type "LookupError") = some false)) rfl)
theorem Tx.k_BadCode_BadValue (T : Tx K mg) : PySem.W.kitOne K (.ref (He.ga K "BadCode")) (.ref (He.ga K "BadValue")) = some false := of_decide_eq_true (T.ck 85 (f := fun K => decide (PySem.W.kitOne K (.ref (He.ga K "BadCode")) (.ref (He.ga K "BadValue")) = some false)) rfl)
theorem Tx.k_BadCode_BadText (T : Tx K mg) : PySem.W.kitOne K (.ref (He.ga K "BadCode")) (.ref (He.ga K "BadText")) = some false := of_decide_eq_true (T.ck 86 (f := fun K => decide (PySem.W.kitOne K (.ref (He.ga K "BadCode")) (.ref (He.ga K "BadText")) = some false)) rfl)
theorem Tx.k_BadCode_BadCode (T : Tx K mg) : PySem.W.kitOne K (.ref (He.ga K "BadCode")) (.ref (He.ga K "BadCode")) = some true := of_decide_eq_true (T.ck 87 (f := fun K => decide (PySem.W.kitOne K (.ref (He.ga K "BadCode")) (.ref (He.ga K "BadCode")) = some true)) rfl)
theorem Tx.k_BadCode_NoClass (T : Tx K mg) : PySem.W.kitOne K (.ref (He.ga K "BadCode")) (.ref (He.ga K "NoClass")) = some false := of_decide_eq_true (T.ck 88 (f := fun K => decide (PySem.W.kitOne K (.ref (He.ga K "BadCode")) (.ref (He.ga K "NoClass")) = some false)) rfl)
theorem Tx.k_BadCode_NoField (T : Tx K mg) : PySem.W.kitOne K (.ref (He.ga K "BadCode")) (.ref (He.ga K "NoField")) = some false := of_decide_eq_true (T.ck 89 (f := fun K => decide (PySem.W.kitOne K (.ref (He.ga K "BadCode")) (.ref (He.ga K "NoField")) = some false)) rfl)
theorem Tx.k_BadCode_NoMethod (T : Tx K mg) : PySem.W.kitOne K (.ref (He.ga K "BadCode")) (.ref (He.ga K "NoMethod")) = some false := of_decide_eq_true (T.ck 90 (f := fun K => decide (PySem.W.kitOne K (.ref (He.ga K "BadCode")) (.ref (He.ga K "NoMethod")) = some false)) rfl)
theorem Tx.k_BadCode_NoPlace (T : Tx K mg) : PySem.W.kitOne K (.ref (He.ga K "BadCode")) (.ref (He.ga K "NoPlace")) = some false := of_decide_eq_true (T.ck 91 (f := fun K => decide (PySem.W.kitOne K (.ref (He.ga K "BadCode")) (.ref (He.ga K "NoPlace")) = some false)) rfl)
theorem Tx.k_BadCode_CheckError (T : Tx K mg) : PySem.W.kitOne K (.ref (He.ga K "BadCode")) (.ref (He.ga K "CheckError")) = some true := of_decide_eq_true (T.ck 92 (f := fun K => decide (PySem.W.kitOne K (.ref (He.ga K "BadCode")) (.ref (He.ga K "CheckError")) = some true)) rfl)
theorem Tx.k_BadCode_Exception (T : Tx K mg) : PySem.W.kitOne K (.ref (He.ga K "BadCode")) (.type "Exception") = some true := of_decide_eq_true (T.ck 93 (f := fun K => decide (PySem.W.kitOne K (.ref (He.ga K "BadCode")) (.type "Exception") = some true)) rfl)
theorem Tx.k_BadCode_ValueError (T : Tx K mg) : PySem.W.kitOne K (.ref (He.ga K "BadCode")) (.type "ValueError") = some false := of_decide_eq_true (T.ck 94 (f := fun K => decide (PySem.W.kitOne K (.ref (He.ga K "BadCode")) (.type "ValueError") = some false)) rfl)
theorem Tx.k_BadCode_LookupError (T : Tx K mg) : PySem.W.kitOne K (.ref (He.ga K "BadCode")) (.type "LookupError") = some false := of_decide_eq_true (T.ck 95 (f := fun K => decide (PySem.W.kitOne K (.ref (He.ga K "BadCode")) (.type "LookupError") = some false)) rfl)
theorem Tx.k_NoClass_BadValue (T : Tx K mg) : PySem.W.kitOne K (.ref (He.ga K "NoClass")) (.ref (He.ga K "BadValue")) = some false := of_decide_eq_true (T.ck 96 (f := fun K => decide (PySem.W.kitOne K (.ref (He.ga K "NoClass")) (.ref (He.ga K "BadValue")) = some false)) rfl)
theorem Tx.k_NoClass_BadText (T : Tx K mg) : PySem.W.kitOne K (.ref (He.ga K "NoClass")) (.ref (He.ga K "BadText")) = some false := of_decide_eq_true (T.ck 97 (f := fun K => decide (PySem.W.kitOne K (.ref (He.ga K "NoClass")) (.ref (He.ga K "BadText")) = some false)) rfl)
theorem Tx.k_NoClass_BadCode (T : Tx K mg) : PySem.W.kitOne K (.ref (He.ga K "NoClass")) (.ref (He.ga K "BadCode")) = some false := of_decide_eq_true (T.ck 98 (f := fun K => decide (PySem.W.kitOne K (.ref (He.ga K "NoClass")) (.ref (He.ga K "BadCode")) = some false)) rfl)
theorem Tx.k_NoClass_NoClass (T : Tx K mg) : PySem.W.kitOne K (.ref (He.ga K "NoClass")) (.ref (He.ga K "NoClass")) = some true := of_decide_eq_true (T.ck 99 (f := fun K => decide (PySem.W.kitOne K (.ref (He.ga K "NoClass")) (.ref (He.ga K "NoClass")) = some true)) rfl)
theorem Tx.k_NoClass_NoField (T : Tx K mg) : PySem.W.kitOne K (.ref (He.ga K "NoClass")) (.ref (He.ga K "NoField")) = some false := of_decide_eq_true (T.ck 100 (f := fun K => decide (PySem.W.kitOne K (.ref (He.ga K "NoClass")) (.ref (He.ga K "NoField")) = some false)) rfl)
theorem Tx.k_NoClass_NoMethod (T : Tx K mg) : PySem.W.kitOne K (.ref (He.ga K "NoClass")) (.ref (He.ga K "NoMethod")) = some false := of_decide_eq_true (T.ck 101 (f := fun K => decide (PySem.W.kitOne K (.ref (He.ga K "NoClass")) (.ref (He.ga K "NoMethod")) = some false)) rfl)
theorem Tx.k_NoClass_NoPlace (T : Tx K mg) : PySem.W.kitOne K (.ref (He.ga K "NoClass")) (.ref (He.ga K "NoPlace")) = some false := of_decide_eq_true (T.ck 102 (f := fun K => decide (PySem.W.kitOne K (.ref (He.ga K "NoClass")) (.ref (He.ga K "NoPlace")) = some false)) rfl)
theorem Tx.k_NoClass_CheckError (T : Tx K mg) : PySem.W.kitOne K (.ref (He.ga K "NoClass")) (.ref (He.ga K "CheckError")) = some true := of_decide_eq_true (T.ck 103 (f := fun K => decide (PySem.W.kitOne K (.ref (He.ga K "NoClass")) (.ref (He.ga K "CheckError")) = some true)) rfl)
theorem Tx.k_NoClass_Exception (T : Tx K mg) : PySem.W.kitOne K (.ref (He.ga K "NoClass")) (.type "Exception") = some true := of_decide_eq_true (T.ck 104 (f := fun K => decide (PySem.W.kitOne K (.ref (He.ga K "NoClass")) (.type "Exception") = some true)) rfl)
theorem Tx.k_NoClass_ValueError (T : Tx K mg) : PySem.W.kitOne K (.ref (He.ga K "NoClass")) (.type "ValueError") = some false := of_decide_eq_true (T.ck 105 (f := fun K => decide (PySem.W.kitOne K (.ref (He.ga K "NoClass")) (.type "ValueError") = some false)) rfl)
theorem Tx.k_NoClass_LookupError (T : Tx K mg) : PySem.W.kitOne K (.ref (He.ga K "NoClass")) (.type "LookupError") = some false := of_decide_eq_true (T.ck 106 (f := fun K => decide (PySem.W.kitOne K (.ref (He.ga K "NoClass")) (.type "LookupError") = some false)) rfl)
theorem Tx.k_NoField_BadValue (T : Tx K mg) : PySem.W.kitOne K (.ref (He.ga K "NoField")) (.ref (He.ga K "BadValue")) = some false := of_decide_eq_true (T.ck 107 (f := fun K => decide (PySem.W.kitOne K (.ref (He.ga K "NoField")) (.ref (He.ga K "BadValue")) = some false)) rfl)
theorem Tx.k_NoField_BadText (T : Tx K mg) : PySem.W.kitOne K (.ref (He.ga K "NoField")) (.ref (He.ga K "BadText")) = some false := of_decide_eq_true (T.ck 108 (f := fun K => decide (PySem.W.kitOne K (.ref (He.ga K "NoField")) (.ref (He.ga K "BadText")) = some false)) rfl)
theorem Tx.k_NoField_BadCode (T : Tx K mg) : PySem.W.kitOne K (.ref (He.ga K "NoField")) (.ref (He.ga K "BadCode")) = some false := of_decide_eq_true (T.ck 109 (f := fun K => decide (PySem.W.kitOne K (.ref (He.ga K "NoField")) (.ref (He.ga K "BadCode")) = some false)) rfl)
theorem Tx.k_NoField_NoClass (T : Tx K mg) : PySem.W.kitOne K (.ref (He.ga K "NoField")) (.ref (He.ga K "NoClass")) = some false := of_decide_eq_true (T.ck 110 (f := fun K => decide (PySem.W.kitOne K (.ref (He.ga K "NoField")) (.ref (He.ga K "NoClass")) = some false)) rfl)
theorem Tx.k_NoField_NoField (T : Tx K mg) : PySem.W.kitOne K (.ref (He.ga K "NoField")) (.ref (He.ga K "NoField")) = some true := of_decide_eq_true (T.ck 111 (f := fun K => decide (PySem.W.kitOne K (.ref (He.ga K "NoField")) (.ref (He.ga K "NoField")) = some true)) rfl)
theorem Tx.k_NoField_NoMethod (T : Tx K mg) : PySem.W.kitOne K (.ref (He.ga K "NoField")) (.ref (He.ga K "NoMethod")) = some false := of_decide_eq_true (T.ck 112 (f := fun K => decide (PySem.W.kitOne K (.ref (He.ga K "NoField")) (.ref (He.ga K "NoMethod")) = some false)) rfl)
theorem Tx.k_NoField_NoPlace (T : Tx K mg) : PySem.W.kitOne K (.ref (He.ga K "NoField")) (.ref (He.ga K "NoPlace")) = some false := of_decide_eq_true (T.ck 113 (f := fun K => decide (PySem.W.kitOne K (.ref (He.ga K "NoField")) (.ref (He.ga K "NoPlace")) = some false)) rfl)
theorem Tx.k_NoField_CheckError (T : Tx K mg) : PySem.W.kitOne K (.ref (He.ga K "NoField")) (.ref (He.ga K "CheckError")) = some true := of_decide_eq_true (T.ck 114 (f := fun K => decide (PySem.W.kitOne K (.ref (He.ga K "NoField")) (.ref (He.ga K "CheckError")) = some true)) rfl)
theorem Tx.k_NoField_Exception (T : Tx K mg) : PySem.W.kitOne K (.ref (He.ga K "NoField")) (.type "Exception") = some true := of_decide_eq_true (T.ck 115 (f := fun K => decide (PySem.W.kitOne K (.ref (He.ga K "NoField")) (.type "Exception") = some true)) rfl)
theorem Tx.k_NoField_ValueError (T : Tx K mg) : PySem.W.kitOne K (.ref (He.ga K "NoField")) (.type "ValueError") = some false := of_decide_eq_true (T.ck 116 (f := fun K => decide (PySem.W.kitOne K (.ref (He.ga K "NoField")) (.type "ValueError") = some false)) rfl)
theorem Tx.k_NoField_LookupError (T : Tx K mg) : PySem.W.kitOne K (.ref (He.ga K "NoField")) (.type "LookupError") = some false := of_decide_eq_true (T.ck 117 (f := fun K => decide (PySem.W.kitOne K (.ref (He.ga K "NoField")) (.type "LookupError") = some false)) rfl)
theorem Tx.k_NoMethod_BadValue (T : Tx K mg) : PySem.W.kitOne K (.ref (He.ga K "NoMethod")) (.ref (He.ga K "BadValue")) = some false := of_decide_eq_true (T.ck 118 (f := fun K => decide (PySem.W.kitOne K (.ref (He.ga K "NoMethod")) (.ref (He.ga K "BadValue")) = some false)) rfl)
theorem Tx.k_NoMethod_BadText (T : Tx K mg) : PySem.W.kitOne K (.ref (He.ga K "NoMethod")) (.ref (He.ga K "BadText")) = some false := of_decide_eq_true (T.ck 119 (f := fun K => decide (PySem.W.kitOne K (.ref (He.ga K "NoMethod")) (.ref (He.ga K "BadText")) = some false)) rfl)
theorem Tx.k_NoMethod_BadCode (T : Tx K mg) : PySem.W.kitOne K (.ref (He.ga K "NoMethod")) (.ref (He.ga K "BadCode")) = some false := of_decide_eq_true (T.ck 120 (f := fun K => decide (PySem.W.kitOne K (.ref (He.ga K "NoMethod")) (.ref (He.ga K "BadCode")) = some false)) rfl)
theorem Tx.k_NoMethod_NoClass (T : Tx K mg) : PySem.W.kitOne K (.ref (He.ga K "NoMethod")) (.ref (He.ga K "NoClass")) = some false := of_decide_eq_true (T.ck 121 (f := fun K => decide (PySem.W.kitOne K (.ref (He.ga K "NoMethod")) (.ref (He.ga K "NoClass")) = some false)) rfl)
theorem Tx.k_NoMethod_NoField (T : Tx K mg) : PySem.W.kitOne K (.ref (He.ga K "NoMethod")) (.ref (He.ga K "NoField")) = some false := of_decide_eq_true (T.ck 122 (f := fun K => decide (PySem.W.kitOne K (.ref (He.ga K "NoMethod")) (.ref (He.ga K "NoField")) = some false)) rfl)
theorem Tx.k_NoMethod_NoMethod (T : Tx K mg) : PySem.W.kitOne K (.ref (He.ga K "NoMethod")) (.ref (He.ga K "NoMethod")) = some true := of_decide_eq_true (T.ck 123 (f := fun K => decide (PySem.W.kitOne K (.ref (He.ga K "NoMethod")) (.ref (He.ga K "NoMethod")) = some true)) rfl)
theorem Tx.k_NoMethod_NoPlace (T : Tx K mg) : PySem.W.kitOne K (.ref (He.ga K "NoMethod")) (.ref (He.ga K "NoPlace")) = some false := of_decide_eq_true (T.ck 124 (f := fun K => decide (PySem.W.kitOne K (.ref (He.ga K "NoMethod")) (.ref (He.ga K "NoPlace")) = some false)) rfl)
theorem Tx.k_NoMethod_CheckError (T : Tx K mg) : PySem.W.kitOne K (.ref (He.ga K "NoMethod")) (.ref (He.ga K "CheckError")) = some true := of_decide_eq_true (T.ck 125 (f := fun K => decide (PySem.W.kitOne K (.ref (He.ga K "NoMethod")) (.ref (He.ga K "CheckError")) = some true)) rfl)
theorem Tx.k_NoMethod_Exception (T : Tx K mg) : PySem.W.kitOne K (.ref (He.ga K "NoMethod")) (.type "Exception") = some true := of_decide_eq_true (T.ck 126 (f := fun K => decide (PySem.W.kitOne K (.ref (He.ga K "NoMethod")) (.type "Exception") = some true)) rfl)
theorem Tx.k_NoMethod_ValueError (T : Tx K mg) : PySem.W.kitOne K (.ref (He.ga K "NoMethod")) (.type "ValueError") = some false := of_decide_eq_true (T.ck 127 (f := fun K => decide (PySem.W.kitOne K (.ref (He.ga K "NoMethod")) (.type "ValueError") = some false)) rfl)
theorem Tx.k_NoMethod_LookupError (T : Tx K mg) : PySem.W.kitOne K (.ref (He.ga K "NoMethod")) (.type "LookupError") = some false := of_decide_eq_true (T.ck 128 (f := fun K => decide (PySem.W.kitOne K (.ref (He.ga K "NoMethod")) (.type "LookupError") = some false)) rfl)
theorem Tx.k_NoPlace_BadValue (T : Tx K mg) : PySem.W.kitOne K (.ref (He.ga K "NoPlace")) (.ref (He.ga K "BadValue")) = some false := of_decide_eq_true (T.ck 129 (f := fun K => decide (PySem.W.kitOne K (.ref (He.ga K "NoPlace")) (.ref (He.ga K "BadValue")) = some false)) rfl)
theorem Tx.k_NoPlace_BadText (T : Tx K mg) : PySem.W.kitOne K (.ref (He.ga K "NoPlace")) (.ref (He.ga K "BadText")) = some false := of_decide_eq_true (T.ck 130 (f := fun K => decide (PySem.W.kitOne K (.ref (He.ga K "NoPlace")) (.ref (He.ga K "BadText")) = some false)) rfl)
theorem Tx.k_NoPlace_BadCode (T : Tx K mg) : PySem.W.kitOne K (.ref (He.ga K "NoPlace")) (.ref (He.ga K "BadCode")) = some false := of_decide_eq_true (T.ck 131 (f := fun K => decide (PySem.W.kitOne K (.ref (He.ga K "NoPlace")) (.ref (He.ga K "BadCode")) = some false)) rfl)
theorem Tx.k_NoPlace_NoClass (T : Tx K mg) : PySem.W.kitOne K (.ref (He.ga K "NoPlace")) (.ref (He.ga K "NoClass")) = some false := of_decide_eq_true (T.ck 132 (f := fun K => decide (PySem.W.kitOne K (.ref (He.ga K "NoPlace")) (.ref (He.ga K "NoClass")) = some false)) rfl)
theorem Tx.k_NoPlace_NoField (T : Tx K mg) : PySem.W.kitOne K (.ref (He.ga K "NoPlace")) (.ref (He.ga K "NoField")) = some false := of_decide_eq_true (T.ck 133 (f := fun K => decide (PySem.W.kitOne K (.ref (He.ga K "NoPlace")) (.ref (He.ga K "NoField")) = some false)) rfl)
theorem Tx.k_NoPlace_NoMethod (T : Tx K mg) : PySem.W.kitOne K (.ref (He.ga K "NoPlace")) (.ref (He.ga K "NoMethod")) = some false := of_decide_eq_true (T.ck 134 (f := fun K => decide (PySem.W.kitOne K (.ref (He.ga K "NoPlace")) (.ref (He.ga K "NoMethod")) = some false)) rfl)
theorem Tx.k_NoPlace_NoPlace (T : Tx K mg) : PySem.W.kitOne K (.ref (He.ga K "NoPlace")) (.ref (He.ga K "NoPlace")) = some true := of_decide_eq_true (T.ck 135 (f := fun K => decide (PySem.W.kitOne K (.ref (He.ga K "NoPlace")) (.ref (He.ga K "NoPlace")) = some true)) rfl)
theorem Tx.k_NoPlace_CheckError (T : Tx K mg) : PySem.W.kitOne K (.ref (He.ga K "NoPlace")) (.ref (He.ga K "CheckError")) = some true := of_decide_eq_true (T.ck 136 (f := fun K => decide (PySem.W.kitOne K (.ref (He.ga K "NoPlace")) (.ref (He.ga K "CheckError")) = some true)) rfl)
theorem Tx.k_NoPlace_Exception (T : Tx K mg) : PySem.W.kitOne K (.ref (He.ga K "NoPlace")) (.type "Exception") = some true := of_decide_eq_true (T.ck 137 (f := fun K => decide (PySem.W.kitOne K (.ref (He.ga K "NoPlace")) (.type "Exception") = some true)) rfl)
theorem Tx.k_NoPlace_ValueError (T : Tx K mg) : PySem.W.kitOne K (.ref (He.ga K "NoPlace")) (.type "ValueError") = some false := of_decide_eq_true (T.ck 138 (f := fun K => decide (PySem.W.kitOne K (.ref (He.ga K "NoPlace")) (.type "ValueError") = some false)) rfl)
theorem Tx.k_NoPlace_LookupError (T : Tx K mg) : PySem.W.kitOne K (.ref (He.ga K "NoPlace")) (.type "LookupError") = some false := of_decide_eq_true (T.ck 139 (f := fun K => decide (PySem.W.kitOne K (.ref (He.ga K "NoPlace")) (.type "LookupError") = some false)) rfl)
theorem Tx.e_BadValue (T : Tx K mg) : ExM K mg "BadValue" "at" := ⟨T.g_BadValue, T.x_BadValue, CWX.init_at T.x_BadValue T.f_BadValue_init ⟨_, _, rfl⟩ ⟨_, _, _, _, rfl⟩ rfl⟩
theorem Tx.e_BadText (T : Tx K mg) : ExM K mg "BadText" "line" := ⟨T.g_BadText, T.x_BadText, CWX.init_line T.x_BadText T.f_BadText_init ⟨_, _, rfl⟩ ⟨_, _, _, _, rfl⟩ rfl⟩
theorem Tx.e_BadCode (T : Tx K mg) : ExM K mg "BadCode" "at" := ⟨T.g_BadCode, T.x_BadCode, CWX.init_at T.x_BadCode T.f_BadCode_init ⟨_, _, rfl⟩ ⟨_, _, _, _, rfl⟩ rfl⟩
theorem Tx.e_NoClass (T : Tx K mg) : ExM K mg "NoClass" "name" := ⟨T.g_NoClass, T.x_NoClass, CWX.init_name T.x_NoClass T.f_NoClass_init ⟨_, _, rfl⟩ ⟨_, _, _, _, rfl⟩ rfl⟩
theorem Tx.e_NoField (T : Tx K mg) : ExM K mg "NoField" "name" := ⟨T.g_NoField, T.x_NoField, CWX.init_name T.x_NoField T.f_NoField_init ⟨_, _, rfl⟩ ⟨_, _, _, _, rfl⟩ rfl⟩
theorem Tx.e_NoMethod (T : Tx K mg) : ExM K mg "NoMethod" "name" := ⟨T.g_NoMethod, T.x_NoMethod, CWX.init_name T.x_NoMethod T.f_NoMethod_init ⟨_, _, rfl⟩ ⟨_, _, _, _, rfl⟩ rfl⟩
theorem Tx.e_NoPlace (T : Tx K mg) : ExM K mg "NoPlace" "at" := ⟨T.g_NoPlace, T.x_NoPlace, CWX.init_at T.x_NoPlace T.f_NoPlace_init ⟨_, _, rfl⟩ ⟨_, _, _, _, rfl⟩ rfl⟩
end
end CW


set_option maxHeartbeats 4000000
/-! the law's helpers: numbers, draw, take, wide -/
namespace CW
open PySem PySem.Spec PyProof.Rows L2 CWX
/-- behind a def that makes things alone -/
abbrev intL (row : List Int) : HO := .lst (row.map V.int)
/-- the drawn numbers at r; the place to read at next at p, k so far -/
structure Dr (H : Hp) (r p : Addr) (k : Nat) : Prop where
  row : ∃ row : List Int, H r = some (intL row) ∧ 0 < row.length ∧ row.length ≤ 100000
  spot : H p = some (.lst [.int (k : Int)])
  ne : r ≠ p
theorem Dr.step {H : Hp} {r p : Addr} {k k' : Nat} (d : Dr H r p k) : Dr (upd H p (.lst [.int (k' : Int)])) r p k' := by
  obtain ⟨⟨row, h1, h2, h3⟩, h4, ne⟩ := d
  exact ⟨⟨row, by rw [upd_ne ne]; exact h1, h2, h3⟩, upd_same, ne⟩
/-- the numbers are still to be read -/
theorem Dr.keep {H H' : Hp} {r p : Addr} {k : Nat} (d : Dr H r p k) (h1 : H' r = H r) (h2 : H' p = H p) : Dr H' r p k := by
  obtain ⟨⟨row, g1, g2, g3⟩, g4, ne⟩ := d
  exact ⟨⟨row, h1.trans g1, g2, g3⟩, h2.trans g4, ne⟩
def spNumbers (K : PySem.W.Frag) : Sp := sp1 fun v H Q _ => ∃ (a : Addr) (ns : List Int), v = .ref a ∧ SqL K H a (ns.map V.int) ∧ ns.length ≤ 63 ∧
  ∀ (p : Addr) (row : List Int) (H' : Hp), Same H H' → H p = none → H' p = some (intL row) → 0 < row.length → row.length ≤ 100000 → Q (.ref p) H'
def spDraw : Sp := sp3 fun v a l H Q _ => ∃ (r : Addr) (row : List Int) (k lim : Int), v = .ref r ∧ a = .int k ∧ l = .int lim ∧ H r = some (intL row) ∧ 0 < row.length ∧ row.length ≤ 100000 ∧ 0 ≤ k ∧ k < 2 ^ 60 ∧ 0 < lim ∧
  ∀ d : Int, 0 ≤ d → d < lim → Q (.int d) H
def spTake : Sp := sp3 fun v s l H Q _ => ∃ (r p : Addr) (k : Nat) (lim : Int), v = .ref r ∧ s = .ref p ∧ l = .int lim ∧ Dr H r p k ∧ k < 2 ^ 50 ∧ 0 < lim ∧
  ∀ d : Int, 0 ≤ d → d < lim → Dr (upd H p (.lst [.int ((k + 1 : Nat) : Int)])) r p (k + 1) → Q (.int d) (upd H p (.lst [.int ((k + 1 : Nat) : Int)]))
def spWide : Sp := sp3 fun v s l H Q _ => ∃ (r p : Addr) (k : Nat) (lim : Int), v = .ref r ∧ s = .ref p ∧ l = .int lim ∧ Dr H r p k ∧ k < 2 ^ 49 ∧ 0 < lim ∧
  ∀ d : Int, 0 ≤ d → d < lim → Dr (upd H p (.lst [.int ((k + 3 : Nat) : Int)])) r p (k + 3) → Q (.int d) (upd H p (.lst [.int ((k + 3 : Nat) : Int)]))
section
variable {P : Program} {w : World} {K : PySem.W.Frag} {mg : Str → Option Value} {base : Heap}
theorem draw_at {row : List Int} {k : Int} (h0 : 0 ≤ k) (h1 : k < row.length) : ∃ z, atI (row.map V.int) k = some (V.int z) := by
  have hk : k.toNat < row.length := by omega
  refine ⟨row[k.toNat], ?_⟩
  have e : (row.map V.int)[k.toNat]? = some (V.int row[k.toNat]) := by
    rw [List.getElem?_map, List.getElem?_eq_getElem hk]
    rfl
  have := atI_nat e
  rwa [Int.toNat_of_nonneg h0] at this
theorem ok__law_draw (T : Tx K mg) : Cal P w K mg base 1 "_law_draw" spDraw :=
  cal3 T.g__law_draw T.f__law_draw sc__law_draw fun cdv A outer s H v v' v'' Q E hr tk h => by
    obtain ⟨r, row, k, lim, rfl, rfl, rfl, hrow, hpos, hlen, hk0, hk, hlim, kq⟩ := h
    refine ⟨_, (pss_cons (ps_if (pt_cmpR op_lt (pv 1) (pe_callB call_len_seq (by rfl) T.z_len PySem.boot_len (pa_cons (pv 0) pa_nil)) (nomark _)) (pss_one (ps_ret (pe_op op_mod (pe_callTy call_int1 (by rfl) T.z_int (by decide +kernel) (pa_cons (pe_ix ix_list (pv 0) (pv 1) (fun _ _ => rfl)) pa_nil)) (pv 2)))) pss_nil)
 (pss_cons (ps_set (i := 3) sc__law_draw.nd rfl (Or.inl rfl) (pe_op op_mod (pe_callTy call_int1 (by rfl) T.z_int (by decide +kernel) (pa_cons (pe_op op_add (pe_op op_add (pe_op op_mul (pe_ix ix_list (pv 0) (pe_op op_mod (pe_callTy call_int1 (by rfl) T.z_int (by decide +kernel) (pa_cons (pv 1) pa_nil)) (pe_callB call_len_seq (by rfl) T.z_len PySem.boot_len (pa_cons (pv 0) pa_nil))) (fun _ _ => rfl)) pe_int) (pe_op op_mul (pv 1) pe_int)) pe_int) pa_nil)) pe_int))
 (pss_one (ps_ret (pe_op op_mod (pe_callTy call_int1 (by rfl) T.z_int (by decide +kernel) (pa_cons (pe_op op_mod (pe_callTy call_int1 (by rfl) T.z_int (by decide +kernel) (pa_cons (pe_op op_add (pe_op op_mul (pv 3) pe_int) (pv 1)) pa_nil)) pe_int) pa_nil)) (pv 2)))))), ?_⟩
    have S : SqL K H r (row.map V.int) := SqL.of hrow
    have hl : ((row.map V.int).length : Int) = (row.length : Int) := by rw [List.length_map]
    refine ⟨_, rfl, _, rfl, _, _, rfl, .inl S, _, _, rfl, rfl, _, rfl, ?_⟩
    refine ite2 (fun c => ?_) (fun c => ?_)
    · have c' : k < (row.length : Int) := by
        have := of_decide_eq_true c
        rwa [hl] at this
      obtain ⟨z, hz⟩ := draw_at hk0 c'
      refine ⟨_, rfl, _, rfl, _, _, _, _, rfl, rfl, S, hz, .inl ⟨_, rfl, _, rfl, _, _, rfl, rfl, hlim, ?_⟩⟩
      exact kq _ (Int.emod_nonneg _ (by omega)) (Int.emod_lt_of_pos _ hlim)
    · have hn : (0 : Int) < ((row.map V.int).length : Int) := by rw [hl]; omega
      obtain ⟨z, hz⟩ := draw_at (row := row) (k := k % ((row.map V.int).length : Int)) (Int.emod_nonneg _ (by omega)) (by rw [← hl]; exact Int.emod_lt_of_pos _ hn)
      refine ⟨_, rfl, _, rfl, .inl ⟨_, rfl, _, rfl, _, _, rfl, .inl S, _, _, rfl, rfl, hn, _, _, _, _, rfl, rfl, S, hz, _, _, rfl, rfl, .inr ⟨by decide, by decide⟩, _, rfl, _, _, rfl, rfl, .inr ⟨by decide, by decide⟩,
        _, _, rfl, rfl, _, _, rfl, rfl, .inl ⟨_, rfl, _, _, rfl, rfl, by show (0 : Int) < 2147483399; decide, ?_⟩⟩⟩
      refine ⟨_, rfl, _, _, rfl, rfl, .inr ⟨by decide, by decide⟩, _, rfl, _, _, rfl, rfl, .inl ⟨_, rfl, _, _, rfl, rfl, by show (0 : Int) < 2147483647; decide, .inl ⟨_, rfl, _, rfl, _, _, rfl, rfl, hlim, ?_⟩⟩⟩
      exact kq _ (Int.emod_nonneg _ (by omega)) (Int.emod_lt_of_pos _ hlim)
theorem ok__law_take (T : Tx K mg) : Cal P w K mg base 2 "_law_take" spTake :=
  cal3 T.g__law_take T.f__law_take sc__law_take fun cdv A outer s H v v' v'' Q E hr tk h => by
    obtain ⟨r, p, k, lim, rfl, rfl, rfl, D, hk, hlim, kq⟩ := h
    have c__law_draw := ok__law_draw (P := P) (w := w) (base := base) T
    refine ⟨_, (pss_cons (ps_asg (pe_op op_add (pe_ix ix_list (pv 1) pe_int (fun _ _ => rfl)) pe_int) (pg_sub (pv 1) pe_int set_list))
 (pss_one (ps_ret (pe_c0 c__law_draw (hr.mono (by decide)) (pa_cons (pv 0) (pa_cons (pe_op op_sub (pe_ix ix_list (pv 1) pe_int (fun _ _ => rfl)) pe_int) (pa_cons (pv 2) pa_nil))))))), ?_⟩
    obtain ⟨row, h1, h2, h3⟩ := D.row
    have e1 : atI [V.int (k : Int)] 0 = some (V.int k) := rfl
    refine ⟨_, rfl, _, _, _, _, rfl, rfl, SqL.of D.spot, e1, _, _, rfl, rfl, _, rfl, p, _, _, 0, rfl, rfl, D.spot, rfl, ?_⟩
    have D' := D.step (k' := k + 1)
    obtain ⟨row', g1, g2, g3⟩ := D'.row
    have e2 : atI [V.int ((k + 1 : Nat) : Int)] 0 = some (V.int ((k + 1 : Nat) : Int)) := rfl
    refine ⟨_, rfl, _, rfl, _, _, _, _, rfl, rfl, SqL.of D'.spot, e2, _, _, rfl, rfl, _, rfl, r, row', _, lim, rfl, rfl, rfl, g1, g2, g3, by omega, by omega, hlim, fun d d0 d1 => kq d d0 d1 D'⟩
theorem ok__law_wide (T : Tx K mg) : Cal P w K mg base 3 "_law_wide" spWide :=
  cal3 T.g__law_wide T.f__law_wide sc__law_wide fun cdv A outer s H v v' v'' Q E hr tk h => by
    obtain ⟨r, p, k, lim, rfl, rfl, rfl, D, hk, hlim, kq⟩ := h
    have c__law_take := ok__law_take (P := P) (w := w) (base := base) T
    refine ⟨_, (pss_cons (ps_set (i := 3) sc__law_wide.nd rfl (Or.inl rfl) (pe_c0 c__law_take (hr.mono (by decide)) (pa_cons (pv 0) (pa_cons (pv 1) (pa_cons pe_int pa_nil)))))
 (pss_cons (ps_set (i := 4) sc__law_wide.nd rfl (Or.inl rfl) (pe_c0 c__law_take (hr.mono (by decide)) (pa_cons (pv 0) (pa_cons (pv 1) (pa_cons pe_int pa_nil)))))
 (pss_cons (ps_set (i := 5) sc__law_wide.nd rfl (Or.inl rfl) (pe_c0 c__law_take (hr.mono (by decide)) (pa_cons (pv 0) (pa_cons (pv 1) (pa_cons pe_int pa_nil)))))
 (pss_one (ps_ret (pe_op op_mod (pe_callTy call_int1 (by rfl) T.z_int (by decide +kernel) (pa_cons (pe_op op_add (pe_op op_add (pe_op op_mul (pv 3) pe_int) (pe_op op_mul (pv 4) pe_int)) (pv 5)) pa_nil)) (pv 2))))))), ?_⟩
    refine ⟨_, rfl, _, rfl, r, p, k, 997, rfl, rfl, rfl, D, by omega, by decide, fun a a0 a1 D1 => ?_⟩
    refine ⟨_, rfl, _, rfl, r, p, k + 1, 997, rfl, rfl, rfl, D1, by omega, by decide, fun b b0 b1 D2 => ?_⟩
    refine ⟨_, rfl, _, rfl, r, p, k + 2, 997, rfl, rfl, rfl, D2, by omega, by decide, fun c c0 c1 D3 => ?_⟩
    refine ⟨_, rfl, _, _, rfl, rfl, .inr ⟨by decide, by decide⟩, _, rfl, _, _, rfl, rfl, .inr ⟨by decide, by decide⟩, _, _, rfl, rfl, _, rfl, _, _, rfl, rfl, .inl ⟨_, rfl, _, rfl, _, _, rfl, rfl, hlim, ?_⟩⟩
    rw [upd_upd, upd_upd]
    rw [upd_upd, upd_upd] at D3
    exact kq _ (Int.emod_nonneg _ (by omega)) (Int.emod_lt_of_pos _ hlim) D3
theorem row_app (row : List Int) (z : Int) : row.map V.int ++ [V.int z] = (row ++ [z]).map V.int := by simp
theorem ok__law_numbers (T : Tx K mg) : Cal P w K mg base 1 "_law_numbers" (spNumbers K) :=
  cal1 T.g__law_numbers T.f__law_numbers sc__law_numbers fun cdv A outer s H v Q E hr tk h => by
    obtain ⟨a, ns, rfl, hS, hl, kq⟩ := h
    refine ⟨_, (pss_cons (ps_set (i := 1) sc__law_numbers.nd rfl (Or.inl rfl) (pe_lst pa_nil))
 (pss_cons (ps_for (passes_of rfl) rfl (pi_list (pe_slice sl_list (pv 0) po_none (po_some pe_int))) (pg_name (i := 2) sc__law_numbers.nd rfl (Or.inl rfl))
 (pss_one (ps_if (pt_cmpR op_ge (pv 2) (pe_op op_pow pe_int pe_int) (nomark _)) (pss_cons (ps_set (i := 3) sc__law_numbers.nd rfl (Or.inl rfl) (pv 2))
 (pss_one (ps_for (passes_of rfl) rfl (pi_range1 (by rfl) T.z_range (pa_cons pe_int pa_nil)) (pg_name (i := 4) sc__law_numbers.nd rfl (Or.inl rfl))
 (pss_cons (ps_if (pt_cmpR op_eq (pv 3) pe_int (nomark _)) (pss_one ps_break) pss_nil)
 (pss_cons (ps_expr (pe_bm PySem.F.plainAttrs_list PySem.F.slot_list_append PySem.F.type_list_append mt_append (pv 1) (pa_cons (pe_op op_mod (pe_callTy call_int1 (by rfl) T.z_int (by decide +kernel) (pa_cons (pv 3) pa_nil)) pe_int) pa_nil)))
 (pss_one (ps_set (i := 3) sc__law_numbers.nd rfl (Or.inl rfl) (pe_op op_fdiv (pv 3) pe_int)))))))) (pss_one (ps_for (passes_of rfl) rfl (pi_range1 (by rfl) T.z_range (pa_cons pe_int pa_nil)) (pg_name (i := 4) sc__law_numbers.nd rfl (Or.inl rfl))
 (pss_cons (ps_set (i := 5) sc__law_numbers.nd rfl (Or.inl rfl) (pe_op op_mod (pe_callTy call_int1 (by rfl) T.z_int (by decide +kernel) (pa_cons (pe_op op_add (pe_op op_add (pe_op op_mul (pv 2) pe_int) (pe_op op_mul (pv 4) pe_int)) pe_int) pa_nil)) pe_int))
 (pss_one (ps_expr (pe_bm PySem.F.plainAttrs_list PySem.F.slot_list_append PySem.F.type_list_append mt_append (pv 1) (pa_cons (pe_op op_mod (pe_callTy call_int1 (by rfl) T.z_int (by decide +kernel) (pa_cons (pe_op op_add (pe_op op_mul (pv 5) pe_int) (pv 4)) pa_nil)) pe_int) pa_nil))))))))))
 (pss_cons (ps_if (pt_cmpR op_eq (pe_callB call_len_seq (by rfl) T.z_len PySem.boot_len (pa_cons (pv 1) pa_nil)) pe_int (nomark _)) (pss_one (ps_expr (pe_bm PySem.F.plainAttrs_list PySem.F.slot_list_append PySem.F.type_list_append mt_append (pv 1) (pa_cons pe_int pa_nil)))) pss_nil)
 (pss_one (ps_ret (pv 1)))))), ?_⟩
    -- row = []
    refine ⟨by decide, fun p np => ?_⟩
    have s0 : Same H (upd H p (.lst [])) := (Same.refl H).mut np
    -- script[:63]
    refine ⟨_, rfl, _, rfl, a, _, rfl, s0.seq hS, fun q nq => ?_⟩
    have npq : p ≠ q := ne_of_none upd_same nq
    have nq0 : H q = none := s0.free nq
    have hcut : ∃ ms : List Int, cutV (ns.map V.int) none (some 63) = ms.map V.int ∧ ms.length ≤ 63 := by
      refine ⟨(ns.drop (HT.sIx (ns.map V.int).length 0 none)).take (HT.sIx (ns.map V.int).length (ns.map V.int).length (some 63) - HT.sIx (ns.map V.int).length 0 none), ?_, ?_⟩
      · unfold cutV
        rw [List.map_take, List.map_drop]
      · rw [List.length_take, List.length_drop]
        omega
    obtain ⟨ms, ems, hms⟩ := hcut
    rw [ems]
    refine ⟨q, rfl, ⟨_, SqL.of upd_same⟩, for_list (K := K) (a := q) (xs := ms.map V.int) (fun i σ H2 => ∃ (v2 v3 v4 v5 : Option V) (row : List Int), σ = [some (.ref a), some (.ref p), v2, v3, v4, v5] ∧ Same H H2 ∧ H2 p = some (intL row) ∧ H2 q = some (.lst (ms.map V.int)) ∧ row.length ≤ 60 * i)
      ⟨none, none, none, none, [], rfl, s0.mut nq0, by rw [upd_ne npq, upd_same]; rfl, upd_same, Nat.le_refl _⟩ (fun i σ H2 _ ⟨_, _, _, _, _, _, _, _, hq, _⟩ => SqL.of hq) ?_ ?_⟩
    · rintro i y σ H2 hi ⟨v2, v3, v4, v5, row, rfl, s2, hp, hq, hrow⟩
      have hil : i < (ms.map V.int).length := (List.getElem?_eq_some_iff.mp hi).1
      rw [List.length_map] at hil
      obtain ⟨z, rfl⟩ : ∃ z, y = V.int z := by
        rw [List.getElem?_map] at hi
        cases e : ms[i]? with
        | none => rw [e] at hi; cases hi
        | some z => rw [e] at hi; exact ⟨z, (Option.some.inj hi).symm⟩
      refine ⟨_, rfl, _, _, rfl, rfl, ⟨by decide, by decide, by decide⟩, _, _, rfl, rfl, _, rfl, ?_⟩
      refine ite2 (fun c => ?_) (fun c => ?_)
      · refine ⟨_, rfl, 60, rfl, by decide, by decide, for_range (lo := 0) (n := 60) (fun j σ H3 => ∃ (l : Int) (v4 : Option V) (row' : List Int), σ = [some (.ref a), some (.ref p), some (.int z), some (.int l), v4, v5] ∧ Same H H3 ∧ H3 p = some (intL row') ∧ H3 q = some (.lst (ms.map V.int)) ∧ row'.length ≤ row.length + j)
          ⟨_, _, row, rfl, s2, hp, hq, Nat.le_refl _⟩ ?_ ?_⟩
        · rintro j σ H3 hj ⟨l, v4, row', rfl, s3, hp3, hq3, hr3⟩
          refine ⟨_, rfl, rfl, _, rfl, ?_⟩
          refine ite2 (fun c2 => ?_) (fun c2 => ?_)
          · exact ⟨_, _, _, _, row', rfl, s3, hp3, hq3, by omega⟩
          · refine ⟨_, rfl, .inl ⟨rfl, _, SqL.of hp3⟩, _, rfl, .inl ⟨_, rfl, _, _, rfl, rfl, by show (0 : Int) < 997; decide, p, _, _, rfl, rfl, hp3, ?_, ?_⟩⟩
            · rw [List.length_map]
              exact Nat.lt_of_le_of_lt (show row'.length ≤ 4000 by omega) (by decide)
            · refine ⟨_, rfl, _, _, rfl, rfl, ⟨by decide, by decide⟩, ?_⟩
              refine ⟨_, _, row' ++ [l % 997], rfl, s3.mut np, ?_, ?_, ?_⟩
              · rw [upd_same, row_app]
              · rw [upd_ne npq.symm]; exact hq3
              · rw [List.length_append]; show _ + 1 ≤ _; omega
        · rintro σ H3 ⟨l, v4, row', rfl, s3, hp3, hq3, hr3⟩
          exact ⟨_, _, _, _, row', rfl, s3, hp3, hq3, by omega⟩
      · refine ⟨4, rfl, by decide, by decide, for_range (lo := 0) (n := 4) (fun j σ H3 => ∃ (v3 v4 v5 : Option V) (row' : List Int), σ = [some (.ref a), some (.ref p), some (.int z), v3, v4, v5] ∧ Same H H3 ∧ H3 p = some (intL row') ∧ H3 q = some (.lst (ms.map V.int)) ∧ row'.length ≤ row.length + j)
          ⟨_, _, _, row, rfl, s2, hp, hq, Nat.le_refl _⟩ ?_ ?_⟩
        · rintro j σ H3 hj ⟨v3, v4, v5, row', rfl, s3, hp3, hq3, hr3⟩
          refine ⟨_, rfl, _, _, rfl, rfl, .inr ⟨by decide, by decide⟩, _, rfl, _, _, rfl, rfl, .inr ⟨by decide, by decide⟩, _, _, rfl, rfl, _, _, rfl, rfl, .inl ⟨_, rfl, _, _, rfl, rfl, by show (0 : Int) < 2147483647; decide, ?_⟩⟩
          refine ⟨_, rfl, .inl ⟨rfl, _, SqL.of hp3⟩, _, rfl, _, _, rfl, rfl, .inr ⟨by decide, by decide⟩, _, rfl, _, _, rfl, rfl, .inl ⟨_, rfl, _, _, rfl, rfl, by show (0 : Int) < 2147483629; decide, p, _, _, rfl, rfl, hp3, ?_, ?_⟩⟩
          · rw [List.length_map]
            exact Nat.lt_of_le_of_lt (show row'.length ≤ 4000 by omega) (by decide)
          · refine ⟨_, _, _, row' ++ [((z * 48271 + (0 + (j : Int)) * 69621 + 11) % 2147483647 * 16807 + (0 + (j : Int))) % 2147483629], rfl, s3.mut np, ?_, ?_, ?_⟩
            · rw [upd_same, row_app]
            · rw [upd_ne npq.symm]; exact hq3
            · rw [List.length_append]; show _ + 1 ≤ _; omega
        · rintro σ H3 ⟨v3, v4, v5, row', rfl, s3, hp3, hq3, hr3⟩
          exact ⟨_, _, _, _, row', rfl, s3, hp3, hq3, by omega⟩
    · rintro σ H2 ⟨v2, v3, v4, v5, row, rfl, s2, hp, hq, hrow⟩
      rw [List.length_map] at hrow
      refine ⟨_, rfl, _, _, rfl, .inl (SqL.of hp), rfl, _, rfl, ?_⟩
      refine ite2 (fun c => ?_) (fun c => ?_)
      · refine ⟨_, rfl, .inl ⟨rfl, _, SqL.of hp⟩, p, _, _, rfl, rfl, hp, ?_, ?_⟩
        · rw [List.length_map]
          exact Nat.lt_of_le_of_lt (show row.length ≤ 4000 by omega) (by decide)
        · refine ⟨_, rfl, kq p (row ++ [0]) _ (s2.mut np) np ?_ ?_ ?_⟩
          · rw [upd_same]
            exact congrArg (fun l => some (HO.lst l)) (row_app row 0)
          · rw [List.length_append]; show 0 < _ + 1; omega
          · rw [List.length_append]; show _ + 1 ≤ _; omega
      · refine ⟨_, rfl, kq p row _ s2 np hp ?_ (by omega)⟩
        rcases Nat.eq_zero_or_pos row.length with e | e
        · refine absurd (decide_eq_true ?_) c
          rw [List.length_map, e]
          rfl
        · exact e
end
end CW

set_option maxHeartbeats 4000000
/-! _law_so of two that are the same data -/
namespace CW
open PySem PySem.Spec PyProof.Rows L2 CWX
/-- data of None, truth values, ints, texts, tuples, less than n deep -/
def okD : Nat → PyData → Bool
  | 0, _ => false
  | n + 1, .tuple xs => decide (xs.length ≤ 1000000) && xs.all (okD n)
  | _ + 1, .list _ => false
  | _ + 1, .dict _ => false
  | _ + 1, _ => true
def spSo (K : PySem.W.Frag) (n : Nat) : Sp := sp2 fun v u H Q _ => ∃ d : PyData, Dp K H v d ∧ Dp K H u d ∧ okD n d = true ∧ Q (.bl true) H
section
variable {P : Program} {w : World} {K : PySem.W.Frag} {mg : Str → Option Value} {base : Heap}
theorem ok__law_so (T : Tx K mg) : ∀ n : Nat, Cal P w K mg base n "_law_so" (spSo K n)
  | 0 => cal_bot (ps := ["found", "meant"]) 0 T.g__law_so T.f__law_so (fun vs H Q E h => by
      match vs, h with
      | [_, _], ⟨d, _, _, e, _⟩ => cases e) (fun _ _ _ _ _ _ us hl => match us, hl with | [_, _], _ => rfl)
  | n + 1 => cal2 T.g__law_so T.f__law_so sc__law_so fun cdv A outer s H v u Q E hr tk h => by
    obtain ⟨d, hv, hu, ok, kq⟩ := h
    have c__law_so : Cal P w K mg base n "_law_so" (spSo K n) := ok__law_so T n
    refine ⟨_, (pss_cons (ps_if (pt_cmpR op_isN (pv 1) pe_non (nomark _)) (pss_one (ps_ret (pe_cmpR op_isN (pv 0) pe_non (nomark _)))) pss_nil)
 (pss_cons (ps_if (pt_val (pe_callB call_isi (by rfl) T.z_isinstance (by decide +kernel) (pa_cons (pv 1) (pa_cons (pe_ty (T := "tuple") (by rfl) T.z_tuple (by decide +kernel)) pa_nil)))) (pss_cons (ps_if (PW.pt (pw_or (pt_not (pt_val (pe_callB call_isi (by rfl) T.z_isinstance (by decide +kernel) (pa_cons (pv 0) (pa_cons (pe_ty (T := "tuple") (by rfl) T.z_tuple (by decide +kernel)) pa_nil))))) (pw_or1 (pt_cmpR op_ne (pe_callB call_len_seq (by rfl) T.z_len PySem.boot_len (pa_cons (pv 0) pa_nil)) (pe_callB call_len_seq (by rfl) T.z_len PySem.boot_len (pa_cons (pv 1) pa_nil)) (nomark _))))) (pss_one (ps_ret pe_bl)) pss_nil)
 (pss_cons (ps_for (passes_of rfl) rfl (pi_range1 (by rfl) T.z_range (pa_cons (pe_callB call_len_seq (by rfl) T.z_len PySem.boot_len (pa_cons (pv 1) pa_nil)) pa_nil)) (pg_name (i := 2) sc__law_so.nd rfl (Or.inl rfl))
 (pss_one (ps_if (pt_not (pt_val (pe_c0 c__law_so (hr.mono (by omega)) (pa_cons (pe_ix ix_seq (pv 0) (pv 2) (fun _ _ => rfl)) (pa_cons (pe_ix ix_seq (pv 1) (pv 2) (fun _ _ => rfl)) pa_nil))))) (pss_one (ps_ret pe_bl)) pss_nil)))
 (pss_one (ps_ret pe_bl)))) pss_nil)
 (pss_cons (ps_if (PW.pt (pw_or (pt_val (pe_callB call_isi (by rfl) T.z_isinstance (by decide +kernel) (pa_cons (pv 1) (pa_cons (pe_ty (T := "bool") (by rfl) T.z_bool (by decide +kernel)) pa_nil)))) (pw_or1 (pt_val (pe_callB call_isi (by rfl) T.z_isinstance (by decide +kernel) (pa_cons (pv 0) (pa_cons (pe_ty (T := "bool") (by rfl) T.z_bool (by decide +kernel)) pa_nil))))))) (pss_one (ps_ret (pe_and (pe_callB call_isi (by rfl) T.z_isinstance (by decide +kernel) (pa_cons (pv 1) (pa_cons (pe_ty (T := "bool") (by rfl) T.z_bool (by decide +kernel)) pa_nil))) (pe_and (pe_callB call_isi (by rfl) T.z_isinstance (by decide +kernel) (pa_cons (pv 0) (pa_cons (pe_ty (T := "bool") (by rfl) T.z_bool (by decide +kernel)) pa_nil))) (pe_one (pe_cmpR op_eq (pv 0) (pv 1) (nomark _))))))) pss_nil)
 (pss_cons (ps_if (pt_val (pe_callB call_isi (by rfl) T.z_isinstance (by decide +kernel) (pa_cons (pv 1) (pa_cons (pe_ty (T := "int") (by rfl) T.z_int (by decide +kernel)) pa_nil)))) (pss_one (ps_ret (pe_and (pe_callB call_isi (by rfl) T.z_isinstance (by decide +kernel) (pa_cons (pv 0) (pa_cons (pe_ty (T := "int") (by rfl) T.z_int (by decide +kernel)) pa_nil))) (pe_one (pe_cmpR op_eq (pv 0) (pv 1) (nomark _)))))) pss_nil)
 (pss_one (ps_ret (pe_and (pe_callB call_isi (by rfl) T.z_isinstance (by decide +kernel) (pa_cons (pv 1) (pa_cons (pe_ty (T := "str") (by rfl) T.z_str (by decide +kernel)) pa_nil))) (pe_and (pe_callB call_isi (by rfl) T.z_isinstance (by decide +kernel) (pa_cons (pv 0) (pa_cons (pe_ty (T := "str") (by rfl) T.z_str (by decide +kernel)) pa_nil))) (pe_one (pe_cmpR op_eq (pv 0) (pv 1) (nomark _))))))))))), ?_⟩
    have tM := dp_ty hu
    have tF := dp_ty hv
    cases d with
    | none =>
      cases hv; cases hu
      refine ⟨_, rfl, rfl, _, rfl, ?_⟩
      exact iteT ⟨_, rfl, rfl, kq⟩
    | bool b =>
      cases hv; cases hu
      refine ⟨_, rfl, rfl, _, rfl, iteF ?_⟩
      refine ⟨_, rfl, _, _, _, _, _, rfl, .ty _, tM, kit_ty (kb_tuple _), ⟨_, rfl, iteF ?_⟩⟩
      refine ⟨_, rfl, _, _, _, _, _, rfl, .ty _, tM, kit_ty (kb_bool _), ⟨_, rfl, iteT (iteT ?_)⟩⟩
      refine ⟨_, rfl, _, _, _, _, _, rfl, .ty _, tM, kit_ty (kb_bool _), ⟨_, rfl, iteT ⟨_, rfl, _, _, _, _, _, rfl, .ty _, tF, kit_ty (kb_bool _), ⟨_, rfl, iteT ⟨_, rfl, _, rfl, rfl, ?_⟩⟩⟩⟩⟩
      rw [decide_eq_true rfl]
      exact kq
    | int i =>
      cases hv; cases hu
      refine ⟨_, rfl, rfl, _, rfl, iteF ?_⟩
      refine ⟨_, rfl, _, _, _, _, _, rfl, .ty _, tM, kit_ty (kb_tuple _), ⟨_, rfl, iteF ?_⟩⟩
      refine ⟨_, rfl, _, _, _, _, _, rfl, .ty _, tM, kit_ty (kb_bool _), ⟨_, rfl, iteF ⟨_, rfl, _, _, _, _, _, rfl, .ty _, tF, kit_ty (kb_bool _), ⟨_, rfl, iteF ?_⟩⟩⟩⟩
      refine ⟨_, rfl, _, _, _, _, _, rfl, .ty _, tM, kit_ty (kb_int _), ⟨_, rfl, iteT ?_⟩⟩
      refine ⟨_, rfl, _, _, _, _, _, rfl, .ty _, tF, kit_ty (kb_int _), ⟨_, rfl, iteT ⟨_, rfl, _, rfl, rfl, ?_⟩⟩⟩
      rw [decide_eq_true rfl]
      exact kq
    | str x =>
      cases hv; cases hu
      refine ⟨_, rfl, rfl, _, rfl, iteF ?_⟩
      refine ⟨_, rfl, _, _, _, _, _, rfl, .ty _, tM, kit_ty (kb_tuple _), ⟨_, rfl, iteF ?_⟩⟩
      refine ⟨_, rfl, _, _, _, _, _, rfl, .ty _, tM, kit_ty (kb_bool _), ⟨_, rfl, iteF ⟨_, rfl, _, _, _, _, _, rfl, .ty _, tF, kit_ty (kb_bool _), ⟨_, rfl, iteF ?_⟩⟩⟩⟩
      refine ⟨_, rfl, _, _, _, _, _, rfl, .ty _, tM, kit_ty (kb_int _), ⟨_, rfl, iteF ?_⟩⟩
      refine ⟨_, rfl, _, _, _, _, _, rfl, .ty _, tM, kit_ty (kb_str _), ⟨_, rfl, iteT ⟨_, rfl, _, _, _, _, _, rfl, .ty _, tF, kit_ty (kb_str _), ⟨_, rfl, iteT ⟨_, rfl, _, rfl, rfl, ?_⟩⟩⟩⟩⟩
      rw [decide_eq_true rfl]
      exact kq
    | list _ => cases ok
    | dict _ => cases ok
    | tuple ds =>
      obtain ⟨a, vs, rfl, hva, hvs⟩ : ∃ a vs, v = .ref a ∧ SqT K H a vs ∧ DpAll K H vs ds := by
        cases hv with
        | tup h1 h2 => exact ⟨_, _, rfl, h1, h2⟩
      obtain ⟨b, us, rfl, hub, hus⟩ : ∃ a vs, u = .ref a ∧ SqT K H a vs ∧ DpAll K H vs ds := by
        cases hu with
        | tup h1 h2 => exact ⟨_, _, rfl, h1, h2⟩
      have l1 := dpAll_len hvs
      have l2 := dpAll_len hus
      obtain ⟨hsz, hall⟩ := Bool.and_eq_true_iff.mp (show (decide (ds.length ≤ 1000000) && ds.all (okD n)) = true from ok)
      have hsz := of_decide_eq_true hsz
      refine ⟨_, rfl, rfl, _, rfl, iteF ?_⟩
      refine ⟨_, rfl, _, _, _, _, _, rfl, .ty _, tM, kit_ty (kb_tuple _), ⟨_, rfl, iteT ?_⟩⟩
      refine ⟨_, rfl, _, _, _, _, _, rfl, .ty _, tF, kit_ty (kb_tuple _), ⟨_, rfl, iteF ?_⟩⟩
      refine ⟨_, rfl, _, _, rfl, .inr hva, _, rfl, _, _, rfl, .inr hub, rfl, _, rfl, ?_⟩
      rw [l1, l2]
      refine iteNS rfl ?_
      refine ⟨_, rfl, _, _, rfl, .inr hub, _, rfl, by omega, by omega, for_range (lo := 0) (n := us.length) (fun j σ H3 => ∃ x, σ = [some (.ref a), some (.ref b), x] ∧ H3 = H) ⟨_, rfl, rfl⟩ ?_ ?_⟩
      · rintro j σ H3 hj ⟨x, rfl, rfl⟩
        have hj' : j < ds.length := by omega
        obtain ⟨x1, e1, p1⟩ := dpAll_get hvs (List.getElem?_eq_getElem hj')
        obtain ⟨x2, e2, p2⟩ := dpAll_get hus (List.getElem?_eq_getElem hj')
        have a1 := atI_nat e1
        have a2 := atI_nat e2
        rw [← Int.zero_add (j : Int)] at a1 a2
        refine ⟨_, rfl, _, rfl, .inr (.inl ⟨_, _, _, _, rfl, rfl, hva, a1, _, rfl, _, rfl, .inr (.inl ⟨_, _, _, _, rfl, rfl, hub, a2, ds[j], p1, p2, ?_, ?_⟩)⟩)⟩
        · exact List.all_eq_true.mp hall _ (List.getElem_mem hj')
        · exact ⟨_, rfl, iteF ⟨_, rfl, rfl⟩⟩
      · rintro σ H3 ⟨x, rfl, rfl⟩
        exact kq
end
end CW

set_option maxHeartbeats 4000000
/-! law k00 -/
namespace CW
open PySem PySem.Spec PyProof.Rows L2 CWX L2H HotX
section
variable {X : Cx} {x f : Str}
theorem takesN0 {X : Cx} : L2N.Takes X (fun _ _ _ _ => False) := fun _ _ z => by
  obtain ⟨_, _, _, _, _, _, _, _, _, _, _, _, _, _, _, _, z⟩ := z
  exact z.elim
/-- raise X(e) from None, where the exception's context is told -/
theorem ps_raiseNN {W : WX} {a : Expr} {ta : TA} {p pos cpos pos' : Pos} {j k : Nat} (hc : X.calm = true) (tk : L2N.Takes X W) (T : ExM X.K X.mg x f) (hr : Room k X.A) (ha : PA X [a] ta) (hg : Gl X x := by rfl) (hdb : (x == ("__debug__" : Str)) = false := by decide)
    (he : starEach (a :: []) X.env = (false, eval a X.env) :: starEach [] X.env := by rfl) (hpl : (backTo pos (starEach [] X.env)).any (·.1) = false := by rfl) :
    PS X (.Raise (some (.Call (.Name x p) [a] [] pos)) (some (.Constant .none j cpos)) pos') (fun _ σ H => tMkE (He.ga X.K x) f ta σ H fun cls d H' => W cls d σ H') := by
  refine ⟨fun pins s σ H D I h => ?_⟩
  refine wpAny_Raise_from (thn (ex_mk (Q := fun v H1 => ∀ d, H1 d = none → W (.ref (He.ga X.K x)) (some d) σ (upd H1 d (.xd [(f, v)]))) T hr ha hg hdb he hpl I h) fun u s' hu => Constant_none ?_)
  obtain ⟨e, d, t1, v, H1, G, rfl, J, kG, ge, hoe, nd, na, ne, q⟩ := hu
  obtain ⟨r1, r2⟩ := raises_own (X := X) T.t.exC T.t.tyC (model X.prog X.w) G J.kIn
  have RA : RaiseAt (model X.prog X.w) G s'.heap e (exObj (He.ga X.K x) t1 d) #[.ref t1, .none, .none, .none, .bool false, .none] (.ref (He.ga X.K x)) := ⟨hoe, rfl, rfl, kG, ge, r1, r2⟩
  have RA1 := RA.set 3 .none
  have RA2 := RA1.set 4 (.bool true)
  refine raise_from_tree RA (show 4 < 6 by decide) (.inl rfl) ?_
  refine setFlight_fresh (s := { s' with heap := (s'.heap.update e (Obj.mapFields (·.setIfInBounds 3 Value.none))).update e (Obj.mapFields (·.setIfInBounds 4 (.bool true))) }) RA2.at_ RA2.dat rfl ?_
  refine raiseNew_none' (.inl (I.ok.hd hc)) (tk _ _ ?_)
  have na' : upd H1 d (.xd [(f, v)]) e = none := by
    rw [upd_ne (Ne.symm ne)]
    exact na
  refine L2N.XE.new J RA2.keep RA2.new RA2.at_ ⟨RA2.cl, rfl, fun vs ev => ?_⟩ RA2.dat rfl na' rfl J.bare (q d nd)
  have ev' := RA2.dat.symm.trans ev
  cases ev'
  rfl
theorem hot_suite {a : Addr} {oe : Obj} {cls : Value} {d : Option Addr} {pn : List (Addr × Obj)} (hz : L2N.Zn cls d oe) (hf : ∃ vs, oe.data = .fields vs) : HotC (X.suite a ((a, oe) :: pn)) := by
  obtain ⟨vs, hv⟩ := hf
  exact ⟨(a, oe), ⟨rfl, vs, hv, hz.2.2 vs hv⟩, List.mem_cons_self⟩
end
section
variable {P : Program} {w : World} {K : PySem.W.Frag} {mg : Str → Option Value} {base : Heap}
/-- _law_so of the same int twice, while an exception is handled -/
def spSoI : Sp := sp2 fun v u H Q _ => ∃ i : Int, v = .int i ∧ u = .int i ∧ Q (.bl true) H
def CalH (P : Program) (w : World) (K : PySem.W.Frag) (mg : Str → Option Value) (base : Heap) (k : Nat) (x : Str) (sp : Sp) : Prop :=
  ∃ f fd ps, mg x = some (.ref f) ∧ PySem.W.keepIn K (.ref f) = true ∧ Binds K fd ps [] ∧ FnH P w K mg base (L2.CX P w) k f fd ps sp
theorem soH (T : Tx K mg) : CalH P w K mg base 1 "_law_so" spSoI := by
  obtain ⟨fd, FD⟩ := T.f__law_so
  refine ⟨_, fd, ["found", "meant"], T.g__law_so, FD.kp, FD.bindsN fun _ _ _ _ _ _ us hl => match us, hl with | [_, _], _ => rfl, ?_⟩
  obtain ⟨oc, od, dV, kV, doc, pm, an, cdv, ct, osl, rfl, lk, hcd, hD, _⟩ := FD.ex
  refine fn_ofH lk hcd sc__law_so (fun vs H Q E h => match vs, h with | [_, _], _ => rfl) fun A outer s H vs Q E p hot hr h => ?_
  match vs, h with
  | [v, u], h =>
    obtain ⟨i, rfl, rfl, kq⟩ := h
    refine ⟨_, pss_cons (ps_if (pt_cmpR op_isN (pv 1) pe_non (nomark _)) pss_never pss_nil)
      (pss_cons (ps_if (pt_val (pe_callB call_isi (by rfl) T.z_isinstance (by decide +kernel) (pa_cons (pv 1) (pa_cons (pe_ty (T := "tuple") (by rfl) T.z_tuple (by decide +kernel)) pa_nil)))) pss_never pss_nil)
      (pss_cons (ps_if (PW.pt (pw_or (pt_val (pe_callB call_isi (by rfl) T.z_isinstance (by decide +kernel) (pa_cons (pv 1) (pa_cons (pe_ty (T := "bool") (by rfl) T.z_bool (by decide +kernel)) pa_nil)))) (pw_or1 (pt_val (pe_callB call_isi (by rfl) T.z_isinstance (by decide +kernel) (pa_cons (pv 0) (pa_cons (pe_ty (T := "bool") (by rfl) T.z_bool (by decide +kernel)) pa_nil))))))) pss_never pss_nil)
      (pss_cons (ps_if (pt_val (pe_callB call_isi (by rfl) T.z_isinstance (by decide +kernel) (pa_cons (pv 1) (pa_cons (pe_ty (T := "int") (by rfl) T.z_int (by decide +kernel)) pa_nil)))) (pss_one (ps_ret (pe_and (pe_callB call_isi (by rfl) T.z_isinstance (by decide +kernel) (pa_cons (pv 0) (pa_cons (pe_ty (T := "int") (by rfl) T.z_int (by decide +kernel)) pa_nil))) (pe_one (pe_cmpR op_eq (pv 0) (pv 1) (nomark _)))))) pss_nil)
      pss_never))), ?_⟩
    have t : TyX K H (V.int i) (Value.type "int") := .base (.int i)
    refine ⟨_, rfl, rfl, _, rfl, iteF ?_⟩
    refine ⟨_, rfl, _, _, _, _, _, rfl, .ty _, t, kit_ty (kb_tuple (.int i)), _, rfl, iteF ?_⟩
    refine ⟨_, rfl, _, _, _, _, _, rfl, .ty _, t, kit_ty (kb_bool (.int i)), _, rfl, iteF ⟨_, rfl, _, _, _, _, _, rfl, .ty _, t, kit_ty (kb_bool (.int i)), _, rfl, iteF ?_⟩⟩
    refine ⟨_, rfl, _, _, _, _, _, rfl, .ty _, t, kit_ty (kb_int (.int i)), _, rfl, iteT ?_⟩
    refine ⟨_, rfl, _, _, _, _, _, rfl, .ty _, t, kit_ty (kb_int (.int i)), _, rfl, iteT ⟨_, rfl, _, rfl, rfl, ?_⟩⟩
    rw [decide_eq_true rfl]
    exact kq
theorem pe_soH {X : Cx} {k : Nat} {x : Str} {sp : Sp} {q pos : Pos} {e : Expr} {es : List Expr} {t : TA} (c : CalH X.prog X.w X.K X.mg X.base k x sp) (hr : RoomH k X.A) (hc : HotC X) (ha : PA X (e :: es) t) (hg : Gl X x := by rfl) (hdb : (x == ("__debug__" : Str)) = false := by decide)
    (he : starEach (e :: es) X.env = (false, eval e X.env) :: starEach es X.env := by rfl) (hpl : (backTo pos (starEach es X.env)).any (·.1) = false := by rfl) : PE X (.Call (.Name x q) (e :: es) [] pos) (tCallS sp (fun _ => E0) t) := by
  obtain ⟨f, fd, ps, gm, kp, b, F⟩ := c
  exact pe_callH F hr hc hg gm kp b (fun σ => fun _ H s e s' I c => by
    obtain ⟨_, _, _, _, _, _, _, _, _, _, _, _, z⟩ := c
    exact z.elim) ha hdb he hpl
/-- an exception value of the class C at a -/
def ExAt (H : Hp) (a C : Addr) (f : Str) (v : V) : Prop := ∃ d, H a = some (exo a C (some d)) ∧ H d = some (.xd [(f, v)])
theorem ExAt.same {H H' : Hp} {a C : Addr} {f : Str} {v : V} (e : ExAt H a C f v) (s : Same H H') : ExAt H' a C f v := by
  obtain ⟨d, h1, h2⟩ := e
  exact ⟨d, s _ _ h1, s _ _ h2⟩
theorem ex_new {H : Hp} {a d : Addr} (C : Addr) (f : Str) (v : V) (na : H a = none) (nd : H d = none) (ne : d ≠ a) :
    ∃ H1, upd (upd H d (.xd [(f, v)])) a (exo a C (some d)) = H1 ∧ Same H H1 ∧ ExAt H1 a C f v := by
  have na' : upd H d (.xd [(f, v)]) a = none := by
    rw [upd_ne (Ne.symm ne)]
    exact na
  exact ⟨_, rfl, (Same.new nd).mut na, d, upd_same, by rw [upd_ne ne, upd_same]⟩
theorem use_ex {H : Hp} {a d C : Addr} {f : Str} {v : V} {G : Hp → Prop} (na : H a = none) (nd : H d = none) (ne : d ≠ a) (k : ∀ H1, Same H H1 → ExAt H1 a C f v → G H1) : G (upd (upd H d (.xd [(f, v)])) a (exo a C (some d))) := by
  obtain ⟨H1, e, s, x⟩ := ex_new C f v na nd ne
  rw [e]
  exact k H1 s x
theorem lcOne (k i : Nat) : List.map (fun m => V.bl (decide (m = k))) [i] = [V.bl (decide (V.int (0 + (i : Int)) = V.int (0 + (k : Int))))] := by
  have e : decide (V.int (0 + (i : Int)) = V.int (0 + (k : Int))) = decide (i = k) := by
    rw [decide_eq_decide]
    constructor
    · intro h
      injection h with h
      omega
    · rintro rfl
      rfl
  rw [e]
  rfl
theorem body_K {N : List Str} {qual : Str} {st : Stmt} {f : Addr} {cdv : Value} {A : Around} {outer : List Env} {s : Shared} {H : Hp} {E : XK} : (bodyCx P w K mg base N qual st f cdv A outer s H E).K = K := rfl
theorem ok_law (T : Tx K mg) : LawFn P w K mg 4 (He.ga K "law") :=
  lawFn T.f_law sc_law fun base cdv A outer s H a ns Q E hr tk hS hl kq => by
    have c__law_numbers := ok__law_numbers (P := P) (w := w) (base := base) T
    have c__law_wide := ok__law_wide (P := P) (w := w) (base := base) T
    have c__law_so := ok__law_so (P := P) (w := w) (base := base) T 1
    have hso := soH (P := P) (w := w) (base := base) T
    refine ⟨_, (pss_cons (ps_set (i := 1) sc_law.nd rfl (Or.inl rfl) (pe_c0 c__law_numbers (hr.mono (by omega)) (pa_cons (pv 0) pa_nil)))
 (pss_cons (ps_set (i := 2) sc_law.nd rfl (Or.inl rfl) (pe_lst (pa_cons pe_int pa_nil)))
 (pss_cons (ps_set (i := 3) sc_law.nd rfl (Or.inl rfl) (pe_op op_sub (pe_c0 c__law_wide (hr.mono (by omega)) (pa_cons (pv 1) (pa_cons (pv 2) (pa_cons pe_int pa_nil)))) pe_int))
 (pss_cons (ps_set (i := 4) sc_law.nd rfl (Or.inl rfl) (pe_lst (pa_cons (pe_exv T.e_BadValue hr (pa_cons (pv 3) pa_nil)) (pa_cons (pe_exv T.e_BadText hr (pa_cons (pv 3) pa_nil)) (pa_cons (pe_exv T.e_BadCode hr (pa_cons (pv 3) pa_nil)) (pa_cons (pe_exv T.e_NoClass hr (pa_cons (pv 3) pa_nil)) (pa_cons (pe_exv T.e_NoField hr (pa_cons (pv 3) pa_nil)) (pa_cons (pe_exv T.e_NoMethod hr (pa_cons (pv 3) pa_nil)) (pa_cons (pe_exv T.e_NoPlace hr (pa_cons (pv 3) pa_nil)) pa_nil)))))))))
 (pss_cons (ps_for (passes_of rfl) rfl (pi_range1 (by rfl) T.z_range (pa_cons pe_int pa_nil)) (pg_name (i := 5) sc_law.nd rfl (Or.inr rfl))
 (pss_cons (ps_set (i := 6) sc_law.nd rfl (Or.inl rfl) (pe_ix ix_list (pv 4) (pv 5) (fun _ _ => rfl)))
 (pss_cons (ps_if (PW.pt (pw_or (pt_not (pt_val (pe_callB call_isV (by rfl) T.z_isinstance (by decide +kernel) (pa_cons (pv 6) (pa_cons (pgr T.g_CheckError) pa_nil))))) (pw_or (pt_not (pt_val (pe_callB call_isV (by rfl) T.z_isinstance (by decide +kernel) (pa_cons (pv 6) (pa_cons (pe_ty (T := "Exception") (by rfl) T.z_Exception (by decide +kernel)) pa_nil))))) (pw_or (pt_val (pe_callB call_isV (by rfl) T.z_isinstance (by decide +kernel) (pa_cons (pv 6) (pa_cons (pe_ty (T := "ValueError") (by rfl) T.z_ValueError (by decide +kernel)) pa_nil)))) (pw_or1 (pt_val (pe_callB call_isV (by rfl) T.z_isinstance (by decide +kernel) (pa_cons (pv 6) (pa_cons (pe_ty (T := "LookupError") (by rfl) T.z_LookupError (by decide +kernel)) pa_nil))))))))) (pss_one (ps_ret pe_bl)) pss_nil)
 (pss_cons (ps_set (i := 7) sc_law.nd rfl (Or.inl rfl) (pe_lst (pa_cons (pe_callB call_isV (by rfl) T.z_isinstance (by decide +kernel) (pa_cons (pv 6) (pa_cons (pgr T.g_BadValue) pa_nil))) (pa_cons (pe_callB call_isV (by rfl) T.z_isinstance (by decide +kernel) (pa_cons (pv 6) (pa_cons (pgr T.g_BadText) pa_nil))) (pa_cons (pe_callB call_isV (by rfl) T.z_isinstance (by decide +kernel) (pa_cons (pv 6) (pa_cons (pgr T.g_BadCode) pa_nil))) (pa_cons (pe_callB call_isV (by rfl) T.z_isinstance (by decide +kernel) (pa_cons (pv 6) (pa_cons (pgr T.g_NoClass) pa_nil))) (pa_cons (pe_callB call_isV (by rfl) T.z_isinstance (by decide +kernel) (pa_cons (pv 6) (pa_cons (pgr T.g_NoField) pa_nil))) (pa_cons (pe_callB call_isV (by rfl) T.z_isinstance (by decide +kernel) (pa_cons (pv 6) (pa_cons (pgr T.g_NoMethod) pa_nil))) (pa_cons (pe_callB call_isV (by rfl) T.z_isinstance (by decide +kernel) (pa_cons (pv 6) (pa_cons (pgr T.g_NoPlace) pa_nil))) pa_nil)))))))))
 (pss_one (ps_if (pt_cmpR (op_neD hr.units) (pv 7) (pe_lc (own := [("j", 8)]) rfl sc_law.nd (pi_range1 (by rfl) T.z_range (pa_cons pe_int pa_nil)) (blkOk_by (own := [("j", 8)]) (N := ["script", "row", "spot", "at", "made", "k", "one", "held", "j", "why"]) (sc := defScope s_law) (by decide +kernel)) (fun _ _ _ _ _ => pg_name (i := 8) sc_law.nd rfl (Or.inl rfl)) (fun _ _ _ _ _ => pts_nil) (fun _ _ _ _ _ => (pe_cmpR op_eq (pv 8) (pv 5) (nomark _)))) (nomark _)) (pss_one (ps_ret pe_bl)) pss_nil))))))
 (pss_cons (ps_if (PW.pt (pw_or (pt_not (pt_val (pe_c0 c__law_so (hr.mono (by omega)) (pa_cons (pe_exf T.e_BadValue (pe_ix ix_list (pv 4) pe_int (fun _ _ => rfl)) rfl) (pa_cons (pv 3) pa_nil))))) (pw_or (pt_not (pt_val (pe_c0 c__law_so (hr.mono (by omega)) (pa_cons (pe_exf T.e_BadText (pe_ix ix_list (pv 4) pe_int (fun _ _ => rfl)) rfl) (pa_cons (pv 3) pa_nil))))) (pw_or (pt_not (pt_val (pe_c0 c__law_so (hr.mono (by omega)) (pa_cons (pe_exf T.e_BadCode (pe_ix ix_list (pv 4) pe_int (fun _ _ => rfl)) rfl) (pa_cons (pv 3) pa_nil))))) (pw_or (pt_not (pt_val (pe_c0 c__law_so (hr.mono (by omega)) (pa_cons (pe_exf T.e_NoClass (pe_ix ix_list (pv 4) pe_int (fun _ _ => rfl)) rfl) (pa_cons (pv 3) pa_nil))))) (pw_or (pt_not (pt_val (pe_c0 c__law_so (hr.mono (by omega)) (pa_cons (pe_exf T.e_NoField (pe_ix ix_list (pv 4) pe_int (fun _ _ => rfl)) rfl) (pa_cons (pv 3) pa_nil))))) (pw_or (pt_not (pt_val (pe_c0 c__law_so (hr.mono (by omega)) (pa_cons (pe_exf T.e_NoMethod (pe_ix ix_list (pv 4) pe_int (fun _ _ => rfl)) rfl) (pa_cons (pv 3) pa_nil))))) (pw_or1 (pt_not (pt_val (pe_c0 c__law_so (hr.mono (by omega)) (pa_cons (pe_exf T.e_NoPlace (pe_ix ix_list (pv 4) pe_int (fun _ _ => rfl)) rfl) (pa_cons (pv 3) pa_nil))))))))))))) (pss_one (ps_ret pe_bl)) pss_nil)
 (pss_one (L2N.ps_try_as (i := 9) (tb := fun W => fun _ σ H => tMkE (He.ga K "NoPlace") "at" (tCons (tVar 3) tNil) σ H fun cls d H' => W cls d σ H') (Wout := fun _ _ _ _ => False) (c := .ref (He.ga K "CheckError")) rfl rfl sc_law.nd rfl rfl ⟨rfl, by decide, Or.inl T.g_CheckError⟩ takesN0 (fun W pn xe tk' _ => pss_one (by exact (ps_raiseNN rfl tk' T.e_NoPlace hr (pa_cons (pv 3) pa_nil)))) (fun a oe cls d pn hz hf => (pss_one (ps_ret (pe_and (pe_callB (call_isS hz.zc hf) (by rfl) T.z_isinstance (by decide +kernel) (pa_cons (pv 9) (pa_cons (pgr T.g_NoPlace) pa_nil))) (pe_one (pe_soH hso ⟨(hr.mono (by omega : 1 ≤ 3)).dp, (hr.mono (by omega : 1 ≤ 3)).un⟩ (hot_suite hz hf) (pa_cons (pe_xf (exXf T.x_NoPlace) T.x_NoPlace.noN hz.zc hf (pv 9)) (pa_cons (pv 3) pa_nil)))))))))))))))), ?_⟩
    simp only [body_K]
    refine ⟨_, rfl, a, ns, rfl, hS, hl, fun r row H1 s1 nr hrow h0 h1 => ?_⟩
    refine ⟨by decide, fun p np => ?_⟩
    have nrp : r ≠ p := ne_of_none hrow np
    have D : Dr (upd H1 p (.lst [.int ((0 : Nat) : Int)])) r p 0 := ⟨⟨row, by rw [upd_ne nrp]; exact hrow, h0, h1⟩, upd_same, nrp⟩
    refine ⟨_, rfl, _, rfl, r, p, 0, 100000, rfl, rfl, rfl, D, by decide, by decide, fun z z0 z1 D3 => ?_⟩
    refine ⟨_, _, rfl, rfl, ?_⟩
    dsimp only
    generalize z - 50 = iv
    -- made
    refine ⟨_, rfl, _, rfl, fun e1 d1 ne1 nd1 nn1 => ?_⟩
    refine use_ex (G := fun H' => tCons _ _ _ H' _) ne1 nd1 nn1 fun G1 S1 X1 => ?_
    refine ⟨_, rfl, _, rfl, fun e2 d2 ne2 nd2 nn2 => ?_⟩
    refine use_ex (G := fun H' => tCons _ _ _ H' _) ne2 nd2 nn2 fun G2 S2 X2 => ?_
    refine ⟨_, rfl, _, rfl, fun e3 d3 ne3 nd3 nn3 => ?_⟩
    refine use_ex (G := fun H' => tCons _ _ _ H' _) ne3 nd3 nn3 fun G3 S3 X3 => ?_
    refine ⟨_, rfl, _, rfl, fun e4 d4 ne4 nd4 nn4 => ?_⟩
    refine use_ex (G := fun H' => tCons _ _ _ H' _) ne4 nd4 nn4 fun G4 S4 X4 => ?_
    refine ⟨_, rfl, _, rfl, fun e5 d5 ne5 nd5 nn5 => ?_⟩
    refine use_ex (G := fun H' => tCons _ _ _ H' _) ne5 nd5 nn5 fun G5 S5 X5 => ?_
    refine ⟨_, rfl, _, rfl, fun e6 d6 ne6 nd6 nn6 => ?_⟩
    refine use_ex (G := fun H' => tCons _ _ _ H' _) ne6 nd6 nn6 fun G6 S6 X6 => ?_
    refine ⟨_, rfl, _, rfl, fun e7 d7 ne7 nd7 nn7 => ?_⟩
    refine use_ex (G := fun H' => tNil _ H' _) ne7 nd7 nn7 fun G7 S7 X7 => ?_
    refine ⟨(show (7:Nat) ≤ sizeLine by decide), fun q nq => ?_⟩
    generalize hGG : upd G7 q (HO.lst [V.ref e1, V.ref e2, V.ref e3, V.ref e4, V.ref e5, V.ref e6, V.ref e7]) = G
    have SG : Same G7 G := hGG ▸ Same.new nq
    have hq : G q = some (.lst [V.ref e1, V.ref e2, V.ref e3, V.ref e4, V.ref e5, V.ref e6, V.ref e7]) := hGG ▸ upd_same
    have Y1 := ((((((X1.same S2).same S3).same S4).same S5).same S6).same S7).same SG
    have Y2 := (((((X2.same S3).same S4).same S5).same S6).same S7).same SG
    have Y3 := ((((X3.same S4).same S5).same S6).same S7).same SG
    have Y4 := (((X4.same S5).same S6).same S7).same SG
    have Y5 := ((X5.same S6).same S7).same SG
    have Y6 := (X6.same S7).same SG
    have Y7 := X7.same SG
    clear hGG
    refine ⟨7, rfl, by decide, by decide, for_range (lo := 0) (n := 7) (fun j σ H3 => ∃ (v5 v6 v7 : Option V), σ = [some (.ref a), some (.ref r), some (.ref p), some (.int iv), some (.ref q), v5, v6, v7, none, none] ∧ Same G H3) ⟨none, none, none, rfl, Same.refl G⟩ ?_ ?_⟩
    · rintro j σ H3 hj ⟨v5, v6, v7, rfl, s3⟩
      have hj7 : j = 0 ∨ j = 1 ∨ j = 2 ∨ j = 3 ∨ j = 4 ∨ j = 5 ∨ j = 6 := by omega
      rcases hj7 with rfl | rfl | rfl | rfl | rfl | rfl | rfl
      · obtain ⟨dd, xa, xd⟩ := Y1.same s3
        refine ⟨_, rfl, _, rfl, q, _, _, _, rfl, rfl, SqL.of (s3 _ _ hq), rfl, ?_⟩
        refine ⟨_, rfl, _, dd, _, _, _, _, _, true, rfl, T.x_BadValue, xa, ⟨_, xd⟩, fun _ h => h, T.k_BadValue_CheckError, _, rfl, iteF ⟨_, rfl, _, dd, _, _, _, _, _, true, rfl, T.x_BadValue, xa, ⟨_, xd⟩, fun _ h => h, T.k_BadValue_Exception, _, rfl, iteF ⟨_, rfl, _, dd, _, _, _, _, _, false, rfl, T.x_BadValue, xa, ⟨_, xd⟩, fun _ h => h, T.k_BadValue_ValueError, _, rfl, iteF ⟨_, rfl, _, dd, _, _, _, _, _, false, rfl, T.x_BadValue, xa, ⟨_, xd⟩, fun _ h => h, T.k_BadValue_LookupError, _, rfl, iteF ?_⟩⟩⟩⟩
        refine ⟨_, rfl, _, dd, _, _, _, _, _, true, rfl, T.x_BadValue, xa, ⟨_, xd⟩, fun _ h => h, T.k_BadValue_BadValue, _, rfl, _, dd, _, _, _, _, _, false, rfl, T.x_BadValue, xa, ⟨_, xd⟩, fun _ h => h, T.k_BadValue_BadText, _, rfl, _, dd, _, _, _, _, _, false, rfl, T.x_BadValue, xa, ⟨_, xd⟩, fun _ h => h, T.k_BadValue_BadCode, _, rfl, _, dd, _, _, _, _, _, false, rfl, T.x_BadValue, xa, ⟨_, xd⟩, fun _ h => h, T.k_BadValue_NoClass, _, rfl, _, dd, _, _, _, _, _, false, rfl, T.x_BadValue, xa, ⟨_, xd⟩, fun _ h => h, T.k_BadValue_NoField, _, rfl, _, dd, _, _, _, _, _, false, rfl, T.x_BadValue, xa, ⟨_, xd⟩, fun _ h => h, T.k_BadValue_NoMethod, _, rfl, _, dd, _, _, _, _, _, false, rfl, T.x_BadValue, xa, ⟨_, xd⟩, fun _ h => h, T.k_BadValue_NoPlace, (show (7:Nat) ≤ sizeLine by decide), fun p' np' => ?_⟩
        refine ⟨_, rfl, 7, rfl, by decide, by decide, fun D nD => lc_range (lo := 0) (n := 7) (fun i H5 => Same (upd H3 p' _) H5 ∧ H5 D = some (.lst ((List.range i).map fun m => V.bl (decide (m = 0))))) ⟨Same.new nD, upd_same⟩ ?_ ?_⟩
        · rintro i H5 hi ⟨s5, hD⟩
          refine ⟨rfl, iteT (B := False) ⟨_, rfl, _, rfl, rfl, _, hD, ?_, s5.mut nD, ?_⟩⟩
          · rw [List.length_map, List.length_range]
            exact Nat.lt_trans hi (by decide)
          · rw [upd_same, List.range_succ, List.map_append, lcOne 0 i]
        · rintro H5 ⟨s5, hD⟩
          refine ⟨.list [.bool true, .bool false, .bool false, .bool false, .bool false, .bool false, .bool false], .list [.bool true, .bool false, .bool false, .bool false, .bool false, .bool false, .bool false], .lst (SqL.of (s5 _ _ upd_same)) (.cons (.bl _) (.cons (.bl _) (.cons (.bl _) (.cons (.bl _) (.cons (.bl _) (.cons (.bl _) (.cons (.bl _) .nil))))))), .lst (SqL.of hD) (.cons (.bl _) (.cons (.bl _) (.cons (.bl _) (.cons (.bl _) (.cons (.bl _) (.cons (.bl _) (.cons (.bl _) .nil))))))), rfl, rfl, _, rfl, iteF ?_⟩
          exact ⟨_, _, _, rfl, (s3.trans (Same.new np')).trans s5⟩
      · obtain ⟨dd, xa, xd⟩ := Y2.same s3
        refine ⟨_, rfl, _, rfl, q, _, _, _, rfl, rfl, SqL.of (s3 _ _ hq), rfl, ?_⟩
        refine ⟨_, rfl, _, dd, _, _, _, _, _, true, rfl, T.x_BadText, xa, ⟨_, xd⟩, fun _ h => h, T.k_BadText_CheckError, _, rfl, iteF ⟨_, rfl, _, dd, _, _, _, _, _, true, rfl, T.x_BadText, xa, ⟨_, xd⟩, fun _ h => h, T.k_BadText_Exception, _, rfl, iteF ⟨_, rfl, _, dd, _, _, _, _, _, false, rfl, T.x_BadText, xa, ⟨_, xd⟩, fun _ h => h, T.k_BadText_ValueError, _, rfl, iteF ⟨_, rfl, _, dd, _, _, _, _, _, false, rfl, T.x_BadText, xa, ⟨_, xd⟩, fun _ h => h, T.k_BadText_LookupError, _, rfl, iteF ?_⟩⟩⟩⟩
        refine ⟨_, rfl, _, dd, _, _, _, _, _, false, rfl, T.x_BadText, xa, ⟨_, xd⟩, fun _ h => h, T.k_BadText_BadValue, _, rfl, _, dd, _, _, _, _, _, true, rfl, T.x_BadText, xa, ⟨_, xd⟩, fun _ h => h, T.k_BadText_BadText, _, rfl, _, dd, _, _, _, _, _, false, rfl, T.x_BadText, xa, ⟨_, xd⟩, fun _ h => h, T.k_BadText_BadCode, _, rfl, _, dd, _, _, _, _, _, false, rfl, T.x_BadText, xa, ⟨_, xd⟩, fun _ h => h, T.k_BadText_NoClass, _, rfl, _, dd, _, _, _, _, _, false, rfl, T.x_BadText, xa, ⟨_, xd⟩, fun _ h => h, T.k_BadText_NoField, _, rfl, _, dd, _, _, _, _, _, false, rfl, T.x_BadText, xa, ⟨_, xd⟩, fun _ h => h, T.k_BadText_NoMethod, _, rfl, _, dd, _, _, _, _, _, false, rfl, T.x_BadText, xa, ⟨_, xd⟩, fun _ h => h, T.k_BadText_NoPlace, (show (7:Nat) ≤ sizeLine by decide), fun p' np' => ?_⟩
        refine ⟨_, rfl, 7, rfl, by decide, by decide, fun D nD => lc_range (lo := 0) (n := 7) (fun i H5 => Same (upd H3 p' _) H5 ∧ H5 D = some (.lst ((List.range i).map fun m => V.bl (decide (m = 1))))) ⟨Same.new nD, upd_same⟩ ?_ ?_⟩
        · rintro i H5 hi ⟨s5, hD⟩
          refine ⟨rfl, iteT (B := False) ⟨_, rfl, _, rfl, rfl, _, hD, ?_, s5.mut nD, ?_⟩⟩
          · rw [List.length_map, List.length_range]
            exact Nat.lt_trans hi (by decide)
          · rw [upd_same, List.range_succ, List.map_append, lcOne 1 i]
        · rintro H5 ⟨s5, hD⟩
          refine ⟨.list [.bool false, .bool true, .bool false, .bool false, .bool false, .bool false, .bool false], .list [.bool false, .bool true, .bool false, .bool false, .bool false, .bool false, .bool false], .lst (SqL.of (s5 _ _ upd_same)) (.cons (.bl _) (.cons (.bl _) (.cons (.bl _) (.cons (.bl _) (.cons (.bl _) (.cons (.bl _) (.cons (.bl _) .nil))))))), .lst (SqL.of hD) (.cons (.bl _) (.cons (.bl _) (.cons (.bl _) (.cons (.bl _) (.cons (.bl _) (.cons (.bl _) (.cons (.bl _) .nil))))))), rfl, rfl, _, rfl, iteF ?_⟩
          exact ⟨_, _, _, rfl, (s3.trans (Same.new np')).trans s5⟩
      · obtain ⟨dd, xa, xd⟩ := Y3.same s3
        refine ⟨_, rfl, _, rfl, q, _, _, _, rfl, rfl, SqL.of (s3 _ _ hq), rfl, ?_⟩
        refine ⟨_, rfl, _, dd, _, _, _, _, _, true, rfl, T.x_BadCode, xa, ⟨_, xd⟩, fun _ h => h, T.k_BadCode_CheckError, _, rfl, iteF ⟨_, rfl, _, dd, _, _, _, _, _, true, rfl, T.x_BadCode, xa, ⟨_, xd⟩, fun _ h => h, T.k_BadCode_Exception, _, rfl, iteF ⟨_, rfl, _, dd, _, _, _, _, _, false, rfl, T.x_BadCode, xa, ⟨_, xd⟩, fun _ h => h, T.k_BadCode_ValueError, _, rfl, iteF ⟨_, rfl, _, dd, _, _, _, _, _, false, rfl, T.x_BadCode, xa, ⟨_, xd⟩, fun _ h => h, T.k_BadCode_LookupError, _, rfl, iteF ?_⟩⟩⟩⟩
        refine ⟨_, rfl, _, dd, _, _, _, _, _, false, rfl, T.x_BadCode, xa, ⟨_, xd⟩, fun _ h => h, T.k_BadCode_BadValue, _, rfl, _, dd, _, _, _, _, _, false, rfl, T.x_BadCode, xa, ⟨_, xd⟩, fun _ h => h, T.k_BadCode_BadText, _, rfl, _, dd, _, _, _, _, _, true, rfl, T.x_BadCode, xa, ⟨_, xd⟩, fun _ h => h, T.k_BadCode_BadCode, _, rfl, _, dd, _, _, _, _, _, false, rfl, T.x_BadCode, xa, ⟨_, xd⟩, fun _ h => h, T.k_BadCode_NoClass, _, rfl, _, dd, _, _, _, _, _, false, rfl, T.x_BadCode, xa, ⟨_, xd⟩, fun _ h => h, T.k_BadCode_NoField, _, rfl, _, dd, _, _, _, _, _, false, rfl, T.x_BadCode, xa, ⟨_, xd⟩, fun _ h => h, T.k_BadCode_NoMethod, _, rfl, _, dd, _, _, _, _, _, false, rfl, T.x_BadCode, xa, ⟨_, xd⟩, fun _ h => h, T.k_BadCode_NoPlace, (show (7:Nat) ≤ sizeLine by decide), fun p' np' => ?_⟩
        refine ⟨_, rfl, 7, rfl, by decide, by decide, fun D nD => lc_range (lo := 0) (n := 7) (fun i H5 => Same (upd H3 p' _) H5 ∧ H5 D = some (.lst ((List.range i).map fun m => V.bl (decide (m = 2))))) ⟨Same.new nD, upd_same⟩ ?_ ?_⟩
        · rintro i H5 hi ⟨s5, hD⟩
          refine ⟨rfl, iteT (B := False) ⟨_, rfl, _, rfl, rfl, _, hD, ?_, s5.mut nD, ?_⟩⟩
          · rw [List.length_map, List.length_range]
            exact Nat.lt_trans hi (by decide)
          · rw [upd_same, List.range_succ, List.map_append, lcOne 2 i]
        · rintro H5 ⟨s5, hD⟩
          refine ⟨.list [.bool false, .bool false, .bool true, .bool false, .bool false, .bool false, .bool false], .list [.bool false, .bool false, .bool true, .bool false, .bool false, .bool false, .bool false], .lst (SqL.of (s5 _ _ upd_same)) (.cons (.bl _) (.cons (.bl _) (.cons (.bl _) (.cons (.bl _) (.cons (.bl _) (.cons (.bl _) (.cons (.bl _) .nil))))))), .lst (SqL.of hD) (.cons (.bl _) (.cons (.bl _) (.cons (.bl _) (.cons (.bl _) (.cons (.bl _) (.cons (.bl _) (.cons (.bl _) .nil))))))), rfl, rfl, _, rfl, iteF ?_⟩
          exact ⟨_, _, _, rfl, (s3.trans (Same.new np')).trans s5⟩
      · obtain ⟨dd, xa, xd⟩ := Y4.same s3
        refine ⟨_, rfl, _, rfl, q, _, _, _, rfl, rfl, SqL.of (s3 _ _ hq), rfl, ?_⟩
        refine ⟨_, rfl, _, dd, _, _, _, _, _, true, rfl, T.x_NoClass, xa, ⟨_, xd⟩, fun _ h => h, T.k_NoClass_CheckError, _, rfl, iteF ⟨_, rfl, _, dd, _, _, _, _, _, true, rfl, T.x_NoClass, xa, ⟨_, xd⟩, fun _ h => h, T.k_NoClass_Exception, _, rfl, iteF ⟨_, rfl, _, dd, _, _, _, _, _, false, rfl, T.x_NoClass, xa, ⟨_, xd⟩, fun _ h => h, T.k_NoClass_ValueError, _, rfl, iteF ⟨_, rfl, _, dd, _, _, _, _, _, false, rfl, T.x_NoClass, xa, ⟨_, xd⟩, fun _ h => h, T.k_NoClass_LookupError, _, rfl, iteF ?_⟩⟩⟩⟩
        refine ⟨_, rfl, _, dd, _, _, _, _, _, false, rfl, T.x_NoClass, xa, ⟨_, xd⟩, fun _ h => h, T.k_NoClass_BadValue, _, rfl, _, dd, _, _, _, _, _, false, rfl, T.x_NoClass, xa, ⟨_, xd⟩, fun _ h => h, T.k_NoClass_BadText, _, rfl, _, dd, _, _, _, _, _, false, rfl, T.x_NoClass, xa, ⟨_, xd⟩, fun _ h => h, T.k_NoClass_BadCode, _, rfl, _, dd, _, _, _, _, _, true, rfl, T.x_NoClass, xa, ⟨_, xd⟩, fun _ h => h, T.k_NoClass_NoClass, _, rfl, _, dd, _, _, _, _, _, false, rfl, T.x_NoClass, xa, ⟨_, xd⟩, fun _ h => h, T.k_NoClass_NoField, _, rfl, _, dd, _, _, _, _, _, false, rfl, T.x_NoClass, xa, ⟨_, xd⟩, fun _ h => h, T.k_NoClass_NoMethod, _, rfl, _, dd, _, _, _, _, _, false, rfl, T.x_NoClass, xa, ⟨_, xd⟩, fun _ h => h, T.k_NoClass_NoPlace, (show (7:Nat) ≤ sizeLine by decide), fun p' np' => ?_⟩
        refine ⟨_, rfl, 7, rfl, by decide, by decide, fun D nD => lc_range (lo := 0) (n := 7) (fun i H5 => Same (upd H3 p' _) H5 ∧ H5 D = some (.lst ((List.range i).map fun m => V.bl (decide (m = 3))))) ⟨Same.new nD, upd_same⟩ ?_ ?_⟩
        · rintro i H5 hi ⟨s5, hD⟩
          refine ⟨rfl, iteT (B := False) ⟨_, rfl, _, rfl, rfl, _, hD, ?_, s5.mut nD, ?_⟩⟩
          · rw [List.length_map, List.length_range]
            exact Nat.lt_trans hi (by decide)
          · rw [upd_same, List.range_succ, List.map_append, lcOne 3 i]
        · rintro H5 ⟨s5, hD⟩
          refine ⟨.list [.bool false, .bool false, .bool false, .bool true, .bool false, .bool false, .bool false], .list [.bool false, .bool false, .bool false, .bool true, .bool false, .bool false, .bool false], .lst (SqL.of (s5 _ _ upd_same)) (.cons (.bl _) (.cons (.bl _) (.cons (.bl _) (.cons (.bl _) (.cons (.bl _) (.cons (.bl _) (.cons (.bl _) .nil))))))), .lst (SqL.of hD) (.cons (.bl _) (.cons (.bl _) (.cons (.bl _) (.cons (.bl _) (.cons (.bl _) (.cons (.bl _) (.cons (.bl _) .nil))))))), rfl, rfl, _, rfl, iteF ?_⟩
          exact ⟨_, _, _, rfl, (s3.trans (Same.new np')).trans s5⟩
      · obtain ⟨dd, xa, xd⟩ := Y5.same s3
        refine ⟨_, rfl, _, rfl, q, _, _, _, rfl, rfl, SqL.of (s3 _ _ hq), rfl, ?_⟩
        refine ⟨_, rfl, _, dd, _, _, _, _, _, true, rfl, T.x_NoField, xa, ⟨_, xd⟩, fun _ h => h, T.k_NoField_CheckError, _, rfl, iteF ⟨_, rfl, _, dd, _, _, _, _, _, true, rfl, T.x_NoField, xa, ⟨_, xd⟩, fun _ h => h, T.k_NoField_Exception, _, rfl, iteF ⟨_, rfl, _, dd, _, _, _, _, _, false, rfl, T.x_NoField, xa, ⟨_, xd⟩, fun _ h => h, T.k_NoField_ValueError, _, rfl, iteF ⟨_, rfl, _, dd, _, _, _, _, _, false, rfl, T.x_NoField, xa, ⟨_, xd⟩, fun _ h => h, T.k_NoField_LookupError, _, rfl, iteF ?_⟩⟩⟩⟩
        refine ⟨_, rfl, _, dd, _, _, _, _, _, false, rfl, T.x_NoField, xa, ⟨_, xd⟩, fun _ h => h, T.k_NoField_BadValue, _, rfl, _, dd, _, _, _, _, _, false, rfl, T.x_NoField, xa, ⟨_, xd⟩, fun _ h => h, T.k_NoField_BadText, _, rfl, _, dd, _, _, _, _, _, false, rfl, T.x_NoField, xa, ⟨_, xd⟩, fun _ h => h, T.k_NoField_BadCode, _, rfl, _, dd, _, _, _, _, _, false, rfl, T.x_NoField, xa, ⟨_, xd⟩, fun _ h => h, T.k_NoField_NoClass, _, rfl, _, dd, _, _, _, _, _, true, rfl, T.x_NoField, xa, ⟨_, xd⟩, fun _ h => h, T.k_NoField_NoField, _, rfl, _, dd, _, _, _, _, _, false, rfl, T.x_NoField, xa, ⟨_, xd⟩, fun _ h => h, T.k_NoField_NoMethod, _, rfl, _, dd, _, _, _, _, _, false, rfl, T.x_NoField, xa, ⟨_, xd⟩, fun _ h => h, T.k_NoField_NoPlace, (show (7:Nat) ≤ sizeLine by decide), fun p' np' => ?_⟩
        refine ⟨_, rfl, 7, rfl, by decide, by decide, fun D nD => lc_range (lo := 0) (n := 7) (fun i H5 => Same (upd H3 p' _) H5 ∧ H5 D = some (.lst ((List.range i).map fun m => V.bl (decide (m = 4))))) ⟨Same.new nD, upd_same⟩ ?_ ?_⟩
        · rintro i H5 hi ⟨s5, hD⟩
          refine ⟨rfl, iteT (B := False) ⟨_, rfl, _, rfl, rfl, _, hD, ?_, s5.mut nD, ?_⟩⟩
          · rw [List.length_map, List.length_range]
            exact Nat.lt_trans hi (by decide)
          · rw [upd_same, List.range_succ, List.map_append, lcOne 4 i]
        · rintro H5 ⟨s5, hD⟩
          refine ⟨.list [.bool false, .bool false, .bool false, .bool false, .bool true, .bool false, .bool false], .list [.bool false, .bool false, .bool false, .bool false, .bool true, .bool false, .bool false], .lst (SqL.of (s5 _ _ upd_same)) (.cons (.bl _) (.cons (.bl _) (.cons (.bl _) (.cons (.bl _) (.cons (.bl _) (.cons (.bl _) (.cons (.bl _) .nil))))))), .lst (SqL.of hD) (.cons (.bl _) (.cons (.bl _) (.cons (.bl _) (.cons (.bl _) (.cons (.bl _) (.cons (.bl _) (.cons (.bl _) .nil))))))), rfl, rfl, _, rfl, iteF ?_⟩
          exact ⟨_, _, _, rfl, (s3.trans (Same.new np')).trans s5⟩
      · obtain ⟨dd, xa, xd⟩ := Y6.same s3
        refine ⟨_, rfl, _, rfl, q, _, _, _, rfl, rfl, SqL.of (s3 _ _ hq), rfl, ?_⟩
        refine ⟨_, rfl, _, dd, _, _, _, _, _, true, rfl, T.x_NoMethod, xa, ⟨_, xd⟩, fun _ h => h, T.k_NoMethod_CheckError, _, rfl, iteF ⟨_, rfl, _, dd, _, _, _, _, _, true, rfl, T.x_NoMethod, xa, ⟨_, xd⟩, fun _ h => h, T.k_NoMethod_Exception, _, rfl, iteF ⟨_, rfl, _, dd, _, _, _, _, _, false, rfl, T.x_NoMethod, xa, ⟨_, xd⟩, fun _ h => h, T.k_NoMethod_ValueError, _, rfl, iteF ⟨_, rfl, _, dd, _, _, _, _, _, false, rfl, T.x_NoMethod, xa, ⟨_, xd⟩, fun _ h => h, T.k_NoMethod_LookupError, _, rfl, iteF ?_⟩⟩⟩⟩
        refine ⟨_, rfl, _, dd, _, _, _, _, _, false, rfl, T.x_NoMethod, xa, ⟨_, xd⟩, fun _ h => h, T.k_NoMethod_BadValue, _, rfl, _, dd, _, _, _, _, _, false, rfl, T.x_NoMethod, xa, ⟨_, xd⟩, fun _ h => h, T.k_NoMethod_BadText, _, rfl, _, dd, _, _, _, _, _, false, rfl, T.x_NoMethod, xa, ⟨_, xd⟩, fun _ h => h, T.k_NoMethod_BadCode, _, rfl, _, dd, _, _, _, _, _, false, rfl, T.x_NoMethod, xa, ⟨_, xd⟩, fun _ h => h, T.k_NoMethod_NoClass, _, rfl, _, dd, _, _, _, _, _, false, rfl, T.x_NoMethod, xa, ⟨_, xd⟩, fun _ h => h, T.k_NoMethod_NoField, _, rfl, _, dd, _, _, _, _, _, true, rfl, T.x_NoMethod, xa, ⟨_, xd⟩, fun _ h => h, T.k_NoMethod_NoMethod, _, rfl, _, dd, _, _, _, _, _, false, rfl, T.x_NoMethod, xa, ⟨_, xd⟩, fun _ h => h, T.k_NoMethod_NoPlace, (show (7:Nat) ≤ sizeLine by decide), fun p' np' => ?_⟩
        refine ⟨_, rfl, 7, rfl, by decide, by decide, fun D nD => lc_range (lo := 0) (n := 7) (fun i H5 => Same (upd H3 p' _) H5 ∧ H5 D = some (.lst ((List.range i).map fun m => V.bl (decide (m = 5))))) ⟨Same.new nD, upd_same⟩ ?_ ?_⟩
        · rintro i H5 hi ⟨s5, hD⟩
          refine ⟨rfl, iteT (B := False) ⟨_, rfl, _, rfl, rfl, _, hD, ?_, s5.mut nD, ?_⟩⟩
          · rw [List.length_map, List.length_range]
            exact Nat.lt_trans hi (by decide)
          · rw [upd_same, List.range_succ, List.map_append, lcOne 5 i]
        · rintro H5 ⟨s5, hD⟩
          refine ⟨.list [.bool false, .bool false, .bool false, .bool false, .bool false, .bool true, .bool false], .list [.bool false, .bool false, .bool false, .bool false, .bool false, .bool true, .bool false], .lst (SqL.of (s5 _ _ upd_same)) (.cons (.bl _) (.cons (.bl _) (.cons (.bl _) (.cons (.bl _) (.cons (.bl _) (.cons (.bl _) (.cons (.bl _) .nil))))))), .lst (SqL.of hD) (.cons (.bl _) (.cons (.bl _) (.cons (.bl _) (.cons (.bl _) (.cons (.bl _) (.cons (.bl _) (.cons (.bl _) .nil))))))), rfl, rfl, _, rfl, iteF ?_⟩
          exact ⟨_, _, _, rfl, (s3.trans (Same.new np')).trans s5⟩
      · obtain ⟨dd, xa, xd⟩ := Y7.same s3
        refine ⟨_, rfl, _, rfl, q, _, _, _, rfl, rfl, SqL.of (s3 _ _ hq), rfl, ?_⟩
        refine ⟨_, rfl, _, dd, _, _, _, _, _, true, rfl, T.x_NoPlace, xa, ⟨_, xd⟩, fun _ h => h, T.k_NoPlace_CheckError, _, rfl, iteF ⟨_, rfl, _, dd, _, _, _, _, _, true, rfl, T.x_NoPlace, xa, ⟨_, xd⟩, fun _ h => h, T.k_NoPlace_Exception, _, rfl, iteF ⟨_, rfl, _, dd, _, _, _, _, _, false, rfl, T.x_NoPlace, xa, ⟨_, xd⟩, fun _ h => h, T.k_NoPlace_ValueError, _, rfl, iteF ⟨_, rfl, _, dd, _, _, _, _, _, false, rfl, T.x_NoPlace, xa, ⟨_, xd⟩, fun _ h => h, T.k_NoPlace_LookupError, _, rfl, iteF ?_⟩⟩⟩⟩
        refine ⟨_, rfl, _, dd, _, _, _, _, _, false, rfl, T.x_NoPlace, xa, ⟨_, xd⟩, fun _ h => h, T.k_NoPlace_BadValue, _, rfl, _, dd, _, _, _, _, _, false, rfl, T.x_NoPlace, xa, ⟨_, xd⟩, fun _ h => h, T.k_NoPlace_BadText, _, rfl, _, dd, _, _, _, _, _, false, rfl, T.x_NoPlace, xa, ⟨_, xd⟩, fun _ h => h, T.k_NoPlace_BadCode, _, rfl, _, dd, _, _, _, _, _, false, rfl, T.x_NoPlace, xa, ⟨_, xd⟩, fun _ h => h, T.k_NoPlace_NoClass, _, rfl, _, dd, _, _, _, _, _, false, rfl, T.x_NoPlace, xa, ⟨_, xd⟩, fun _ h => h, T.k_NoPlace_NoField, _, rfl, _, dd, _, _, _, _, _, false, rfl, T.x_NoPlace, xa, ⟨_, xd⟩, fun _ h => h, T.k_NoPlace_NoMethod, _, rfl, _, dd, _, _, _, _, _, true, rfl, T.x_NoPlace, xa, ⟨_, xd⟩, fun _ h => h, T.k_NoPlace_NoPlace, (show (7:Nat) ≤ sizeLine by decide), fun p' np' => ?_⟩
        refine ⟨_, rfl, 7, rfl, by decide, by decide, fun D nD => lc_range (lo := 0) (n := 7) (fun i H5 => Same (upd H3 p' _) H5 ∧ H5 D = some (.lst ((List.range i).map fun m => V.bl (decide (m = 6))))) ⟨Same.new nD, upd_same⟩ ?_ ?_⟩
        · rintro i H5 hi ⟨s5, hD⟩
          refine ⟨rfl, iteT (B := False) ⟨_, rfl, _, rfl, rfl, _, hD, ?_, s5.mut nD, ?_⟩⟩
          · rw [List.length_map, List.length_range]
            exact Nat.lt_trans hi (by decide)
          · rw [upd_same, List.range_succ, List.map_append, lcOne 6 i]
        · rintro H5 ⟨s5, hD⟩
          refine ⟨.list [.bool false, .bool false, .bool false, .bool false, .bool false, .bool false, .bool true], .list [.bool false, .bool false, .bool false, .bool false, .bool false, .bool false, .bool true], .lst (SqL.of (s5 _ _ upd_same)) (.cons (.bl _) (.cons (.bl _) (.cons (.bl _) (.cons (.bl _) (.cons (.bl _) (.cons (.bl _) (.cons (.bl _) .nil))))))), .lst (SqL.of hD) (.cons (.bl _) (.cons (.bl _) (.cons (.bl _) (.cons (.bl _) (.cons (.bl _) (.cons (.bl _) (.cons (.bl _) .nil))))))), rfl, rfl, _, rfl, iteF ?_⟩
          exact ⟨_, _, _, rfl, (s3.trans (Same.new np')).trans s5⟩
    · rintro σ H3 ⟨v5, v6, v7, rfl, s3⟩
      obtain ⟨b1, xa1, xd1⟩ := Y1.same s3
      obtain ⟨b2, xa2, xd2⟩ := Y2.same s3
      obtain ⟨b3, xa3, xd3⟩ := Y3.same s3
      obtain ⟨b4, xa4, xd4⟩ := Y4.same s3
      obtain ⟨b5, xa5, xd5⟩ := Y5.same s3
      obtain ⟨b6, xa6, xd6⟩ := Y6.same s3
      obtain ⟨b7, xa7, xd7⟩ := Y7.same s3
      refine ⟨_, rfl, q, _, _, _, rfl, rfl, SqL.of (s3 _ _ hq), rfl, _, _, _, rfl, xa1, xd1, _, rfl, .int iv, .int iv, .int iv, rfl, _, rfl, iteF ⟨_, rfl, q, _, _, _, rfl, rfl, SqL.of (s3 _ _ hq), rfl, _, _, _, rfl, xa2, xd2, _, rfl, .int iv, .int iv, .int iv, rfl, _, rfl, iteF ⟨_, rfl, q, _, _, _, rfl, rfl, SqL.of (s3 _ _ hq), rfl, _, _, _, rfl, xa3, xd3, _, rfl, .int iv, .int iv, .int iv, rfl, _, rfl, iteF ⟨_, rfl, q, _, _, _, rfl, rfl, SqL.of (s3 _ _ hq), rfl, _, _, _, rfl, xa4, xd4, _, rfl, .int iv, .int iv, .int iv, rfl, _, rfl, iteF ⟨_, rfl, q, _, _, _, rfl, rfl, SqL.of (s3 _ _ hq), rfl, _, _, _, rfl, xa5, xd5, _, rfl, .int iv, .int iv, .int iv, rfl, _, rfl, iteF ⟨_, rfl, q, _, _, _, rfl, rfl, SqL.of (s3 _ _ hq), rfl, _, _, _, rfl, xa6, xd6, _, rfl, .int iv, .int iv, .int iv, rfl, _, rfl, iteF ⟨_, rfl, q, _, _, _, rfl, rfl, SqL.of (s3 _ _ hq), rfl, _, _, _, rfl, xa7, xd7, _, rfl, .int iv, .int iv, .int iv, rfl, _, rfl, iteF ?_⟩⟩⟩⟩⟩⟩⟩
      refine ⟨_, rfl, _, rfl, fun d nd => ⟨true, T.m_NoPlace_CheckError, fun _ a na => ?_, fun z => (nomatch z)⟩⟩
      have hd : (upd H3 d (.xd [("at", V.int iv)])) d = some (.xd [("at", V.int iv)]) := upd_same
      refine ⟨_, rfl, _, _, _, _, _, _, true, rfl, rfl, rfl, T.x_NoPlace, ⟨_, hd⟩, fun _ h => h, T.k_NoPlace_NoPlace, _, rfl, iteT ?_⟩
      refine ⟨_, rfl, rfl, rfl, _, _, _, rfl, hd, rfl, _, rfl, iv, rfl, rfl, ?_⟩
      exact kq _
end
end CW

set_option maxHeartbeats 0
open PySem PySem.W PySem.Calls PyProof.Rows
theorem PySem.Challenge.cw_checkwright_k00_errors_holds : PySem.Challenge.rw_checkwright_k00_errors.Holds := by
  w_on; o_law
  refine HandSHeadRun.head_any (r := OpenLaw.row PySem.Challenge.rw_checkwright_k00_errors) (q := view (OpenLaw.row PySem.Challenge.rw_checkwright_k00_errors).prog [CW.lawPlace]) (H := CW.hk) (ob := CW.ob) (M := 20000) (loose := CW.loose) (d := HandSHeadRun.topDef (OpenLaw.row PySem.Challenge.rw_checkwright_k00_errors).prog CW.lawPlace) (kwd := []) CW.ob_eq
    (by kernel_rfl) (fun s => by kernel_rfl) CW.run (by kernel_rfl) (by kernel_rfl) (by kernel_rfl) (by rfl) (by first | assumption | decide +kernel) (by decide +kernel) ⟨rfl, rfl, rfl, rfl, rfl, by decide +kernel⟩ ?hw ?hc
  case hw => w_witness2
  case hc =>
    refine CW.law_walk (l := PySem.Challenge.rw_checkwright_k00_errors) (k := 4) rfl (by kernel_rfl) ⟨rfl, by decide, by decide⟩ ?F
    intro w mg fa h Y G hmg0
    obtain ⟨K, KX, c⟩ := Y
    have hmg : mg ("law" : PySem.Str) = some (.ref fa) := by
      have e : (HandSHeadRun.topDef (OpenLaw.row PySem.Challenge.rw_checkwright_k00_errors).prog CW.lawPlace).name = ("law" : PySem.Str) := by kernel_rfl
      rw [← e]
      exact hmg0
    have T : CW.Tx K mg := ⟨c, h, KX, G⟩
    have e := hmg.symm.trans T.g_law
    cases e
    exact ⟨K, KX, CW.ok_law T⟩
