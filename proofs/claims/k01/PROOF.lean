import PyProof.Rows.All
import Wide.All
import OpenK.AllK
import Wide.FinOn
import PyProof.EqAt
import PyProof.EqKinds
import PyProof.TupleCall
import KE.KStateDown
import HandS.ForMost
import HandS.Exc
import HandS.TryOnly
import HandS.TryMany
import HandS.WordsExc
import HandS.Defaults
import HandS.Property
import HandS.FStr
import HandS.Wide
import HandS.WideBits
import HandS.IsInst
import HandS.MakeKw
import HandS.MakeKwOnly
import HandS.Head0
import HandS.Head1
import HandS.Head2
import HandS.HeadEnd
import HandS.HeadHook1
import HandS.HeadHook2
import HandS.HeadNt
import HandS.OwnEq
import KE.KCallOwn
import HandS.Walk
import HandS.ExcInit
import HandS.HeadHook4
import HandS.Lambda
import HandS.TupAny
import HandS.TupLe
import HandS.RaiseMore
import KE.KExcInit
import HandS.ExcField
import HandS.ExcIs
import KE.KExcIs
import HandS.ExcOwn
import HandS.EndBits
import KE.KNestM
import HandS.HotCalls
import KE.KOpsOwn
import HandS.Style
import HandS.Dict
import HandS.ExcValue
import HandS.Codes
import PySem.Challenge.RW_seriesforms_k01_constants_and_errors
set_option Elab.async false
set_option linter.all false
set_option maxRecDepth 100000
set_option maxHeartbeats 4000000
/-! common words: contracts with the guards told -/
namespace Rt
open PySem PySem.Spec PyProof.Rows L2
/-! ### contracts: no repr runs around (guards) -/
structure FnG (P : Program) (w : World) (K : PySem.W.Frag) (mg : Str → Option Value) (base : Heap) (k : Nat) (f : Addr) (fd : FuncData) (ps : List Str) (sp : Sp) : Prop where
  len : ∀ vs H Q E, sp vs H Q E → vs.length = ps.length
  run : ∀ (A : Around) (outer : List Env) (s : Shared) (H : Hp) (args : Args) (us : List Value) (vs : List V) (Q : VK) (E : XK), A.guards = some [] → Room k A → Env0 P w K mg base A outer s H → BindsTo s fd args (ps.zip us) → Vals vs us → sp vs H Q E →
    codeAny (model P w) A (.call (.ref f) args) (CR (L2.CX P w) outer P w H s Q E) s
section
variable {P : Program} {w : World} {K : PySem.W.Frag} {mg : Str → Option Value} {base : Heap}
theorem FnG.mono {j k : Nat} {f : Addr} {fd : FuncData} {ps : List Str} {sp : Sp} (F : FnG P w K mg base j f fd ps sp) (h : j ≤ k) : FnG P w K mg base k f fd ps sp :=
  ⟨F.len, fun A outer s H args us vs Q E hg hr => F.run A outer s H args us vs Q E hg (hr.mono h)⟩
theorem FnG.imp {k : Nat} {f : Addr} {fd : FuncData} {ps : List Str} {sp sp' : Sp} (F : FnG P w K mg base k f fd ps sp) (h : ∀ vs H Q E, sp' vs H Q E → sp vs H Q E) : FnG P w K mg base k f fd ps sp' :=
  ⟨fun vs H Q E q => F.len vs H Q E (h _ _ _ _ q), fun A outer s H args us vs Q E hg hr e b r q => F.run A outer s H args us vs Q E hg hr e b r (h _ _ _ _ q)⟩
theorem FnG.of {k : Nat} {f : Addr} {fd : FuncData} {ps : List Str} {sp : Sp} (F : FnOk P w K mg base (L2.CX P w) k f fd ps sp) : FnG P w K mg base k f fd ps sp :=
  ⟨F.len, fun A outer s H args us vs Q E _ hr => F.run A outer s H args us vs Q E hr⟩
end
end Rt
namespace Rt
open PySem PySem.Spec PyProof.Rows L2
section
variable {P : Program} {w : World} {K : PySem.W.Frag} {mg : Str → Option Value} {base : Heap}
/-- a def's body keeps its promise; the guards are told -/
theorem fn_ofG {k : Nat} {f : Addr} {name qual : Str} {params : Arguments} {body : List Stmt} {scope : Scope} {dV kV doc pm cdv ct oc : Value} {an od : Option Addr}
    {osl : Array (Option Value)} {N ps : List Str} {sp : Sp} (lk : K.lookup f = some ⟨oc, od, .func (PySem.W.fnOf name qual params body scope dV kV doc pm an cdv ct), osl⟩) (hcd : PySem.W.codeIn K cdv qual = true) (S : FnScope N ps scope)
    (len : ∀ vs H Q E, sp vs H Q E → vs.length = ps.length)
    (hbody : ∀ (A : Around) (outer : List Env) (s : Shared) (H : Hp) (vs : List V) (Q : VK) (E : XK), A.guards = some [] → Room k (A.deeper (envOfC qual scope s.heap.objs.size f cdv)) → sp vs H Q E →
      ∃ t, PSs (cxOf (L2.CX P w) P w K mg base N qual scope f cdv A outer s H E) body t ∧ t { nx := fun _ H' => Q .non H', rt := Q } (start N vs) H) :
    FnG P w K mg base (k + 1) f (PySem.W.fnOf name qual params body scope dV kV doc pm an cdv ct) ps sp := by
  refine ⟨len, fun A outer s H args us vs Q E hg hr e0 hb r hsp => ?_⟩
  have hl := len _ _ _ _ hsp
  have KX : K.In s.heap := e0.mod.kin.keeps fun b o e => (e0.bs b o e).1
  have lim : s.heap.NoLimit := e0.mod.nolimit.keeps fun b o e => (e0.bs b o e).1
  have hkind : ∀ y ∈ ps.zip us, scope.names.lookup y.1 = some .local ∨ (scope.names.lookup y.1 = some .cell ∧ ((cellsFrom (s.heap.objs.size + 1) scope.names []).lookup y.1).isSome = true) := fun ⟨n, v⟩ hy => by
    rcases S.par n (List.of_mem_zip hy).1 with q | q
    · exact .inl q
    · exact .inr ⟨q, PySem.W.cellsFrom_some _ _ _ (.inl q)⟩
  refine codeAny_call_function hr.depth (KX _ _ lk) rfl S.co S.gen rfl (PySem.W.codeRec_of KX hcd) (hb _ _ _ _ ?_)
  refine wpAny_newFunctionEnv_cells S.kind hkind fun env he s1 x => ?_
  subst he
  refine ⟨lim.keeps x.toInCall.keep, codeAny_func ?_⟩
  obtain ⟨t, ht, hq⟩ := hbody A outer s H vs Q E hg (hr.deeper _) hsp
  have I : Inv (cxOf (L2.CX P w) P w K mg base N qual scope f cdv A outer s H E) [] (start N vs) H s1 := inv_start S hr.hd e0 hl r x
  refine wpAny_mono (ht.run [] s1 (start N vs) H _ I hq) (fun fl s' hs => ?_) fun e s' hs => hs
  have fin : ∀ {σ' : L2.St} {H' : Hp} {v : V} {u : Value}, Inv (cxOf (L2.CX P w) P w K mg base N qual scope f cdv A outer s H E) [] σ' H' s' → RelV v u → Q v H' → CE outer P w H s Q u s' :=
    fun {σ' H' v u} J rv q => ⟨v, H', J.os, J.bare, J.base, J.hok, rv, q⟩
  cases fl with
  | ret u =>
    obtain ⟨v, σ', H', J, rv, q⟩ := hs
    exact fin J rv q
  | next =>
    obtain ⟨σ', H', J, q⟩ := hs
    exact fin (v := V.non) (u := Value.none) J rfl q
  | brk =>
    obtain ⟨_, _, _, q⟩ := hs
    exact False.elim q
  | cont =>
    obtain ⟨_, _, _, q⟩ := hs
    exact False.elim q
end
/-! ### a def of the text, with its defaults -/
abbrev FnD (K : PySem.W.Frag) (x qual : Str) (st : Stmt) (dvs : List V) (f : Addr) (fd : FuncData) : Prop := FunD K x qual (defArgs st) (defBody st) (defScope st) dvs [] f fd
section
variable {P : Program} {w : World} {K : PySem.W.Frag} {mg : Str → Option Value} {base : Heap}
theorem okG {x qual : Str} {st : Stmt} {dvs : List V} {f : Addr} {fd : FuncData} {N ps : List Str} {k : Nat} {sp : Sp} (F : FnD K x qual st dvs f fd) (S : FnScope N ps (defScope st)) (len : ∀ vs H Q E, sp vs H Q E → vs.length = ps.length)
    (hbody : ∀ (cdv : Value) (A : Around) (outer : List Env) (s : Shared) (H : Hp) (vs : List V) (Q : VK) (E : XK), A.guards = some [] → Room k (A.deeper (envOfC qual (defScope st) s.heap.objs.size f cdv)) → sp vs H Q E →
      ∃ t, PSs (cxOf (L2.CX P w) P w K mg base N qual (defScope st) f cdv A outer s H E).nox (defBody st) t ∧ t { nx := fun _ H' => Q .non H', rt := Q } (start N vs) H) : FnG P w K mg base (k + 1) f fd ps sp := by
  obtain ⟨oc, od, dV, kV, doc, pm, an, cdv, ct, osl, rfl, lk, hcd, _, _⟩ := F.ex
  refine fn_ofG lk hcd S len fun A outer s H vs Q E hg hr hsp => ?_
  obtain ⟨t, h, q⟩ := hbody cdv A outer s H vs Q E hg hr hsp
  exact ⟨t, h.nox, q⟩
theorem okF {x qual : Str} {st : Stmt} {dvs : List V} {f : Addr} {fd : FuncData} {N ps : List Str} {k : Nat} {sp : Sp} (F : FnD K x qual st dvs f fd) (S : FnScope N ps (defScope st)) (len : ∀ vs H Q E, sp vs H Q E → vs.length = ps.length)
    (hbody : ∀ (cdv : Value) (A : Around) (outer : List Env) (s : Shared) (H : Hp) (vs : List V) (Q : VK) (E : XK), Room k (A.deeper (envOfC qual (defScope st) s.heap.objs.size f cdv)) → sp vs H Q E →
      ∃ t, PSs (cxOf (L2.CX P w) P w K mg base N qual (defScope st) f cdv A outer s H E).nox (defBody st) t ∧ t { nx := fun _ H' => Q .non H', rt := Q } (start N vs) H) : FnOk P w K mg base (L2.CX P w) (k + 1) f fd ps sp := by
  refine F.ok S len fun cdv A outer s H vs Q E hr hsp => ?_
  obtain ⟨t, h, q⟩ := hbody cdv A outer s H vs Q E hr hsp
  exact ⟨t, h.nox, q⟩
/-- a def of the module, by its name -/
structure Gd (P : Program) (w : World) (K : PySem.W.Frag) (mg : Str → Option Value) (base : Heap) (k : Nat) (x : Str) (sp : Sp) : Prop where
  ex : ∃ f fd ps, FnOk P w K mg base (L2.CX P w) k f fd ps sp ∧ mg x = some (.ref f) ∧ PySem.W.keepIn K (.ref f) = true ∧ Binds K fd ps []
/-- the same where the guards must be told -/
structure Gg (P : Program) (w : World) (K : PySem.W.Frag) (mg : Str → Option Value) (base : Heap) (k : Nat) (x : Str) (sp : Sp) : Prop where
  ex : ∃ f fd ps, FnG P w K mg base k f fd ps sp ∧ mg x = some (.ref f) ∧ PySem.W.keepIn K (.ref f) = true ∧ Binds K fd ps []
end
section
variable {X : Cx} {k j : Nat} {x : Str} {sp : Sp} {E : XK} {p pos : Pos} {e : Expr} {es : List Expr} {t : TA}
theorem pe_gd (c : Gd X.prog X.w X.K X.mg X.base k x sp) (hr : Room j X.A) (ha : PA X (e :: es) t) (hg : Gl X x := by rfl) (hk : k ≤ j := by decide)
    (hdb : (x == ("__debug__" : Str)) = false := by decide) (he : starEach (e :: es) X.env = (false, eval e X.env) :: starEach es X.env := by rfl) (hpl : (backTo pos (starEach es X.env)).any (·.1) = false := by rfl) :
    PE X (.Call (.Name x p) (e :: es) [] pos) (tCall sp [] E0 t) := by
  obtain ⟨f, fd, ps, F, m, kp, b⟩ := c.ex
  exact pe_call F (hr.mono hk) hg m kp b .nil passL ha hdb he hpl
theorem pe_gd0 (c : Gd X.prog X.w X.K X.mg X.base k x sp) (hr : Room j X.A) (hg : Gl X x := by rfl) (hk : k ≤ j := by decide)
    (hdb : (x == ("__debug__" : Str)) = false := by decide) : PE X (.Call (.Name x p) [] [] pos) (tCall sp [] E0 tNil) := by
  obtain ⟨f, fd, ps, F, m, kp, b⟩ := c.ex
  exact pe_call0 F (hr.mono hk) hg m kp b .nil passL hdb
theorem run_fnG {pins : List (Addr × Obj)} {σ : L2.St} {H : Hp} {s : Shared} {Q : VK} {f : Addr} {fd : FuncData} {ps : List Str} {us : List Value} {vs : List V} (F : FnG X.prog X.w X.K X.mg X.base k f fd ps sp) (hG : X.A.guards = some []) (hr : Room k X.A) (hb : Binds X.K fd ps [])
    (I : Inv X pins σ H s) (r : Vals vs us) (h : sp vs H Q E0) : wpAny (model X.prog X.w) X.A (call (.ref f) us) (EP X pins σ Q) X.xe s := by
  have hl : us.length = ps.length := by rw [← r.length]; exact F.len _ _ _ _ h
  refine wpAny_call (codeAny_mono (F.run X.A X.stack s H ⟨us, []⟩ us vs Q E0 hG hr I.env0 (by have := hb s us I.kIn (by simpa using hl); simpa using this) r h) fun r s' hq => ?_)
  cases r with
  | error e => exact passL pins σ H s e s' I hq
  | ok fl =>
    cases fl with
    | ret u => exact I.after hq
    | next => exact False.elim hq
    | brk => exact False.elim hq
    | cont => exact False.elim hq
theorem pe_gg (c : Gg X.prog X.w X.K X.mg X.base k x sp) (hG : X.A.guards = some []) (hr : Room j X.A) (ha : PA X (e :: es) t) (hg : Gl X x := by rfl) (hk : k ≤ j := by decide)
    (hdb : (x == ("__debug__" : Str)) = false := by decide) (he : starEach (e :: es) X.env = (false, eval e X.env) :: starEach es X.env := by rfl) (hpl : (backTo pos (starEach es X.env)).any (·.1) = false := by rfl) :
    PE X (.Call (.Name x p) (e :: es) [] pos) (tCall sp [] E0 t) := by
  obtain ⟨f, fd, ps, F, m, kp, b⟩ := c.ex
  refine ⟨fun pins s σ H Q I h => ?_⟩
  refine wpAny_Call_Name_kw (ld_glob I hg m ?_ hdb)
  refine PySem.W.callWith_K (h₀ := X.base) I.ok.mod.kin kp (thn (ha.run pos pins s σ H _ I h) fun us s1 ⟨vs, H1, I1, r, q⟩ => ⟨I1.kIn, ?_⟩) he hpl
  have q' : sp vs H1 Q E0 := by
    have q0 : sp (vs ++ []) H1 Q E0 := q
    rw [List.append_nil] at q0
    exact q0
  exact run_fnG F hG (hr.mono hk) b I1 r q'
end
end Rt
/-! ### the head's facts: any tests of the written part, and the defs -/
namespace Rt
open PySem PySem.Spec PyProof.Rows L2 He
def obsR (fx : List (PySem.W.Frag → Bool)) (fn : List He5.DefA) (K : PySem.W.Frag) : He.AlD := ((fx.all fun f => f K) && fn.all fun d => d.ok K, fn.map fun d => He5.fnA K (d.at_ K))
def SaysR (fx : List (PySem.W.Frag → Bool)) (fn : List He5.DefA) (K : PySem.W.Frag) : Prop := obsR fx fn K = He5.valA fn
def obsRG (n : Nat) (fx : List (PySem.W.Frag → Bool)) (fn : List He5.DefA) (g : Addr → Option Obj) : He.AlD := obsR fx fn (frG g (He5.asA g n))
def hookR (n : Nat) (fx : List (PySem.W.Frag → Bool)) (fn : List He5.DefA) : PySem.W.Hook where
  α := He.AlD
  obs := fun s => obsRG n fx fn s.heap.get?
  val := fun _ => He5.valA fn
  says := fun _ h => ∃ K : PySem.W.Frag, K.In h ∧ SaysR fx fn K
  of := fun _ _ e => ⟨_, frG_in, e⟩
  keeps := fun _ _ _ ⟨K, hK, c⟩ k => ⟨K, PySem.W.Frag.In.keeps hK k, c⟩
theorem obsRG_eq {n : Nat} {fx : List (PySem.W.Frag → Bool)} {fn : List He5.DefA} {g : Addr → Option Obj} {s : Shared} (h : ∀ a, g a = s.heap.get? a) : obsRG n fx fn g = (hookR n fx fn).obs s := by
  have e : g = s.heap.get? := funext h
  rw [e] <;> rfl
section
variable {fx : List (PySem.W.Frag → Bool)} {fn : List He5.DefA} {K : PySem.W.Frag}
theorem SaysR.fact (c : SaysR fx fn K) (i : Nat) {f : PySem.W.Frag → Bool} (h : fx[i]? = some f := by rfl) : f K = true := by
  have c1 := (ba (show ((fx.all fun f => f K) && fn.all fun d => d.ok K) = true from congrArg (fun z : He.AlD => z.1) c)).1
  exact List.all_eq_true.mp c1 f (List.mem_of_getElem? h)
theorem SaysR.def_ (c : SaysR fx fn K) (i : Nat) {d : He5.DefA} (h : fn[i]? = some d := by rfl) : ∃ fd, L2.FunD K d.name d.qual d.params d.body d.scope (d.dvs K) (d.kws K) (d.at_ K) fd := by
  have c2 := (ba (show ((fx.all fun f => f K) && fn.all fun d => d.ok K) = true from congrArg (fun z : He.AlD => z.1) c)).2
  have e : fn.map (fun d => He5.fnA K (d.at_ K)) = fn.map He5.DefA.val := congrArg (fun z : He.AlD => z.2) c
  have e2 : (fn.map fun d => He5.fnA K (d.at_ K))[i]? = (fn.map He5.DefA.val)[i]? := by rw [e]
  rw [List.getElem?_map, List.getElem?_map, h] at e2
  exact He5.DefA.funD (Option.some.inj e2) (List.all_eq_true.mp c2 d (List.mem_of_getElem? h))
end
/-! ### tests of the written part -/
def fGlo (x : Str) (K : PySem.W.Frag) : Bool := (Fa.glo x).ok K
def fFree (x : Str) (K : PySem.W.Frag) : Bool := (Fa.free x).ok K
def fCls (x : Str) (K : PySem.W.Frag) : Bool := (Fa.cls x).ok K
def fNo (x f : Str) (K : PySem.W.Frag) : Bool := (Fa.noat x f).ok K
def fMeth (x m : Str) (K : PySem.W.Frag) : Bool := (Fa.meth x m).ok K
def fMk (x : Str) (K : PySem.W.Frag) : Bool := (Fa.mkr x).ok K
/-- the class has the name as this built-in -/
def fBlt (x m : Str) (id : String) (K : PySem.W.Frag) : Bool := eqO (PySem.W.findIn K (.ref (ga K x)) m) (some (some (.builtin id)))
/-- a property's getter -/
def pgA (K : PySem.W.Frag) (x f : Str) : Addr := match PySem.W.recIn K (ma K (ga K x) f) "property" with
  | some (.ref g :: _) => g
  | _ => 0
def fProp (x f : Str) (K : PySem.W.Frag) : Bool := eqO (PySem.W.findIn K (.ref (ga K x)) f) (some (some (.ref (ma K (ga K x) f)))) && (eqO (PySem.W.specialIn K (.ref (ma K (ga K x) f)) "__get__") (some (some (.builtin "property.__get__"))) &&
  (decide (PySem.W.takesIn K (.ref (ma K (ga K x) f)) = some true) && (match PySem.W.recIn K (ma K (ga K x) f) "property" with
    | some (.ref _ :: _) => true
    | _ => false)))
theorem fProp_ok {K : PySem.W.Frag} {x f : Str} (h : fProp x f K = true) : PropOf K (ga K x) f (ma K (ga K x) f) (pgA K x f) := by
  obtain ⟨h1, h⟩ := ba h
  obtain ⟨h2, h⟩ := ba h
  obtain ⟨h3, h4⟩ := ba h
  refine ⟨eqO_ok h1, eqO_ok h2, of_decide_eq_true h3, ?_⟩
  unfold pgA
  split at h4
  · rename_i g r e
    exact ⟨r, by rw [e]⟩
  · cases h4
/-- instances of the class are told by isinstance -/
def fIsi (x : Str) (K : PySem.W.Frag) : Bool := eqO (PySem.W.findIn K (.ref (ga K x)) "__class__") (some (some (.builtin "object.__class__"))) && (eqO (PySem.W.specialIn K (.builtin "object.__class__") "__get__") (some (some (.builtin "getset_descriptor.__get__"))) &&
  (decide (PySem.W.takesIn K (.builtin "object.__class__") = some true) && decide (PySem.W.mroIn K (ga K x) (.type "object") = some true)))
theorem fIsi_ok {K : PySem.W.Frag} {x : Str} (h : fIsi x K = true) (c : Cls K (ga K x)) {H : Hp} {a dx : Addr} {fs : List (Str × V)} (e : H a = some (.ins (ga K x) dx fs)) : TyOf K H (.ref a) (.ref (ga K x)) := by
  obtain ⟨h1, h⟩ := ba h
  obtain ⟨h2, h⟩ := ba h
  obtain ⟨h3, h4⟩ := ba h
  exact .ins e c (eqO_ok h1) (eqO_ok h2) (of_decide_eq_true h3) (of_decide_eq_true h4)
/-- isinstance's answer: a value of the type t, the class at c -/
def fKit (t u : PySem.W.Frag → Value) (b : Bool) (K : PySem.W.Frag) : Bool := decide (PySem.W.kitOne K (t K) (u K) = some b)
theorem fKit_ok {K : PySem.W.Frag} {t u : PySem.W.Frag → Value} {b : Bool} (h : fKit t u b K = true) : PySem.W.kitOne K (t K) (u K) = some b := of_decide_eq_true h
def oC (x : Str) (K : PySem.W.Frag) : Value := .ref (ga K x)
def oT (n : String) (_ : PySem.W.Frag) : Value := .type n
end Rt
namespace Rt
open PySem PySem.Spec PyProof.Rows L2 He
def fSub (t u : PySem.W.Frag → Value) (b : Bool) (K : PySem.W.Frag) : Bool := decide (PySem.W.subIn K (t K) (u K) = some b)
def fIntC (x : Str) (i : Int) (K : PySem.W.Frag) : Bool := (Fa.int x i).ok K
def fStrC (x z : Str) (K : PySem.W.Frag) : Bool := (Fa.str x z).ok K
end Rt
/-! ### own operators of an instance: ==, !=, truth, str, repr -/
namespace Rt
open PySem PySem.Spec PyProof.Rows L2 PySem.W
open AutoSeq1 (wpAny_loadPart')
open MeetsSeq MeetsSeq2 MeetsSeq3 SeqRoads2
section
variable {prog : Program} {w : World} {A : Around} {E : Value → Shared → Prop} {s : Shared} {K : Frag} {b C : Addr} {dx : Addr}
/-- what the built-ins see of an instance of an own class -/
theorem asInt_ins {h : Heap} {g d t os} {Q : Option Int → Shared → Prop} (hb : h.get? b = some (instObj C dx)) (q : Q none ⟨h, g, d, t, os⟩) : wpAny (model prog w) A (asInt? (.ref b)) Q E ⟨h, g, d, t, os⟩ := by
  unfold asInt?
  exact wpAny_bind (wpAny_load hb (wpAny_pure q))
theorem asStr_ins {h : Heap} {g d t os} {Q : Option Str → Shared → Prop} (hb : h.get? b = some (instObj C dx)) (q : Q none ⟨h, g, d, t, os⟩) : wpAny (model prog w) A (asStr? (.ref b)) Q E ⟨h, g, d, t, os⟩ := by
  unfold asStr?
  exact wpAny_bind (wpAny_load hb (wpAny_pure q))
theorem isI_ins {h : Heap} {g d t os} {T : String} {Q : Bool → Shared → Prop} (X : K.In h) (hb : h.get? b = some (instObj C dx)) (hs : subIn K (.ref C) (.type T) = some false) (q : Q false ⟨h, g, d, t, os⟩) : wpAny (model prog w) A (isInstance (.ref b) (.type T)) Q E ⟨h, g, d, t, os⟩ := by
  unfold isInstance
  refine wpAny_bind (wpAny_typeOf_ref hb ?_)
  exact (looks_subIn X hs).here q
theorem eq_int {i : Int} {t : Tok} {Q : Value → Shared → Prop} (hb : s.heap.get? b = some (instObj C dx)) (q : Q .notImplemented s) :
    wpAny (model prog w) A (call (.builtin "int.__eq__") [.int i t, .ref b]) Q E s := by
  refine GQ.call_here PySem.F.slot_int_eq (typeIs_int _ _ _) PySem.F.entry_int_eq (PySem.F.args_int_eq_2 _ _) ?_
  obtain ⟨hp, g, d, tk, os⟩ := s
  wp_walk using asInt_ins hb
  exact q
theorem eq_bool {i : Bool} {Q : Value → Shared → Prop} (hb : s.heap.get? b = some (instObj C dx)) (q : Q .notImplemented s) :
    wpAny (model prog w) A (call (.builtin "int.__eq__") [.bool i, .ref b]) Q E s := by
  refine GQ.call_here PySem.F.slot_bool_eq rfl PySem.F.entry_int_eq (PySem.F.args_int_eq_2 _ _) ?_
  obtain ⟨hp, g, d, tk, os⟩ := s
  wp_walk using asInt_ins hb
  exact q
theorem eq_str {i : Str} {t : Tok} {Q : Value → Shared → Prop} (hb : s.heap.get? b = some (instObj C dx)) (q : Q .notImplemented s) :
    wpAny (model prog w) A (call (.builtin "str.__eq__") [.str i t, .ref b]) Q E s := by
  refine GQ.call_here PySem.F.slot_str_eq (typeIs_str _ _ _) PySem.F.entry_str_eq (PySem.F.args_str_eq_2 _ _) ?_
  obtain ⟨hp, g, d, tk, os⟩ := s
  wp_walk using asStr_ins hb
  exact q
theorem eq_none {Q : Value → Shared → Prop} (q : Q .notImplemented s) :
    wpAny (model prog w) A (call (.builtin "NoneType.__eq__") [.none, .ref b]) Q E s := by
  refine GQ.call_here PySem.F.slot_NoneType_eq rfl PySem.F.entry_NoneType_eq (PySem.F.args_NoneType_eq_2 _ _) ?_
  obtain ⟨hp, g, d, tk, os⟩ := s
  wp_walk
  exact q
theorem eq_list {l : Addr} {its : Array Value} {n : Nat} {Q : Value → Shared → Prop} (X : K.In s.heap) (hl : s.heap.get? l = some { cls := .type "list", data := .seq its n }) (hb : s.heap.get? b = some (instObj C dx)) (hs : subIn K (.ref C) (.type "list") = some false) (q : Q .notImplemented s) :
    wpAny (model prog w) A (call (.builtin "list.__eq__") [.ref l, .ref b]) Q E s := by
  refine GQ.call_here PySem.F.slot_list_eq ⟨_, hl, rfl⟩ PySem.F.entry_list_eq (PySem.F.args_list_eq_2 _ _) ?_
  obtain ⟨hp, g, d, tk, os⟩ := s
  wp_walk using isI_ins X hb hs
  exact q
theorem eq_tuple {l : Addr} {o : Obj} {Q : Value → Shared → Prop} (X : K.In s.heap) (hl : s.heap.get? l = some o) (hc : o.cls = .type "tuple") (hb : s.heap.get? b = some (instObj C dx)) (hs : subIn K (.ref C) (.type "tuple") = some false) (q : Q .notImplemented s) :
    wpAny (model prog w) A (call (.builtin "tuple.__eq__") [.ref l, .ref b]) Q E s := by
  refine GQ.call_here PySem.F.slot_tuple_eq ⟨_, hl, hc⟩ PySem.F.entry_tuple_eq (PySem.F.args_tuple_eq_2 _ _) ?_
  obtain ⟨hp, g, d, tk, os⟩ := s
  wp_walk using isI_ins X hb hs
  exact q
theorem eq_dict {l : Addr} {o : Obj} {Q : Value → Shared → Prop} (X : K.In s.heap) (hl : s.heap.get? l = some o) (hc : o.cls = .type "dict") (hb : s.heap.get? b = some (instObj C dx)) (hs : subIn K (.ref C) (.type "dict") = some false) (q : Q .notImplemented s) :
    wpAny (model prog w) A (call (.builtin "dict.__eq__") [.ref l, .ref b]) Q E s := by
  refine GQ.call_here PySem.F.slot_dict_eq ⟨_, hl, hc⟩ PySem.F.entry_dict_eq (PySem.F.args_dict_eq_2 _ _) ?_
  obtain ⟨hp, g, d, tk, os⟩ := s
  wp_walk using isI_ins X hb hs
  exact q
theorem ne_int {i : Int} {t : Tok} {Q : Value → Shared → Prop} (hb : s.heap.get? b = some (instObj C dx)) (q : Q .notImplemented s) :
    wpAny (model prog w) A (call (.builtin "int.__ne__") [.int i t, .ref b]) Q E s := by
  refine GQ.call_here PySem.F.slot_int_ne (typeIs_int _ _ _) PySem.F.entry_int_ne (PySem.F.args_int_ne_2 _ _) ?_
  obtain ⟨hp, g, d, tk, os⟩ := s
  wp_walk using asInt_ins hb
  exact q
theorem ne_bool {i : Bool} {Q : Value → Shared → Prop} (hb : s.heap.get? b = some (instObj C dx)) (q : Q .notImplemented s) :
    wpAny (model prog w) A (call (.builtin "int.__ne__") [.bool i, .ref b]) Q E s := by
  refine GQ.call_here PySem.F.slot_bool_ne rfl PySem.F.entry_int_ne (PySem.F.args_int_ne_2 _ _) ?_
  obtain ⟨hp, g, d, tk, os⟩ := s
  wp_walk using asInt_ins hb
  exact q
theorem ne_str {i : Str} {t : Tok} {Q : Value → Shared → Prop} (hb : s.heap.get? b = some (instObj C dx)) (q : Q .notImplemented s) :
    wpAny (model prog w) A (call (.builtin "str.__ne__") [.str i t, .ref b]) Q E s := by
  refine GQ.call_here PySem.F.slot_str_ne (typeIs_str _ _ _) PySem.F.entry_str_ne (PySem.F.args_str_ne_2 _ _) ?_
  obtain ⟨hp, g, d, tk, os⟩ := s
  wp_walk using asStr_ins hb
  exact q
theorem ne_none {Q : Value → Shared → Prop} (q : Q .notImplemented s) :
    wpAny (model prog w) A (call (.builtin "NoneType.__ne__") [.none, .ref b]) Q E s := by
  refine GQ.call_here PySem.F.slot_NoneType_ne rfl PySem.F.entry_NoneType_ne (PySem.F.args_NoneType_ne_2 _ _) ?_
  obtain ⟨hp, g, d, tk, os⟩ := s
  wp_walk
  exact q
theorem ne_list {l : Addr} {its : Array Value} {n : Nat} {Q : Value → Shared → Prop} (X : K.In s.heap) (hl : s.heap.get? l = some { cls := .type "list", data := .seq its n }) (hb : s.heap.get? b = some (instObj C dx)) (hs : subIn K (.ref C) (.type "list") = some false) (q : Q .notImplemented s) :
    wpAny (model prog w) A (call (.builtin "list.__ne__") [.ref l, .ref b]) Q E s := by
  refine GQ.call_here PySem.F.slot_list_ne ⟨_, hl, rfl⟩ PySem.F.entry_list_ne (PySem.F.args_list_ne_2 _ _) ?_
  obtain ⟨hp, g, d, tk, os⟩ := s
  wp_walk using isI_ins X hb hs
  exact q
theorem ne_tuple {l : Addr} {o : Obj} {Q : Value → Shared → Prop} (X : K.In s.heap) (hl : s.heap.get? l = some o) (hc : o.cls = .type "tuple") (hb : s.heap.get? b = some (instObj C dx)) (hs : subIn K (.ref C) (.type "tuple") = some false) (q : Q .notImplemented s) :
    wpAny (model prog w) A (call (.builtin "tuple.__ne__") [.ref l, .ref b]) Q E s := by
  refine GQ.call_here PySem.F.slot_tuple_ne ⟨_, hl, hc⟩ PySem.F.entry_tuple_ne (PySem.F.args_tuple_ne_2 _ _) ?_
  obtain ⟨hp, g, d, tk, os⟩ := s
  wp_walk using isI_ins X hb hs
  exact q
theorem ne_dict {l : Addr} {o : Obj} {Q : Value → Shared → Prop} (X : K.In s.heap) (hl : s.heap.get? l = some o) (hc : o.cls = .type "dict") (hb : s.heap.get? b = some (instObj C dx)) (hs : subIn K (.ref C) (.type "dict") = some false) (q : Q .notImplemented s) :
    wpAny (model prog w) A (call (.builtin "dict.__ne__") [.ref l, .ref b]) Q E s := by
  refine GQ.call_here PySem.F.slot_dict_ne ⟨_, hl, hc⟩ PySem.F.entry_dict_ne (PySem.F.args_dict_ne_2 _ _) ?_
  obtain ⟨hp, g, d, tk, os⟩ := s
  wp_walk using isI_ins X hb hs
  exact q
end
/-! ### == and != where one side is an instance of an own class -/
section
variable {prog : Program} {w : World} {A : Around} {E : Value → Shared → Prop} {s : Shared} {K : Frag} {x C f : Addr} {ox : Obj} {od : Option Obj} {name : Str} {b tb : Value}
theorem ifBound_B {B : String} {nm : Str} {id : String} {M : Model} {args : List Value} {Q : Option Value → Shared → Prop} (X : K.In s.heap) (I : InstAt s.heap x ox C od) (hs : findIn K (.ref C) name = some (some (.builtin id))) (S : Slot B nm id)
    (h : wpAny M A (call (.builtin id) (.ref x :: args)) (fun v => Q (some v)) E s) : wpAny M A (callSpecialIfBound? (.ref x) name args) Q E s := by
  simp only [callSpecialIfBound?, bindSpecialIfBound?]
  refine wpAny_holding (wpAny_bind (wpAny_bind (wpAny_bind (I.type.here ((looks_findIn X hs).here ?_)))))
  simp only [S.bind]
  refine wpAny_bind (wpAny_askSetting (wpAny_ite ?_))
  have fin : wpAny M A (call (.builtin id) ([.ref x] ++ args) >>= fun v => pure (some v)) Q E s := wpAny_bind (wpAny_mono h (fun v s' h' => wpAny_pure h') fun _ _ h' => h')
  split
  · exact wpAny_bind (wpAny_pure (wpAny_pure fin))
  · exact wpAny_tryCatch (wpAny_bind (wpAny_pure (wpAny_pure fin)))
open Builtin in
theorem call_objNe {v : Value} {Q : Value → Shared → Prop} (hu : A.in1.units < cLine) (X : K.In s.heap) (I : InstAt s.heap x ox C od) (hm : subIn K (.ref C) (.type "object") = some true) (hs : findIn K (.ref C) "__eq__" = some (some (.ref f))) (hf : isFn K (.ref f) = true)
    (h : wpAny (model prog w) A.in1 (call (.ref f) [.ref x, v]) (fun r s' => ∃ c, r = .bool c ∧ Q (.bool (!c)) s') E s) : wpAny (model prog w) A (call (.builtin "object.__ne__") [.ref x, v]) Q E s := by
  refine wpAny_call (codeAny_call_builtin PySem.F.cmp_object.ne.plain PySem.F.cmpEntry_ne (check_slot (i := "object.__ne__") (owner := "object") (n := "__ne__") PySem.F.cmpKind_ne PySem.F.cmpSplit_ne (I.type.andThen (looks_subIn X hm)) (PySem.F.cmpArgs_ne _ _) ?_))
  unfold Builtin.«object.__ne__»
  refine wpAny_bind (m := slotArgs "__ne__" 1 _) (wpAny_pure ?_)
  refine wpAny_bind (m := cRoomFor _ _) (wpAny_cRoomFor hu ?_)
  refine wpAny_bind (m := callSpecialIfBound? (.ref x) (Str.ofString "__eq__") _) (ifBound_K X I hs hf (wpAny_mono h (fun r s' hr => ?_) fun _ _ y => y))
  obtain ⟨c, rfl, q⟩ := hr
  refine wpAny_bind (m := truthy _) (wpAny_truthy_bool ?_)
  exact wpAny_pure q
theorem try_own {nm : Str} {Q : Option Value → Shared → Prop} (X : K.In s.heap) (I : InstAt s.heap x ox C od) (hs : findIn K (.ref C) nm = some (some (.ref f))) (hf : isFn K (.ref f) = true)
    (h : wpAny (model prog w) A (call (.ref f) [.ref x, b]) (fun v s' => ∃ c, v = .bool c ∧ Q (some (.bool c)) s') E s) : wpAny (model prog w) A (tryCompare (.ref x) nm b) Q E s := by
  unfold tryCompare
  refine wpAny_bind (ifBound_K X I hs hf (wpAny_mono h (fun v s' hv => ?_) fun _ _ e => e))
  obtain ⟨c, rfl, q⟩ := hv
  exact wpAny_pure q
theorem try_ne {Q : Option Value → Shared → Prop} (hu : A.in1.units < cLine) (X : K.In s.heap) (I : InstAt s.heap x ox C od) (hn : findIn K (.ref C) "__ne__" = some (some (.builtin "object.__ne__"))) (hm : subIn K (.ref C) (.type "object") = some true)
    (hs : findIn K (.ref C) "__eq__" = some (some (.ref f))) (hf : isFn K (.ref f) = true)
    (h : wpAny (model prog w) A.in1 (call (.ref f) [.ref x, b]) (fun v s' => ∃ c, v = .bool c ∧ Q (some (.bool (!c))) s') E s) : wpAny (model prog w) A (tryCompare (.ref x) "__ne__" b) Q E s := by
  unfold tryCompare
  refine wpAny_bind (ifBound_B X I hn PySem.F.cmp_object.ne (call_objNe hu X I hm hs hf (wpAny_mono h (fun v s' hv => ?_) fun _ _ e => e)))
  obtain ⟨c, rfl, q⟩ := hv
  exact ⟨c, rfl, wpAny_pure q⟩
/-- the instance stands at the left -/
theorem rc_left {op : CmpOp} {Q : Value → Shared → Prop} (hu : A.units < cLine) (X : K.In s.heap) (I : InstAt s.heap x ox C od) (hb : Looks (model prog w) s.heap (typeOf b) tb) (hn : notFirst K C tb = true)
    (one : wpAny (model prog w) A (tryCompare (.ref x) (cmpInfo op).2.1 b) (fun r s' => ∃ v, r = some v ∧ Q v s') E s) : wpAny (model prog w) A (richCompare op (.ref x) b) Q E s := by
  unfold richCompare
  simp only [oneThing_ref]
  refine wpAny_holding (wpAny_bind (wpAny_cRoomFor hu ?_))
  refine wpAny_bind (I.type.here (wpAny_bind (hb.here ?_)))
  split
  · rename_i q
    have e : subIn K tb (.ref C) = some false := by
      rcases Bool.or_eq_true_iff.mp hn with e | e
      · rw [beq_iff_eq.mp e] at q; simp at q
      · exact beq_iff_eq.mp e
    refine wpAny_bind ((looks_subIn X e).here ?_)
    simp only [Bool.false_eq_true, if_false]
    refine wpAny_bind (wpAny_mono one (fun r s' z => ?_) fun _ _ e => e)
    obtain ⟨v, rfl, hq⟩ := z
    exact wpAny_pure hq
  · refine wpAny_bind (wpAny_pure ?_)
    simp only [Bool.false_eq_true, if_false]
    refine wpAny_bind (wpAny_mono one (fun r s' z => ?_) fun _ _ e => e)
    obtain ⟨v, rfl, hq⟩ := z
    exact wpAny_pure hq
/-- the instance stands at the right of a built-in that declines -/
theorem rc_right {op : CmpOp} {T id : String} {u : Value} {Q : Value → Shared → Prop} (hu : A.units < cLine) (X : K.In s.heap) (I : InstAt s.heap x ox C od) (hT : s.TypeIs u T) (hn : subIn K (.ref C) (.type T) = some false) (S : Slot T (cmpInfo op).2.1 id)
    (dec : wpAny (model prog w) A (call (.builtin id) [u, .ref x]) (fun v s₁ => v = .notImplemented ∧ wpAny (model prog w) A (tryCompare (.ref x) (cmpInfo op).2.2 u) (fun r s' => ∃ v, r = some v ∧ Q v s') E s₁) E s) :
    wpAny (model prog w) A (richCompare op u (.ref x)) Q E s := by
  unfold richCompare
  simp only [hT.oneThing_none]
  refine wpAny_holding (wpAny_bind (wpAny_cRoomFor hu ?_))
  refine wpAny_bind (wpAny_typeOf hT (wpAny_bind (I.type.here ?_)))
  have hne : (Value.type T != Value.ref C) = true := by simp
  rw [if_pos hne]
  refine wpAny_bind ((looks_subIn X hn).here ?_)
  simp only [Bool.false_eq_true, if_false, Bool.not_false, if_true]
  refine wpAny_bind (m := tryCompare u _ _) (wpAny_tryCompare_declines hT S (wpAny_mono dec (fun v s₁ h₁ => ⟨h₁.1, ?_⟩) fun _ _ x => x))
  refine wpAny_bind (m := tryCompare (.ref x) _ _) (wpAny_mono h₁.2 (fun r s' z => ?_) fun _ _ e => e)
  obtain ⟨v, rfl, hq⟩ := z
  exact wpAny_pure hq
end
end Rt
/-! ### the same over the layer -/
namespace Rt
open PySem PySem.Spec PyProof.Rows L2
section
variable {X : Cx} {pins : List (Addr × Obj)} {σ : L2.St} {H : Hp} {s : Shared}
theorem ty_looks {M : Model} {x : V} {u t : Value} (I : Inv X pins σ H s) (rx : RelV x u) (ty : TyX X.K H x t) : PySem.W.Looks M s.heap (typeOf u) t := by
  cases ty with
  | base b =>
    cases b with
    | non => cases (show u = Value.none from rx); exact PySem.W.Looks.of_pure rfl
    | bl y => cases (show u = Value.bool y from rx); exact PySem.W.Looks.of_pure rfl
    | int i => obtain ⟨t, q⟩ := (show ∃ t, u = Value.int i t from rx); cases q; exact PySem.W.Looks.of_pure rfl
    | str y => obtain ⟨t, q⟩ := (show ∃ t, u = Value.str y t from rx); cases q; exact PySem.W.Looks.of_pure rfl
    | flt y => obtain ⟨t, q⟩ := (show ∃ t, u = Value.float y t from rx); cases q; exact PySem.W.Looks.of_pure rfl
    | @lst a xs ea =>
      cases (show u = Value.ref a from rx)
      obtain ⟨_, _, n, _, h1⟩ := (show ObjOk X.prog X.w H s.heap a (.lst xs) from I.hok a _ ea)
      exact (PySem.W.Looks.ld (part := none) h1).andThen .now
    | @frz a ob xs ea =>
      cases (show u = Value.ref a from rx)
      obtain ⟨_, _, _, n, _, h1⟩ := (show ObjOk X.prog X.w H s.heap a (.frz ob (.lst xs)) from I.hok a _ ea)
      exact (PySem.W.Looks.ld (part := none) h1).andThen .now
    | @tup a xs ea =>
      cases (show u = Value.ref a from rx)
      obtain ⟨_, _, _, o, h1, h2, _⟩ := (show ObjOk X.prog X.w H s.heap a (.tup xs) from I.hok a _ ea)
      rw [← h2]
      exact (PySem.W.Looks.ld (part := none) h1).andThen .now
    | @dK a kvs ea =>
      cases (show u = Value.ref a from rx)
      obtain ⟨_, _, vs, _, o, es, ep, h1, h2, _⟩ := (show ObjOk X.prog X.w H s.heap a (.dK kvs) from I.hok a _ ea)
      rw [← h2.1]
      exact (PySem.W.Looks.ld (part := none) h1).andThen .now
    | @dT a kvs ea =>
      cases (show u = Value.ref a from rx)
      obtain ⟨_, _, xs, _, o, es, ep, h1, h2, _⟩ := (show ObjOk X.prog X.w H s.heap a (.dT kvs) from I.hok a _ ea)
      rw [← h2.1]
      exact (PySem.W.Looks.ld (part := none) h1).andThen .now
    | @ins a C dx fs ea cl ha hn htk hm =>
      cases (show u = Value.ref a from rx)
      obtain ⟨mA, O, _⟩ := ins_get I.hok ea
      obtain ⟨od, J, _⟩ := O.look
      exact J.type
  | byt y => obtain ⟨t, q⟩ := (show ∃ t, u = Value.bytes y t from rx); cases q; exact PySem.W.Looks.of_pure rfl
  | @set a S n ea =>
    cases (show u = Value.ref a from rx)
    obtain ⟨o, _, _, _, e, ex, _⟩ := I.hok a _ ea
    rw [← ex.1]
    exact (PySem.W.Looks.ld (part := none) e).andThen .now
  | @kList a o e c =>
    cases (show u = Value.ref a from rx)
    rw [← c]
    exact (PySem.W.Looks.ld (part := none) (I.kIn a o e)).andThen .now
  | @kTuple a o e c =>
    cases (show u = Value.ref a from rx)
    rw [← c]
    exact (PySem.W.Looks.ld (part := none) (I.kIn a o e)).andThen .now
  | @kDict a o e c =>
    cases (show u = Value.ref a from rx)
    rw [← c]
    exact (PySem.W.Looks.ld (part := none) (I.kIn a o e)).andThen .now
  | @fTuple a ob xs ea =>
    cases (show u = Value.ref a from rx)
    obtain ⟨_, _, _, _, o, h1, h2, _⟩ := (show ObjOk X.prog X.w H s.heap a (.frz ob (.tup xs)) from I.hok a _ ea)
    rw [← h2]
    exact (PySem.W.Looks.ld (part := none) h1).andThen .now
  | @fDict a ob kvs ea =>
    cases (show u = Value.ref a from rx)
    obtain ⟨_, _, _, vs, _, o, es, ep, h1, h2, _⟩ := (show ObjOk X.prog X.w H s.heap a (.frz ob (.dK kvs)) from I.hok a _ ea)
    rw [← h2.1]
    exact (PySem.W.Looks.ld (part := none) h1).andThen .now
/-- a call of a def from within a built-in -/
theorem run_at {A : Around} {k : Nat} {f : Addr} {fd : FuncData} {ps : List Str} {sp : Sp} {E : XK} {Q : VK} {us : List Value} {vs : List V} (sb : Sub X k A) (F : FnOk X.prog X.w X.K X.mg X.base (L2.CX X.prog X.w) k f fd ps sp) (hb : Binds X.K fd ps []) (hx : Passes (L2.CX X.prog X.w) X E)
    (I : Inv X pins σ H s) (r : Vals vs us) (h : sp vs H Q E) : wpAny (model X.prog X.w) A (call (.ref f) us) (EP X pins σ Q) X.xe s := by
  have hl : us.length = ps.length := by rw [← r.length]; exact F.len _ _ _ _ h
  have e0 : Env0 X.prog X.w X.K X.mg X.base A X.stack s H := by
    have e := I.env0
    exact ⟨by rw [sb.fr]; exact e.frames, e.mod, e.bs, e.bsz, e.funs, e.frf, e.hok, e.bare⟩
  refine wpAny_call (codeAny_mono (F.run A X.stack s H ⟨us, []⟩ us vs Q E sb.room e0 (by have := hb s us I.kIn (by simpa using hl); simpa using this) r h) fun r s' hq => ?_)
  cases r with
  | error e => exact hx pins σ H s e s' I hq
  | ok fl =>
    cases fl with
    | ret u => exact I.after hq
    | next => exact False.elim hq
    | brk => exact False.elim hq
    | cont => exact False.elim hq
end
/-- a special method of the class at C -/
structure Sm (P : Program) (w : World) (K : PySem.W.Frag) (mg : Str → Option Value) (base : Heap) (k : Nat) (C : Addr) (m : Str) (sp : Sp) : Prop where
  ex : ∃ f fd ps, FnOk P w K mg base (L2.CX P w) k f fd ps sp ∧ PySem.W.findIn K (.ref C) m = some (some (.ref f)) ∧ PySem.W.isFn K (.ref f) = true ∧ PySem.W.keepIn K (.ref f) = true ∧ Binds K fd ps []
/-- what a built-in value is, that declines own instances -/
inductive Dec (H : Hp) : V → String → Prop where
  | non : Dec H .non "NoneType"
  | bl (b : Bool) : Dec H (.bl b) "bool"
  | int (i : Int) : Dec H (.int i) "int"
  | str (x : Str) : Dec H (.str x) "str"
  | lst {a : Addr} {xs : List V} (e : H a = some (.lst xs)) : Dec H (.ref a) "list"
  | tup {a : Addr} {xs : List V} (e : H a = some (.tup xs)) : Dec H (.ref a) "tuple"
  | dK {a : Addr} {kvs : List (Key × V)} (e : H a = some (.dK kvs)) : Dec H (.ref a) "dict"
section
variable {X : Cx} {pins : List (Addr × Obj)} {σ : L2.St} {H : Hp} {s : Shared}
theorem Sub.here {k : Nat} (hr : Room k X.A) : Sub X k X.A := ⟨hr, rfl⟩
theorem ins_at {a C dx : Addr} {fs : List (Str × V)} (I : Inv X pins σ H s) (e : H a = some (.ins C dx fs)) : ∃ od, PySem.W.InstAt s.heap a (PySem.W.instObj C dx) C (some od) := by
  obtain ⟨mA, O, _⟩ := ins_get I.hok e
  obtain ⟨od, J, _⟩ := O.look
  exact ⟨od, J⟩
/-- it declines, == and != -/
theorem Dec.run {A : Around} {E : Value → Shared → Prop} {x : V} {u : Value} {T : String} {b C dx : Addr} {fs : List (Str × V)} (d : Dec H x T) (I : Inv X pins σ H s) (rx : RelV x u) (eb : H b = some (.ins C dx fs)) (hs : PySem.W.subIn X.K (.ref C) (.type T) = some false) :
    s.TypeIs u T ∧ (∃ id, Slot T (cmpInfo .Eq).2.1 id ∧ ∀ Q : Value → Shared → Prop, Q .notImplemented s → wpAny (model X.prog X.w) A (call (.builtin id) [u, .ref b]) Q E s) ∧
      ∃ id, Slot T (cmpInfo .NotEq).2.1 id ∧ ∀ Q : Value → Shared → Prop, Q .notImplemented s → wpAny (model X.prog X.w) A (call (.builtin id) [u, .ref b]) Q E s := by
  obtain ⟨od, J⟩ := ins_at I eb
  have hb := J.at_
  cases d with
  | non =>
    cases (show u = Value.none from rx)
    exact ⟨rfl, ⟨_, PySem.F.slot_NoneType_eq, fun Q q => eq_none q⟩, ⟨_, PySem.F.slot_NoneType_ne, fun Q q => ne_none q⟩⟩
  | bl y =>
    cases (show u = Value.bool y from rx)
    exact ⟨rfl, ⟨_, PySem.F.slot_bool_eq, fun Q q => eq_bool hb q⟩, ⟨_, PySem.F.slot_bool_ne, fun Q q => ne_bool hb q⟩⟩
  | int i =>
    obtain ⟨t, q⟩ := (show ∃ t, u = Value.int i t from rx)
    cases q
    exact ⟨typeIs_int _ _ _, ⟨_, PySem.F.slot_int_eq, fun Q q => eq_int hb q⟩, ⟨_, PySem.F.slot_int_ne, fun Q q => ne_int hb q⟩⟩
  | str y =>
    obtain ⟨t, q⟩ := (show ∃ t, u = Value.str y t from rx)
    cases q
    exact ⟨typeIs_str _ _ _, ⟨_, PySem.F.slot_str_eq, fun Q q => eq_str hb q⟩, ⟨_, PySem.F.slot_str_ne, fun Q q => ne_str hb q⟩⟩
  | @lst a xs ea =>
    cases (show u = Value.ref a from rx)
    obtain ⟨_, _, n, _, h1⟩ := (show ObjOk X.prog X.w H s.heap a (.lst xs) from I.hok a _ ea)
    exact ⟨⟨_, h1, rfl⟩, ⟨_, PySem.F.slot_list_eq, fun Q q => eq_list I.kIn h1 hb hs q⟩, ⟨_, PySem.F.slot_list_ne, fun Q q => ne_list I.kIn h1 hb hs q⟩⟩
  | @tup a xs ea =>
    cases (show u = Value.ref a from rx)
    obtain ⟨_, _, _, o, h1, h2, _⟩ := (show ObjOk X.prog X.w H s.heap a (.tup xs) from I.hok a _ ea)
    exact ⟨⟨_, h1, h2⟩, ⟨_, PySem.F.slot_tuple_eq, fun Q q => eq_tuple I.kIn h1 h2 hb hs q⟩, ⟨_, PySem.F.slot_tuple_ne, fun Q q => ne_tuple I.kIn h1 h2 hb hs q⟩⟩
  | @dK a kvs ea =>
    cases (show u = Value.ref a from rx)
    obtain ⟨_, _, vs, _, o, es, ep, h1, h2, _⟩ := (show ObjOk X.prog X.w H s.heap a (.dK kvs) from I.hok a _ ea)
    exact ⟨⟨_, h1, h2.1⟩, ⟨_, PySem.F.slot_dict_eq, fun Q q => eq_dict I.kIn h1 h2.1 hb hs q⟩, ⟨_, PySem.F.slot_dict_ne, fun Q q => ne_dict I.kIn h1 h2.1 hb hs q⟩⟩
/-- x == y, one of them an instance of the class at C: its __eq__'s promise -/
def rEqO (K : PySem.W.Frag) (C : Addr) (sp : Sp) (neg : Bool) : R2 := fun x y H Q =>
  (∃ a dx fs t, x = .ref a ∧ H a = some (.ins C dx fs) ∧ TyX K H y t ∧ PySem.W.notFirst K C t = true ∧ sp [x, y] H (fun v H' => ∃ c, v = .bl c ∧ Q (.bl (if neg then !c else c)) H') E0) ∨
  (∃ b dx fs T, y = .ref b ∧ H b = some (.ins C dx fs) ∧ Dec H x T ∧ PySem.W.subIn K (.ref C) (.type T) = some false ∧ sp [y, x] H (fun v H' => ∃ c, v = .bl c ∧ Q (.bl (if neg then !c else c)) H') E0)
theorem bl_end {Q : VK} {Q2 : Value → Shared → Prop} {v : Value} {s' : Shared} {f : Bool → V} (h : EP X pins σ (fun v H' => ∃ c, v = .bl c ∧ Q (f c) H') v s') (k : ∀ c H', Inv X pins σ H' s' → Q (f c) H' → Q2 (.bool c) s') : ∃ c, v = .bool c ∧ Q2 (.bool c) s' := by
  obtain ⟨w, H', I', rw_, c, rfl, q⟩ := h
  cases (show v = Value.bool c from rw_)
  exact ⟨c, rfl, k c H' I' q⟩
theorem op_eqO {k : Nat} {C : Addr} {sp : Sp} (c : Sm X.prog X.w X.K X.mg X.base k C "__eq__" sp) (hr : Room k X.A) : OpR X (compareOp .Eq) (rEqO X.K C sp false) := by
  intro pins s σ H x y v u Q I rx ry h
  obtain ⟨f, fd, ps, F, hs, hf, kp, b⟩ := c.ex
  show wpAny (model X.prog X.w) X.A (richCompare .Eq v u) (EP X pins σ Q) X.xe s
  rcases h with ⟨a, dx, fs, t, rfl, ea, ty, hn, q⟩ | ⟨a, dx, fs, T, rfl, ea, d, hn, q⟩
  · cases (show v = Value.ref a from rx)
    obtain ⟨od, J⟩ := ins_at I ea
    refine rc_left hr.units0 I.kIn J (ty_looks I ry ty) hn (try_own I.kIn J hs hf (thn (run_at (Sub.here hr) F b passL I (.cons rx (.cons ry .nil)) q) fun w s' hw => ?_))
    obtain ⟨z, H', I', rz, c, rfl, q'⟩ := hw
    cases (show w = Value.bool c from rz)
    exact ⟨c, rfl, _, rfl, .bl c, H', I', rfl, q'⟩
  · cases (show u = Value.ref a from ry)
    obtain ⟨od, J⟩ := ins_at I ea
    obtain ⟨hT, ⟨id, S, dec⟩, _⟩ := d.run (A := X.A) (E := X.xe) I rx ea hn
    refine rc_right hr.units0 I.kIn J hT hn S (dec _ ⟨rfl, ?_⟩)
    refine try_own I.kIn J hs hf (thn (run_at (Sub.here hr) F b passL I (.cons ry (.cons rx .nil)) q) fun w s' hw => ?_)
    obtain ⟨z, H', I', rz, c, rfl, q'⟩ := hw
    cases (show w = Value.bool c from rz)
    exact ⟨c, rfl, _, rfl, .bl c, H', I', rfl, q'⟩
theorem op_neO {k : Nat} {C : Addr} {sp : Sp} (c : Sm X.prog X.w X.K X.mg X.base k C "__eq__" sp) (hn1 : PySem.W.findIn X.K (.ref C) "__ne__" = some (some (.builtin "object.__ne__"))) (hm : PySem.W.subIn X.K (.ref C) (.type "object") = some true) (hr : Room (k + 1) X.A) : OpR X (compareOp .NotEq) (rEqO X.K C sp true) := by
  intro pins s σ H x y v u Q I rx ry h
  obtain ⟨f, fd, ps, F, hs, hf, kp, b⟩ := c.ex
  show wpAny (model X.prog X.w) X.A (richCompare .NotEq v u) (EP X pins σ Q) X.xe s
  have sb : Sub X k X.A.in1 := ⟨hr.in1, rfl⟩
  rcases h with ⟨a, dx, fs, t, rfl, ea, ty, hn, q⟩ | ⟨a, dx, fs, T, rfl, ea, d, hn, q⟩
  · cases (show v = Value.ref a from rx)
    obtain ⟨od, J⟩ := ins_at I ea
    refine rc_left hr.units0 I.kIn J (ty_looks I ry ty) hn (try_ne hr.in1.units0 I.kIn J hn1 hm hs hf (thn (run_at sb F b passL I (.cons rx (.cons ry .nil)) q) fun w s' hw => ?_))
    obtain ⟨z, H', I', rz, c, rfl, q'⟩ := hw
    cases (show w = Value.bool c from rz)
    exact ⟨c, rfl, _, rfl, .bl (!c), H', I', rfl, q'⟩
  · cases (show u = Value.ref a from ry)
    obtain ⟨od, J⟩ := ins_at I ea
    obtain ⟨hT, _, ⟨id, S, dec⟩⟩ := d.run (A := X.A) (E := X.xe) I rx ea hn
    refine rc_right hr.units0 I.kIn J hT hn S (dec _ ⟨rfl, ?_⟩)
    refine try_ne hr.in1.units0 I.kIn J hn1 hm hs hf (thn (run_at sb F b passL I (.cons ry (.cons rx .nil)) q) fun w s' hw => ?_)
    obtain ⟨z, H', I', rz, c, rfl, q'⟩ := hw
    cases (show w = Value.bool c from rz)
    exact ⟨c, rfl, _, rfl, .bl (!c), H', I', rfl, q'⟩
/-- truth by an own __bool__ -/
def rTru (C : Addr) (sp : Sp) : V → Hp → (Bool → Hp → Prop) → Prop := fun x H Q => ∃ a dx fs, x = .ref a ∧ H a = some (.ins C dx fs) ∧ sp [x] H (fun v H' => ∃ c, v = .bl c ∧ Q c H') E0
theorem tru_own {k : Nat} {C : Addr} {sp : Sp} (c : Sm X.prog X.w X.K X.mg X.base k C "__bool__" sp) {A : Around} (sb : Sub X k A) {x : V} {v : Value} {Q : Bool → Hp → Prop} (I : Inv X pins σ H s) (rx : RelV x v) (h : rTru C sp x H Q) : wpAny (model X.prog X.w) A (truthy v) (TP X pins σ Q) X.xe s := by
  obtain ⟨f, fd, ps, F, hs, hf, kp, b⟩ := c.ex
  obtain ⟨a, dx, fs, rfl, ea, q⟩ := h
  cases (show v = Value.ref a from rx)
  obtain ⟨od, J⟩ := ins_at I ea
  obtain ⟨m, hF⟩ := I.fr
  refine PySem.W.truthy_K hF I.ok.mod.kin J hs hf (thn (run_at sb F b passL I (.cons rx .nil) q) fun w s' hw => ?_)
  obtain ⟨z, H', I', rz, c, rfl, q'⟩ := hw
  cases (show w = Value.bool c from rz)
  exact ⟨H', I', q'⟩
def tTruO (C : Addr) (sp : Sp) (ta : TE) : TT := fun σ H Q => ta σ H fun x H1 => rTru C sp x H1 Q
theorem pt_own {k : Nat} {C : Addr} {sp : Sp} {e : Expr} {ta : TE} (c : Sm X.prog X.w X.K X.mg X.base k C "__bool__" sp) (hr : Room k X.A) (ha : PE X e ta) (he : ∀ whole, isTrue e X.env whole = (do let v ← whole; standAt e.pos; holding [v] (truthy v)) := by intro _; rfl) : PT X e (tTruO C sp ta) := by
  refine ⟨fun pins s σ H Q I h => ?_⟩
  rw [he]
  refine wpAny_bind (thn (ha.run pins s σ H _ I h) fun v s1 ⟨x, H1, I1, r1, q1⟩ => ?_)
  exact wpAny_bind (wpAny_standAt (wpAny_holding (tru_own c (Sub.here hr) I1 r1 q1)))
/-- not x, as a value -/
def tNotO (C : Addr) (sp : Sp) (ta : TE) : TE := fun σ H Q => ta σ H fun x H1 => rTru C sp x H1 fun c H2 => Q (.bl (!c)) H2
theorem pe_notO {k : Nat} {C : Addr} {sp : Sp} {e : Expr} {ta : TE} {pos : Pos} (c : Sm X.prog X.w X.K X.mg X.base k C "__bool__" sp) (hr : Room k X.A) (ha : PE X e ta) : PE X (.UnaryOp .Not e pos) (tNotO C sp ta) := by
  refine ⟨fun pins s σ H Q I h => ?_⟩
  refine UnaryOp_ (thn (ha.run pins s σ H _ I h) fun v s1 ⟨x, H1, I1, r1, q1⟩ => ?_)
  exact not_of (thn (tru_own c (Sub.here hr) I1 r1 q1) fun c s2 ⟨H2, I2, q2⟩ => ⟨.bl (!c), H2, I2, rfl, q2⟩)
/-- repr(x), str(x), by an own def -/
def rStrO (C : Addr) (sp : Sp) : List V → Hp → VK → Prop := fun xs H Q => ∃ a dx fs, xs = [.ref a] ∧ H a = some (.ins C dx fs) ∧ sp xs H (fun v H' => ∃ y, v = .str y ∧ Q (.str y) H') E0
theorem call_reprO {k : Nat} {C : Addr} {sp : Sp} (c : Sm X.prog X.w X.K X.mg X.base k C "__repr__" sp) (hr : Room (k + 1) X.A) : CallR X (.builtin "repr") (rStrO C sp) := by
  intro pins s σ H xs us Q I r h
  obtain ⟨f, fd, ps, F, hs, hf, kp, b⟩ := c.ex
  obtain ⟨a, dx, fs, rfl, ea, q⟩ := h
  have e := Vals.ref1 r
  subst e
  obtain ⟨od, J⟩ := ins_at I ea
  obtain ⟨m, hF⟩ := I.fr
  refine PySem.W.repr_K hr.in1.units0 hF I.ok.mod.kin J hs hf (thn (run_at ⟨hr.in1, rfl⟩ F b passL I r q) fun w s' hw => ?_)
  obtain ⟨z, H', I', rz, y, rfl, q'⟩ := hw
  obtain ⟨t, rfl⟩ := (show ∃ t, w = Value.str y t from rz)
  exact ⟨.str y, H', I', ⟨t, rfl⟩, q'⟩
theorem call_strO {k : Nat} {C : Addr} {sp : Sp} (c : Sm X.prog X.w X.K X.mg X.base k C "__str__" sp) (hr : Room (k + 2) X.A) : CallR X (.type "str") (rStrO C sp) := by
  intro pins s σ H xs us Q I r h
  obtain ⟨f, fd, ps, F, hs, hf, kp, b⟩ := c.ex
  obtain ⟨a, dx, fs, rfl, ea, q⟩ := h
  have e := Vals.ref1 r
  subst e
  obtain ⟨od, J⟩ := ins_at I ea
  refine PySem.W.kso_call hr.in1.in1.units0 I.kIn J hs hf (thn (run_at ⟨hr.in1.in1, rfl⟩ F b passL I r q) fun w s' hw => ?_)
  obtain ⟨z, H', I', rz, y, rfl, q'⟩ := hw
  obtain ⟨t, rfl⟩ := (show ∃ t, w = Value.str y t from rz)
  exact ⟨.str y, H', I', ⟨t, rfl⟩, q'⟩
end
end Rt
/-! ### bool(x) by an own __bool__; repr of data -/
namespace Rt
open PySem PySem.Spec PyProof.Rows L2
section
open PySem.W
variable {prog : Program} {w : World} {A : Around} {E : Value → Shared → Prop} {s : Shared} {K : Frag} {x C f : Addr} {ox : Obj} {od : Option Obj}
theorem bool_call {Q : Value → Shared → Prop} (X : K.In s.heap) (I : W.InstAt s.heap x ox C od) (hs : findIn K (.ref C) "__bool__" = some (some (.ref f))) (hf : isFn K (.ref f) = true)
    (h : wpAny (model prog w) A.in1.in1 (call (.ref f) [.ref x]) (W.BoolBack fun b s' => Q (.bool b) s') E s) : wpAny (model prog w) A (call (.type "bool") [.ref x]) Q E s := by
  have tr : wpAny (model prog w) A.in1.in1 (truthy (.ref x)) (fun b s' => Q (.bool b) s') E s := by
    unfold truthy
    refine wpAny_bind (m := callSpecial? (.ref x) (Str.ofString "__bool__")) (special_fn X I hs (beq_iff_eq.mp hf) (wpAny_mono h (fun r s' hr => ?_) fun _ _ y => y))
    cases r <;> first | exact hr.elim | skip
    exact wpAny_pure hr
  refine callType_codes (T := "bool") (Bi := Builtin.«object.__init__») (Q₁ := fun r s₁ => ∃ b, r = .bool b ∧ Q r s₁) PySem.F.called_bool (PySem.F.typeCall_bool_1 _) PySem.F.entry_object_init ?_ ?_
  · refine codeAny_of_tree ?_
    show wpAny _ A.in1.in1 (do checkBuiltinCall "bool.__new__" ⟨[.type "bool", .ref x], []⟩; again (.builtin "bool.__new__" ⟨[.type "bool", .ref x], []⟩)) _ _ s
    refine wpAny_bind (wpAny_of_eq (PySem.F.newCall_bool_1 _) (wpAny_pure ⟨plainId_quiet (by decide +kernel) _, codeAny_builtin PySem.F.entry_bool_new ?_⟩))
    rw [Around.under_plainId (by decide +kernel) _]
    have f1 := PySem.F.conv_sub_bool
    obtain ⟨hp, g, d, tk, os⟩ := s
    repeat (any_goals (first | assumption | (with_reducible refine wpAny_mono tr (fun b s' q => ?_) fun _ _ y => y) | wp_step))
    all_goals exact ⟨b, rfl, q⟩
  · rintro obj s₁ ⟨y, rfl, hq⟩
    exact ⟨rfl, PySem.F.args_object_init_2 _ _, object_init_meets PySem.F.called_bool.init.lookup PySem.F.called_bool.made (by decide) prog w A.in1 _ s₁ ⟨rfl, rfl, hq⟩⟩
end
mutual
/-- the datum that a value is, by the abstract heap -/
inductive DatV (H : Hp) : V → PyData → Prop
  | non : DatV H .non .none
  | bl (b : Bool) : DatV H (.bl b) (.bool b)
  | int (i : Int) : DatV H (.int i) (.int i)
  | str (x : Str) : DatV H (.str x) (.str x)
  | lst {a : Addr} {xs : List V} {ds : List PyData} (e : H a = some (.lst xs)) (r : DatVs H xs ds) : DatV H (.ref a) (.list ds)
  | tup {a : Addr} {xs : List V} {ds : List PyData} (e : H a = some (.tup xs)) (r : DatVs H xs ds) : DatV H (.ref a) (.tuple ds)
inductive DatVs (H : Hp) : List V → List PyData → Prop
  | nil : DatVs H [] []
  | cons {x : V} {d : PyData} {xs : List V} {ds : List PyData} (h : DatV H x d) (t : DatVs H xs ds) : DatVs H (x :: xs) (d :: ds)
end
section
variable {X : Cx} {pins : List (Addr × Obj)} {σ : L2.St} {H : Hp} {s : Shared}
mutual
theorem reads_of (I : Inv X pins σ H s) : ∀ {x : V} {d : PyData} {u : Value}, DatV H x d → RelV x u → ∃ as, Reads s.heap u d as
  | _, _, u, .non, r => by cases (show u = Value.none from r); exact ⟨_, .none⟩
  | _, _, u, .bl b, r => by cases (show u = Value.bool b from r); exact ⟨_, .bool b⟩
  | _, _, u, .int i, r => by obtain ⟨t, rfl⟩ := (show ∃ t, u = Value.int i t from r); exact ⟨_, .int i t⟩
  | _, _, u, .str x, r => by obtain ⟨t, rfl⟩ := (show ∃ t, u = Value.str x t from r); exact ⟨_, .str x t⟩
  | _, _, u, .lst (a := a) (xs := xs) e r0, r => by
    cases (show u = Value.ref a from r)
    obtain ⟨_, its, n, rv, h1⟩ := (show ObjOk X.prog X.w H s.heap a (.lst xs) from I.hok a _ e)
    obtain ⟨as, q⟩ := readsAll_of I r0 rv
    exact ⟨_, .list h1 rfl rfl (by simpa using q)⟩
  | _, _, u, .tup (a := a) (xs := xs) e r0, r => by
    cases (show u = Value.ref a from r)
    obtain ⟨_, its, rv, o, h1, h2, n, h3⟩ := (show ObjOk X.prog X.w H s.heap a (.tup xs) from I.hok a _ e)
    obtain ⟨as, q⟩ := readsAll_of I r0 rv
    exact ⟨_, .tuple h1 h2 h3 (by simpa using q)⟩
theorem readsAll_of (I : Inv X pins σ H s) : ∀ {xs : List V} {ds : List PyData} {us : List Value}, DatVs H xs ds → Vals xs us → ∃ as, ReadsAll s.heap us ds as
  | _, _, _, .nil, .nil => ⟨_, .nil⟩
  | _, _, _, .cons h t, .cons r rs => by
    obtain ⟨as, q⟩ := reads_of I h r
    obtain ⟨bs, qs⟩ := readsAll_of I t rs
    exact ⟨_, .cons q qs⟩
end
/-- repr(x) of a list or a tuple of data -/
def rReprD : List V → Hp → VK → Prop := fun xs H Q => ∃ a d, xs = [.ref a] ∧ DatV H (.ref a) d ∧ d.showable = true ∧ d.hasDict = false ∧ d.depth ≤ 20 ∧ d.shown.length ≤ sizeLine ∧ Q (.str d.shown) H
theorem call_reprD (hG : X.A.guards = some []) {k : Nat} (hr : Room k X.A) : CallR X (.builtin "repr") rReprD := by
  intro pins s σ H xs us Q I r h
  obtain ⟨a, d, rfl, hd, h1, h2, h3, h4, q⟩ := h
  have e := Vals.ref1 r
  subst e
  obtain ⟨as, R⟩ := reads_of I hd rfl
  refine repr_of_reads' (h₀ := s.heap) R h1 (PyData.noDict_hsm h2) hG (by have := hr.un; omega) (fun _ _ e => e) (fun h' u tk k => ?_) h4
  exact ⟨.str d.shown, H, I.kept k, ⟨u, rfl⟩, q⟩
def rBoolO (C : Addr) (sp : Sp) : List V → Hp → VK → Prop := fun xs H Q => ∃ a dx fs, xs = [.ref a] ∧ H a = some (.ins C dx fs) ∧ sp xs H (fun v H' => ∃ c, v = .bl c ∧ Q (.bl c) H') E0
theorem call_boolO {k : Nat} {C : Addr} {sp : Sp} (c : Sm X.prog X.w X.K X.mg X.base k C "__bool__" sp) (hr : Room (k + 2) X.A) : CallR X (.type "bool") (rBoolO C sp) := by
  intro pins s σ H xs us Q I r h
  obtain ⟨f, fd, ps, F, hs, hf, kp, b⟩ := c.ex
  obtain ⟨a, dx, fs, rfl, ea, q⟩ := h
  have e := Vals.ref1 r
  subst e
  obtain ⟨od, J⟩ := ins_at I ea
  refine bool_call I.kIn J hs hf (thn (run_at ⟨hr.in1.in1, rfl⟩ F b passL I r q) fun w s' hw => ?_)
  obtain ⟨z, H', I', rz, y, rfl, q'⟩ := hw
  cases (show w = Value.bool y from rz)
  exact ⟨.bl y, H', I', rfl, q'⟩
/-! ### numbers -/
theorem op_mulA : OpR X (binaryOp .Mult) (rI IntMulOk fun i j => .int (i * j)) := opI fun _ _ _ _ _ _ _ hc q => mul_int q hc
def CFd (_ j : Int) : Prop := j ≠ 0 ∧ j.natAbs.log2 < 9000
theorem op_fdA : OpR X (binaryOp .FloorDiv) (rI CFd fun i j => .int (i.fdiv j)) := opI fun _ _ _ _ _ _ _ hc q => floordiv_int hc.1 q (.inl (PyProof.noPylong_of_log2 hc.2))
def CDm (_ j : Int) : Prop := 0 < j ∧ j.natAbs.log2 < 9000
theorem call_divmodA : CallR X (.builtin "divmod") (fun xs H Q => ∃ i j, xs = [.int i, .int j] ∧ CDm i j ∧ ∀ p, H p = none → Q (.ref p) (upd H p (.tup [.int (i / j), .int (i % j)]))) := by
  intro pins s σ H xs us Q I r h
  obtain ⟨i, j, e, ⟨h1, h2⟩, q⟩ := h
  exact call_divmodW pins s σ H xs us Q I r ⟨i, j, e, ⟨h1, PyProof.noPylong_of_log2 h2⟩, q⟩
end
end Rt
/-! ### short forms of rules, for readings by machine -/
namespace Rt
open PySem PySem.Spec PyProof.Rows L2
section
variable {X : Cx}
def rInt : List V → Hp → VK → Prop := fun xs H Q => ∃ i, xs = [.int i] ∧ Q (.int i) H
theorem call_intI : CallR X (.type "int") rInt := by
  intro pins s σ H xs us Q I r h
  obtain ⟨i, e, q⟩ := h
  exact call_int1 pins s σ H xs us Q I r (.inl ⟨i, e, q⟩)
def rBoolI : List V → Hp → VK → Prop := fun xs H Q => ∃ i, xs = [.int i] ∧ Q (.bl (i != 0)) H
theorem call_boolI : CallR X (.type "bool") rBoolI := by
  intro pins s σ H xs us Q I r h
  obtain ⟨i, e, q⟩ := h
  exact call_bool1 pins s σ H xs us Q I r (.inl ⟨i, e, q⟩)
def rAbs : List V → Hp → VK → Prop := fun xs H Q => ∃ i, xs = [.int i] ∧ Q (.int (i.natAbs : Int)) H
theorem call_absI : CallR X (.builtin "abs") rAbs := by
  intro pins s σ H xs us Q I r h
  obtain ⟨i, e, q⟩ := h
  refine call_abs pins s σ H xs us Q I r ⟨i, e, ?_⟩
  have e2 : (if i < 0 then -i else i) = (i.natAbs : Int) := by split <;> omega
  rw [e2]
  exact q
theorem ne_n {H : Hp} {a b : Addr} {o : HO} (h' : H b = none) (h : H a = some o) : a ≠ b := ne_of_none h h'
theorem ne_n' {H : Hp} {a b : Addr} {o : HO} (h' : H b = none) (h : H a = some o) : b ≠ a := (ne_of_none h h').symm
theorem iteD {p A B : Prop} [Decidable p] (h1 : p → A) (h2 : ¬ p → B) : if decide p = true then A else B := by
  by_cases h : p
  · rw [if_pos (decide_eq_true h)]
    exact h1 h
  · rw [if_neg (by rw [decide_eq_false h]; exact Bool.false_ne_true)]
    exact h2 h
theorem iteN {p A B : Prop} [Decidable p] (h1 : ¬ p → A) (h2 : p → B) : if (!decide p) = true then A else B := by
  by_cases h : p
  · rw [if_neg (by rw [decide_eq_true h]; exact Bool.false_ne_true)]
    exact h2 h
  · rw [if_pos (by rw [decide_eq_false h] <;> rfl)]
    exact h1 h
/-- all but a is kept -/
def Kp (a : Addr) (H H' : Hp) : Prop := ∀ b o, b ≠ a → H b = some o → H' b = some o
theorem Kp.refl {a : Addr} {H : Hp} : Kp a H H := fun _ _ _ e => e
theorem Kp.trans {a : Addr} {H H1 H2 : Hp} (x : Kp a H H1) (y : Kp a H1 H2) : Kp a H H2 := fun b o n e => y b o n (x b o n e)
theorem Kp.of {a : Addr} {H H' : Hp} (x : Same H H') : Kp a H H' := fun b o _ e => x b o e
theorem Kp.new {a p : Addr} {H H1 : Hp} {o : HO} (x : Kp a H H1) (hp : H1 p = none) : Kp a H (upd H1 p o) := fun b u n e => by
  have e1 := x b u n e
  rw [upd_ne (ne_of_none e1 hp)]
  exact e1
theorem Kp.at {a : Addr} {H H1 : Hp} {o : HO} (x : Kp a H H1) : Kp a H (upd H1 a o) := fun b u n e => by
  rw [upd_ne n]
  exact x b u n e
theorem Same.new {p : Addr} {H H1 : Hp} {o : HO} (x : Same H H1) (hp : H1 p = none) : Same H (upd H1 p o) := fun b u e => by
  have e1 := x b u e
  rw [upd_ne (ne_of_none e1 hp)]
  exact e1
theorem Same.newp {p : Addr} {H : Hp} {o : HO} (hp : H p = none) : Same H (upd H p o) := Same.new (Same.refl H) hp
end
end Rt
/-! ### promises by arguments; makers; properties -/
namespace Rt
open PySem PySem.Spec PyProof.Rows L2
def Sp1 (f : V → Hp → VK → XK → Prop) : Sp := fun vs H Q E => ∃ a, vs = [a] ∧ f a H Q E
def Sp2 (f : V → V → Hp → VK → XK → Prop) : Sp := fun vs H Q E => ∃ a b, vs = [a, b] ∧ f a b H Q E
def Sp3 (f : V → V → V → Hp → VK → XK → Prop) : Sp := fun vs H Q E => ∃ a b c, vs = [a, b, c] ∧ f a b c H Q E
theorem Sp1.len {f : V → Hp → VK → XK → Prop} {vs : List V} {H : Hp} {Q : VK} {E : XK} (h : Sp1 f vs H Q E) : vs.length = 1 := by
  obtain ⟨a, rfl, _⟩ := h
  rfl
theorem Sp2.len {f : V → V → Hp → VK → XK → Prop} {vs : List V} {H : Hp} {Q : VK} {E : XK} (h : Sp2 f vs H Q E) : vs.length = 2 := by
  obtain ⟨a, b, rfl, _⟩ := h
  rfl
theorem Sp3.len {f : V → V → V → Hp → VK → XK → Prop} {vs : List V} {H : Hp} {Q : VK} {E : XK} (h : Sp3 f vs H Q E) : vs.length = 3 := by
  obtain ⟨a, b, c, rfl, _⟩ := h
  rfl
/-- a class, made by its __init__ -/
structure Mkr (P : Program) (w : World) (K : PySem.W.Frag) (mg : Str → Option Value) (base : Heap) (k : Nat) (x : Str) (C : Addr) (sp : Sp) (dvs : List V) : Prop where
  ex : ∃ f fd ps ds, Mk K C f ∧ FnOk P w K mg base (L2.CX P w) k f fd ps sp ∧ mg x = some (.ref C) ∧ Binds K fd ps ds ∧ Vals dvs ds
structure MkrK (P : Program) (w : World) (K : PySem.W.Frag) (mg : Str → Option Value) (base : Heap) (k : Nat) (x : Str) (C : Addr) (sp : Sp) (ks : List Str) (gV : List V → List V → List V) : Prop where
  ex : ∃ f fd ps g, Mk K C f ∧ FnOk P w K mg base (L2.CX P w) k f fd ps sp ∧ mg x = some (.ref C) ∧ KBn K fd ps 1 ks g gV
/-- a property -/
structure Prp (P : Program) (w : World) (K : PySem.W.Frag) (mg : Str → Option Value) (base : Heap) (k : Nat) (C : Addr) (f : Str) (sp : Sp) : Prop where
  ex : Cls K C ∧ ∃ p g fd ps, PropOf K C f p g ∧ FnOk P w K mg base (L2.CX P w) k g fd ps sp ∧ Binds K fd ps []
section
variable {X : Cx} {k j : Nat} {x f : Str} {C : Addr} {sp : Sp} {p pos : Pos} {e : Expr} {es : List Expr} {t : TA} {ta : TE} {dvs : List V}
theorem pe_mkr (c : Mkr X.prog X.w X.K X.mg X.base k x C sp dvs) (hr : Room j X.A) (ha : PA X (e :: es) t) (hg : Gl X x := by rfl) (hk : k + 1 ≤ j := by decide)
    (hdb : (x == ("__debug__" : Str)) = false := by decide) (he : starEach (e :: es) X.env = (false, eval e X.env) :: starEach es X.env := by rfl) (hpl : (backTo pos (starEach es X.env)).any (·.1) = false := by rfl) :
    PE X (.Call (.Name x p) (e :: es) [] pos) (tMake C sp dvs E0 t) := by
  obtain ⟨f, fd, ps, ds, M, F, m, b, v⟩ := c.ex
  exact pe_make M F (hr.mono hk) hg m b v passL ha hdb he hpl
theorem pe_mkrK {kws : List Keyword} {tk : TA} {ks : List Str} {gV : List V → List V → List V} (c : MkrK X.prog X.w X.K X.mg X.base k x C sp ks gV) (hr : Room j X.A) (hkw : PK X kws tk) (hg : Gl X x := by rfl) (hk : k + 1 ≤ j := by decide)
    (hall : (backToKw pos (keywordEach kws X.env)).all (·.1.isSome) = true := by rfl) (hks : (backToKw pos (keywordEach kws X.env)).filterMap (·.1) = ks := by rfl) (hdb : (x == ("__debug__" : Str)) = false := by decide)
    (hpl : ((backTo pos (starEach [] X.env)).any (·.1) || (backToKw pos (keywordEach kws X.env)).any (·.1.isNone)) = false := by rfl) : PE X (.Call (.Name x p) [] kws pos) (tMakeK C 0 ks.length sp gV E0 tNil tk) := by
  obtain ⟨f, fd, ps, g, M, F, m, b⟩ := c.ex
  exact pe_makeK0 M F (hr.mono hk) hg m b passL hkw hall hks hdb hpl
theorem pe_prp (c : Prp X.prog X.w X.K X.mg X.base k C f sp) (hr : Room j X.A) (he : PE X e ta) (hab : attributeBase e f X.env (eval e X.env) = eval e X.env := by rfl) (hk : k + 1 ≤ j := by decide) : PE X (.Attribute e f pos) (tProp C sp [] E0 ta) := by
  obtain ⟨cl, p, g, fd, ps, hp, F, b⟩ := c.ex
  exact pe_prop he cl hp F (hr.mono hk) b .nil passL hab
end
/-- keywords over a def with defaults, no keyword-only ones: n positional values, keywords ks -/
theorem kbindsD {K : PySem.W.Frag} {x qual : Str} {params : Arguments} {body : List Stmt} {scope : Scope} {dvs : List V} {f : Addr} {fd : FuncData} {ps : List Str} (F : FunD K x qual params body scope dvs [] f fd) (n : Nat) (ks : List Str)
    (g : {α : Type} → List α → List α → List α → List α) (hd : dvs ≠ []) (hrel : ∀ {vs ds zs : List V} {us its ws : List Value}, Vals vs us → Vals ds its → Vals zs ws → Vals (g vs ds zs) (g us its ws))
    (h : ∀ (T : Addr) (kV doc pm : Value) (an : Option Addr) (cdv ct : Value) (us its ws : List Value), us.length = n → its.length = dvs.length → ws.length = ks.length →
      ∃ k, bindArgs (PySem.W.fnOf x qual params body scope (.ref T) kV doc pm an cdv ct) ⟨us, ks.zip ws⟩ = seqItems? (.ref T) >>= k ∧ k (some its.toArray) = pure (ps.zip (g us its ws))) :
    ∃ its : List Value, KBn K fd ps n ks (fun us ws => g us its ws) (fun vs zs => g vs dvs zs) := by
  obtain ⟨oc, od, dV, kV, doc, pm, an, cdv, ct, osl, rfl, lk, hcd, hD, hK⟩ := F.ex
  rcases hD with ⟨e, _⟩ | ⟨_, T, o, its, m, rfl, lT, oT, rT⟩
  · exact absurd e hd
  · refine ⟨its, ⟨fun s us ws X l1 l2 => ?_, fun r1 r2 => hrel r1 rT r2⟩⟩
    obtain ⟨k, e1, e2⟩ := h T kV doc pm an cdv ct us its ws l1 rT.length.symm l2
    refine BindsTo.of_looks fun M => ?_
    rw [e1]
    exact looks_items X lT oT (.of_pure e2)
/-! ### whether a value is an integer -/
/-- the value's type, and whether it is an int and no bool -/
structure IsI (K : PySem.W.Frag) (H : Hp) (v : V) (t : Value) (b : Bool) : Prop where
  ty : TyX K H v t
  ex : ∃ b1 b2, PySem.W.kitOne K t (.type "int") = some b1 ∧ PySem.W.kitOne K t (.type "bool") = some b2 ∧ b = (b1 && !b2)
section
variable {K : PySem.W.Frag} {H : Hp}
theorem IsI.int (i : Int) : IsI K H (.int i) (.type "int") true := ⟨.base (.int i), true, false, kit_ty (by decide +kernel), kit_ty (by decide +kernel), rfl⟩
theorem IsI.bl (b : Bool) : IsI K H (.bl b) (.type "bool") false := ⟨.base (.bl b), true, true, kit_ty (by decide +kernel), kit_ty (by decide +kernel), rfl⟩
theorem IsI.non : IsI K H .non (.type "NoneType") false := ⟨.base .non, false, false, kit_ty (by decide +kernel), kit_ty (by decide +kernel), rfl⟩
theorem IsI.str (x : Str) : IsI K H (.str x) (.type "str") false := ⟨.base (.str x), false, false, kit_ty (by decide +kernel), kit_ty (by decide +kernel), rfl⟩
theorem IsI.lst {a : Addr} {xs : List V} (e : H a = some (.lst xs)) : IsI K H (.ref a) (.type "list") false := ⟨.base (.lst e), false, false, kit_ty (by decide +kernel), kit_ty (by decide +kernel), rfl⟩
theorem IsI.tup {a : Addr} {xs : List V} (e : H a = some (.tup xs)) : IsI K H (.ref a) (.type "tuple") false := ⟨.base (.tup e), false, false, kit_ty (by decide +kernel), kit_ty (by decide +kernel), rfl⟩
theorem IsI.dK {a : Addr} {kvs : List (Key × V)} (e : H a = some (.dK kvs)) : IsI K H (.ref a) (.type "dict") false := ⟨.base (.dK e), false, false, kit_ty (by decide +kernel), kit_ty (by decide +kernel), rfl⟩
end
end Rt
/-! ### plain laws: data that is shown -/
namespace Rt
open PySem PySem.Spec PyProof.Rows L2
/-- a leaf of a shown list, short -/
inductive Leaf : PyData → Prop
  | non : Leaf .none
  | bl (b : Bool) : Leaf (.bool b)
  | int {i : Int} (h : i.natAbs.log2 < 1920) : Leaf (.int i)
  | str {x : Str} (h : ∀ c ∈ x.cps.toList, c < 16 ^ 8) (n : x.length ≤ 10000) : Leaf (.str x)
theorem Leaf.show {d : PyData} (h : Leaf d) : d.showable = true := by
  cases h with
  | non => rfl
  | bl b => rfl
  | int h => simp only [PyData.showable, h, decide_true]
  | str h n => rfl
theorem Leaf.nod {d : PyData} (h : Leaf d) : d.hasDict = false := by
  cases h <;> rfl
theorem Leaf.dep {d : PyData} (h : Leaf d) : d.depth = 0 := by
  cases h <;> rfl
theorem Leaf.len {d : PyData} (h : Leaf d) : d.shown.length ≤ 100002 := by
  cases h with
  | non => decide
  | bl b => cases b <;> decide
  | @int i h =>
    have := int_text_len_1921 h
    simp only [PyData.shown]
    omega
  | @str x h n =>
    have := StrLaws.reprText_len x h
    simp only [PyData.shown]
    omega
theorem leafs_all : ∀ {ds : List PyData}, (∀ d ∈ ds, Leaf d) → PyData.showableAll ds = true ∧ PyData.hasDictAll ds = false ∧ PyData.depthAll ds = 0 ∧ ((PyData.shownAll ds).map (·.length)).sum ≤ 100002 * ds.length ∧ (PyData.shownAll ds).length = ds.length
  | [], _ => ⟨rfl, rfl, rfl, by simp [PyData.shownAll], rfl⟩
  | d :: ds, h => by
    obtain ⟨h1, h2, h3, h4, h5⟩ := leafs_all (fun x hx => h x (List.mem_cons_of_mem _ hx))
    have l := h d List.mem_cons_self
    refine ⟨by simp [PyData.showableAll, l.show, h1], by simp [PyData.hasDictAll, l.nod, h2], by simp [PyData.depthAll, l.dep, h3], ?_, by simp [PyData.shownAll, h5]⟩
    have := l.len
    simp only [PyData.shownAll, List.map_cons, List.sum_cons, List.length_cons]
    omega
theorem leafs_list {ds : List PyData} (h : ∀ d ∈ ds, Leaf d) (n : ds.length ≤ 100) : (PyData.list ds).showable = true ∧ (PyData.list ds).hasDict = false ∧ (PyData.list ds).depth ≤ 20 ∧ (PyData.list ds).shown.length ≤ sizeLine := by
  obtain ⟨h1, h2, h3, h4, h5⟩ := leafs_all h
  refine ⟨by simp [PyData.showable, h1], by simp [PyData.hasDict, h2], by simp [PyData.depth, h3], ?_⟩
  have := textFrom_len_le (PyData.shownAll ds) 0 "["
  have e : (("[" : String) : Str).length = 1 := rfl
  have e2 : (("]" : String) : Str).length = 1 := rfl
  simp only [PyData.shown, listText, Str.length_append]
  have z : sizeLine = 16777216 := by decide
  omega
def rReprL : List V → Hp → VK → Prop := fun xs H Q => ∃ a ys ds, xs = [.ref a] ∧ H a = some (.lst ys) ∧ DatVs H ys ds ∧ (∀ d ∈ ds, Leaf d) ∧ ds.length ≤ 100 ∧ Q (.str (PyData.list ds).shown) H
section
variable {X : Cx}
theorem call_reprL (hG : X.A.guards = some []) {k : Nat} (hr : Room k X.A) : CallR X (.builtin "repr") rReprL := by
  intro pins s σ H xs us Q I r h
  obtain ⟨a, ys, ds, e, ea, hd, hl, hn, q⟩ := h
  obtain ⟨h1, h2, h3, h4⟩ := leafs_list hl hn
  exact call_reprD hG hr pins s σ H xs us Q I r ⟨a, _, e, .lst ea hd, h1, h2, h3, h4, q⟩
end
/-- a heap that no goal names: a goal that unifies with it has no heap yet -/
@[irreducible] def Hbad : Hp := fun _ => some (.own 0)
theorem hp_probe {a : Addr} {o : HO} (h : Hbad a = some o) : Hbad a = some o := h
@[irreducible] def Abad : Addr := 0
theorem ne_probe {b : Addr} (h : Abad ≠ b) : Abad ≠ b := h
theorem ne_probe2 {b : Addr} (h : b ≠ Abad) : b ≠ Abad := h
theorem kp_at {H H' : Hp} {a b : Addr} {o : HO} (s : Kp a H H') (n : b ≠ a) (h : H b = some o) : H' b = some o := s b o n h
theorem sz_line : sizeLine = 16777216 := by decide
theorem same_at {H H' : Hp} {a : Addr} {o : HO} (s : Same H H') (h : H a = some o) : H' a = some o := s a o h
section
variable {X : Cx}
theorem op_eqI : OpR X (compareOp .Eq) (rI0 fun i j => .bl (decide (i = j))) := by
  intro pins s σ H x y v u Q I rx ry h
  obtain ⟨i, j, rfl, rfl, q⟩ := h
  refine op_eq pins s σ H _ _ v u Q I rx ry ⟨rfl, ?_⟩
  rw [dec_int]
  exact q
theorem op_neI : OpR X (compareOp .NotEq) (rI0 fun i j => .bl (!decide (i = j))) := by
  intro pins s σ H x y v u Q I rx ry h
  obtain ⟨i, j, rfl, rfl, q⟩ := h
  refine op_ne pins s σ H _ _ v u Q I rx ry ⟨rfl, ?_⟩
  rw [dec_int]
  exact q
end
section
variable {X : Cx}
def rS0 (g : Str → Str → V) : R2 := fun x y H Q => ∃ i j, x = .str i ∧ y = .str j ∧ Q (g i j) H
theorem op_eqS : OpR X (compareOp .Eq) (rS0 fun i j => .bl (decide (i = j))) := by
  intro pins s σ H x y v u Q I rx ry h
  obtain ⟨i, j, rfl, rfl, q⟩ := h
  refine op_eq pins s σ H _ _ v u Q I rx ry ⟨rfl, ?_⟩
  have e : decide (V.str i = V.str j) = decide (i = j) := by
    by_cases h : i = j
    · rw [decide_eq_true h, decide_eq_true (congrArg V.str h)]
    · rw [decide_eq_false h, decide_eq_false fun z => h (V.str.inj z)]
  rw [e]
  exact q
theorem op_neS : OpR X (compareOp .NotEq) (rS0 fun i j => .bl (!decide (i = j))) := by
  intro pins s σ H x y v u Q I rx ry h
  obtain ⟨i, j, rfl, rfl, q⟩ := h
  refine op_ne pins s σ H _ _ v u Q I rx ry ⟨rfl, ?_⟩
  have e : decide (V.str i = V.str j) = decide (i = j) := by
    by_cases h : i = j
    · rw [decide_eq_true h, decide_eq_true (congrArg V.str h)]
    · rw [decide_eq_false h, decide_eq_false fun z => h (V.str.inj z)]
  rw [e]
  exact q
def rPowL (b e c : Int) : R2 := fun x y H Q => (x = .int b ∧ y = .int e) ∧ Q (.int c) H
theorem op_powL (b e c : Int) (hc : CPow b e) (h : b ^ e.toNat = c) : OpR X (binaryOp .Pow) (rPowL b e c) := by
  intro pins s σ H x y v u Q I rx ry q
  obtain ⟨⟨rfl, rfl⟩, q⟩ := q
  exact op_pow pins s σ H _ _ v u Q I rx ry ⟨b, e, rfl, rfl, hc, by
    show Q (.int (b ^ e.toNat)) H
    rw [h]
    exact q⟩
end
theorem kp_snoc {a : Addr} {H H1 H2 : Hp} (y : Kp a H1 H2) (x : Kp a H H1) : Kp a H H2 := x.trans y
theorem kp_new {a p : Addr} {H H1 : Hp} {o : HO} (hp : H1 p = none) (x : Kp a H H1) : Kp a H (upd H1 p o) := x.new hp
theorem same_snoc {H H1 H2 : Hp} (y : Same H1 H2) (x : Same H H1) : Same H H2 := x.trans y
theorem same_new {p : Addr} {H H1 : Hp} {o : HO} (hp : H1 p = none) (x : Same H H1) : Same H (upd H1 p o) := Rt.Same.new x hp
theorem kp_same {a : Addr} {H H1 H2 : Hp} (y : Same H1 H2) (x : Kp a H H1) : Kp a H H2 := x.trans (.of y)
theorem datv_bls {H : Hp} : ∀ bs : List Bool, DatVs H (bs.map V.bl) (bs.map PyData.bool)
  | [] => .nil
  | b :: bs => .cons (.bl b) (datv_bls bs)
theorem leaf_bls (bs : List Bool) : ∀ d ∈ bs.map PyData.bool, Leaf d := by
  intro d hd
  obtain ⟨b, _, rfl⟩ := List.mem_map.mp hd
  exact .bl b
/-- repr of a list of bools -/
theorem reprL_bls {H : Hp} {Q : VK} {a : Addr} {ys : List V} (bs : List Bool) (e : H a = some (.lst ys)) (h : ys = bs.map V.bl) (n : bs.length ≤ 100) (q : Q (.str (PyData.list (bs.map PyData.bool)).shown) H) : rReprL [.ref a] H Q := by
  subst h
  exact ⟨a, _, _, rfl, e, datv_bls bs, leaf_bls bs, by simpa using n, q⟩
theorem kp_done {H H' : Hp} {D : Addr} (h : Kp D H H') (hD : H D = none) : Same H H' := fun b o e => h b o (ne_of_none e hD) e
/-! ### ints as texts -/
theorem cps_int (i : Int) : ∀ c ∈ ((toString i : String) : Str).cps.toList, c < 16 ^ 8 := by
  intro c hc
  have e : ((toString i : String) : Str).cps.toList = (toString i).toList.map Char.toNat := by
    exact signs_ofString _
  rw [e] at hc
  obtain ⟨ch, _, rfl⟩ := List.mem_map.mp hc
  have := ch.valid
  have h2 : ch.toNat < 1114112 := by
    have := ch.valid
    unfold UInt32.isValidChar Nat.isValidChar at this
    show ch.val.toNat < _
    omega
  omega
theorem cps_app {a b : Str} (ha : ∀ c ∈ a.cps.toList, c < 16 ^ 8) (hb : ∀ c ∈ b.cps.toList, c < 16 ^ 8) : ∀ c ∈ (a ++ b).cps.toList, c < 16 ^ 8 := by
  intro c hc
  rw [Str.cps_append] at hc
  simp only [Array.toList_append, List.mem_append] at hc
  exact hc.elim (ha c) (hb c)
theorem mul_bd {x y : Int} (A B : Nat) {C : Nat} (hx : x.natAbs ≤ A) (hy : y.natAbs ≤ B) (h : A * B < C) : (x * y).natAbs < C := by
  rw [Int.natAbs_mul]
  exact Nat.lt_of_le_of_lt (Nat.mul_le_mul hx hy) h
/-! ### ratios in lowest terms -/
/-- the divisor that __init__ takes -/
def rby (n d : Int) : Int := if 0 < d then (Int.gcd n d : Int) else -(Int.gcd n d : Int)
def rtop (n d : Int) : Int := n.fdiv (rby n d)
def rbot (n d : Int) : Int := d.fdiv (rby n d)
theorem gcd_pos {n d : Int} (h : d ≠ 0) : 0 < Int.gcd n d := Int.gcd_pos_of_ne_zero_right n h
theorem rby_ne {n d : Int} (h : d ≠ 0) : rby n d ≠ 0 := by
  have := gcd_pos (n := n) h
  unfold rby
  split <;> omega
theorem rby_dvd (n d : Int) : rby n d ∣ n ∧ rby n d ∣ d := by
  unfold rby
  split
  · exact ⟨Int.gcd_dvd_left .., Int.gcd_dvd_right ..⟩
  · exact ⟨Int.neg_dvd.mpr (Int.gcd_dvd_left ..), Int.neg_dvd.mpr (Int.gcd_dvd_right ..)⟩
theorem rtop_mul (n d : Int) : rtop n d * rby n d = n := Int.fdiv_mul_cancel (rby_dvd n d).1
theorem rbot_mul (n d : Int) : rbot n d * rby n d = d := Int.fdiv_mul_cancel (rby_dvd n d).2
theorem rbot_pos {n d : Int} (h : d ≠ 0) : 0 < rbot n d := by
  have e := rbot_mul n d
  have g := gcd_pos (n := n) h
  unfold rby at e
  split at e
  · rename_i hd
    have h1 : 0 < rbot n d * (Int.gcd n d : Int) := by omega
    have h2 : (0 : Int) < (Int.gcd n d : Int) := by omega
    exact Int.pos_of_mul_pos_left h1 h2
  · rename_i hd
    have h1 : 0 < rbot n d * (Int.gcd n d : Int) := by
      have : rbot n d * -(Int.gcd n d : Int) = -(rbot n d * (Int.gcd n d : Int)) := Int.mul_neg _ _
      omega
    have h2 : (0 : Int) < (Int.gcd n d : Int) := by omega
    exact Int.pos_of_mul_pos_left h1 h2
theorem r_cross (n d : Int) : n * rbot n d = d * rtop n d := by
  have e1 := rtop_mul n d
  have e2 := rbot_mul n d
  generalize rtop n d = p at *
  generalize rbot n d = q at *
  rw [← e1, ← e2]
  grind
theorem r_gcd {n d : Int} (h : d ≠ 0) : Int.gcd (rtop n d) (rbot n d) = 1 := by
  have g := gcd_pos (n := n) h
  have e : Int.gcd (rtop n d * rby n d) (rbot n d * rby n d) = Int.gcd (rtop n d) (rbot n d) * (rby n d).natAbs := Int.gcd_mul_right ..
  rw [rtop_mul, rbot_mul] at e
  have e2 : (rby n d).natAbs = Int.gcd n d := by
    unfold rby
    split <;> omega
  rw [e2] at e
  have : 1 * Int.gcd n d = Int.gcd (rtop n d) (rbot n d) * Int.gcd n d := by omega
  exact (Nat.eq_of_mul_eq_mul_right g this).symm
theorem dvd_cop {a b c : Int} (h : a ∣ b * c) (g : Int.gcd a b = 1) : a ∣ c := by
  have h1 : a.natAbs ∣ b.natAbs * c.natAbs := by
    have := Int.natAbs_dvd_natAbs.mpr h
    rwa [Int.natAbs_mul] at this
  exact Int.natAbs_dvd_natAbs.mp (Nat.Coprime.dvd_of_dvd_mul_left g h1)
/-- lowest terms are told by the cross product -/
theorem r_uniq {p q p' q' : Int} (hq : 0 < q) (hq' : 0 < q') (g : Int.gcd p q = 1) (g' : Int.gcd p' q' = 1) (e : p * q' = p' * q) : p = p' ∧ q = q' := by
  have d1 : q ∣ q' := by
    have : q ∣ p * q' := e ▸ Int.dvd_mul_left ..
    exact dvd_cop this (by rw [Int.gcd_comm]; exact g)
  have d2 : q' ∣ q := by
    have : q' ∣ p' * q := e ▸ Int.dvd_mul_left ..
    exact dvd_cop this (by rw [Int.gcd_comm]; exact g')
  have eq : q = q' := Int.dvd_antisymm (by omega) (by omega) d1 d2
  subst eq
  exact ⟨Int.eq_of_mul_eq_mul_right (by omega) e, rfl⟩
theorem r_eq {n d p q : Int} (h : d ≠ 0) (hq : 0 < q) (g : Int.gcd p q = 1) (e : n * q = p * d) : rtop n d = p ∧ rbot n d = q := by
  refine r_uniq (rbot_pos h) hq (r_gcd h) g ?_
  have e1 := rtop_mul n d
  have e2 := rbot_mul n d
  have hb := rby_ne (n := n) h
  refine Int.eq_of_mul_eq_mul_right hb ?_
  calc rtop n d * q * rby n d = n * q := by rw [← e1]; grind
    _ = p * d := e
    _ = p * rbot n d * rby n d := by rw [← e2]; grind
theorem r_self {p q : Int} (hq : 0 < q) (g : Int.gcd p q = 1) : rtop p q = p ∧ rbot p q = q := r_eq (by omega) hq g rfl
theorem r_neg {n d : Int} (h : d ≠ 0) : rtop (-n) (-d) = rtop n d ∧ rbot (-n) (-d) = rbot n d := by
  refine r_eq (by omega) (rbot_pos h) (r_gcd h) ?_
  have := r_cross n d
  grind
theorem r_one (n : Int) : rtop n 1 = n ∧ rbot n 1 = 1 := r_eq (by decide) (by decide) (by simp) (by omega)
theorem rtop_abs {n d : Int} (h : d ≠ 0) : (rtop n d).natAbs ≤ n.natAbs := by
  have e := rtop_mul n d
  have e2 : (rtop n d).natAbs * (rby n d).natAbs = n.natAbs := by rw [← Int.natAbs_mul, e]
  have := rby_ne (n := n) h
  have : 1 ≤ (rby n d).natAbs := by omega
  have := Nat.le_mul_of_pos_right (rtop n d).natAbs this
  omega
theorem rbot_abs {n d : Int} (h : d ≠ 0) : (rbot n d).natAbs ≤ d.natAbs := by
  have e := rbot_mul n d
  have e2 : (rbot n d).natAbs * (rby n d).natAbs = d.natAbs := by rw [← Int.natAbs_mul, e]
  have := rby_ne (n := n) h
  have : 1 ≤ (rby n d).natAbs := by omega
  have := Nat.le_mul_of_pos_right (rbot n d).natAbs this
  omega
/-- the text of a ratio -/
def rstr (p q : Int) : Str := if q = 1 then ((toString p : String) : Str) else ((toString p : String) : Str) ++ ("/" : Str) ++ ((toString q : String) : Str)
def rrep (p q : Int) : Str := ("Ratio(" : Str) ++ ((toString p : String) : Str) ++ (", " : Str) ++ ((toString q : String) : Str) ++ (")" : Str)
theorem log_lt {i : Int} {k : Nat} (h : i.natAbs < 2 ^ k) (hk : 0 < k) : i.natAbs.log2 < k := by
  by_cases z : i.natAbs = 0
  · rw [z]
    simpa using hk
  · exact (Nat.log2_lt z).mpr h
theorem log_le {a b k : Nat} (h : a ≤ b) (hb : b.log2 < k) : a.log2 < k := by
  by_cases z : a = 0
  · rw [z]
    have : (0 : Nat).log2 = 0 := by decide
    omega
  · exact (Nat.log2_lt z).mpr (Nat.lt_of_le_of_lt h ((Nat.log2_lt (by omega)).mp hb))
theorem gcd_le {n d : Int} (h : d ≠ 0) : Int.gcd n d ≤ d.natAbs := Nat.le_of_dvd (by omega) (Nat.gcd_dvd_right ..)
theorem cfd_gcd {m n d : Int} (h : d ≠ 0) (hl : d.natAbs.log2 < 9000) : CFd m (Int.gcd n d : Int) ∧ CFd m (-(Int.gcd n d : Int)) := by
  have g := gcd_pos (n := n) h
  have l := log_le (gcd_le (n := n) h) hl
  refine ⟨⟨by omega, ?_⟩, ⟨by omega, ?_⟩⟩
  · rw [Int.natAbs_natCast]
    exact l
  · rw [Int.natAbs_neg, Int.natAbs_natCast]
    exact l
theorem rby_p {n d : Int} (h : 0 < d) : rby n d = (Int.gcd n d : Int) := if_pos h
theorem rby_n {n d : Int} (h : ¬ 0 < d) : rby n d = -(Int.gcd n d : Int) := if_neg h
theorem leaf_rstr {p q : Int} (hp : p.natAbs.log2 < 1920) (hq : q.natAbs.log2 < 1920) : Leaf (.str (rstr p q)) := by
  have h1 := int_text_len_1921 hp
  have h2 := int_text_len_1921 hq
  unfold rstr
  split
  · exact .str (cps_int p) (by omega)
  · refine .str (cps_app (cps_app (cps_int p) (by decide)) (cps_int q)) ?_
    have e : ("/" : Str).length = 1 := rfl
    rw [Str.length_append, Str.length_append]
    omega
theorem leaf_rrep {p q : Int} (hp : p.natAbs.log2 < 1920) (hq : q.natAbs.log2 < 1920) : Leaf (.str (rrep p q)) := by
  have h1 := int_text_len_1921 hp
  have h2 := int_text_len_1921 hq
  unfold rrep
  refine .str (cps_app (cps_app (cps_app (cps_app (by decide) (cps_int p)) (by decide)) (cps_int q)) (by decide)) ?_
  have e : ("Ratio(" : Str).length = 6 := rfl
  have e2 : (", " : Str).length = 2 := rfl
  have e3 : (")" : Str).length = 1 := rfl
  rw [Str.length_append, Str.length_append, Str.length_append, Str.length_append]
  omega
end Rt
/-! ### forms that name K -/
namespace Rt
open PySem PySem.Spec PyProof.Rows L2
theorem near1 {p q : Int} (hq : 0 < q) : (decide (p = rtop (p + 1) q) && decide (q = rbot (p + 1) q)) = false := by
  have := r_cross (p + 1) q
  rw [Bool.and_eq_false_iff]
  by_cases z : p = rtop (p + 1) q
  · right
    refine decide_eq_false fun z2 => ?_
    rw [← z, ← z2] at this
    have z3 : (p + 1) * q = p * q + q := by rw [Int.add_mul, Int.one_mul]
    have z4 : q * p = p * q := Int.mul_comm ..
    omega
  · left
    exact decide_eq_false z
theorem near2 {p q : Int} (hq : 0 < q) : (decide (rtop (p + 1) q = p) && decide (rbot (p + 1) q = q)) = false := by
  have e := near1 (p := p) hq
  have c1 : decide (rtop (p + 1) q = p) = decide (p = rtop (p + 1) q) := decide_eq_decide.mpr eq_comm
  have c2 : decide (rbot (p + 1) q = q) = decide (q = rbot (p + 1) q) := decide_eq_decide.mpr eq_comm
  rw [c1, c2]
  exact e
def toB : V → Bool
  | .bl b => b
  | _ => false
theorem reprL_tb {H : Hp} {Q : VK} {a : Addr} {ys : List V} (e : H a = some (.lst ys)) (h : ys = (ys.map toB).map V.bl) (n : (ys.map toB).length ≤ 100) (q : Q (.str (PyData.list ((ys.map toB).map PyData.bool)).shown) H) : rReprL [.ref a] H Q := reprL_bls _ e h n q
theorem fin_eq {bs1 bs2 : List Bool} {Q : VK} {H : Hp} (e : bs1 = bs2) (q : Q (.bl true) H) : Q (.bl (decide ((PyData.list (bs1.map PyData.bool)).shown = (PyData.list (bs2.map PyData.bool)).shown))) H := by
  rw [decide_eq_true (congrArg (fun bs => (PyData.list (List.map PyData.bool bs)).shown) e)]
  exact q
end Rt
namespace Rt
open PySem PySem.Spec PyProof.Rows L2
section
variable {X : Cx}
theorem op_eqK {K0 : PySem.W.Frag} {k : Nat} {C : Addr} {sp : Sp} (c : Sm X.prog X.w X.K X.mg X.base k C "__eq__" sp) (hr : Room k X.A) (hK : X.K = K0 := by rfl) : OpR X (compareOp .Eq) (rEqO K0 C sp false) := by
  subst hK
  exact op_eqO c hr
theorem op_neK {K0 : PySem.W.Frag} {k : Nat} {C : Addr} {sp : Sp} (c : Sm X.prog X.w X.K X.mg X.base k C "__eq__" sp) (hn1 : PySem.W.findIn K0 (.ref C) "__ne__" = some (some (.builtin "object.__ne__"))) (hm : PySem.W.subIn K0 (.ref C) (.type "object") = some true) (hr : Room (k + 1) X.A) (hK : X.K = K0 := by rfl) : OpR X (compareOp .NotEq) (rEqO K0 C sp true) := by
  subst hK
  exact op_neO c hn1 hm hr
end
/-- [e for x in xs], each value told by its element; the values may lay new records -/
theorem lc_map {K : PySem.W.Frag} {a : Addr} {xs : List V} {g : TG} {tt : TT} {te : TE} {vs : List Nat} {σ : L2.St} {H1 : Hp} {D : Addr} {Qd : Hp → Prop} (f : V → V) (hD : H1 D = none) (ha : H1 a = some (.lst xs)) (hn : xs.length < sizeLine)
    (hs : ∀ x H, x ∈ xs → Same H1 H → ∀ (R : V → Hp → Prop) (N : Hp → Prop), (∀ y H4, Same H H4 → y = f x → R y H4) → g x (wipe σ vs) H fun σ2 H2 => wipe σ2 vs = wipe σ vs ∧ tt σ2 H2 fun b H3 => if b = true then te σ2 H3 R else N H3)
    (hd : ∀ H, Same H1 H → H D = some (.lst (xs.map f)) → Qd H) :
    ∃ W : Nat → Nat → Hp → Prop, (∃ m, W 0 m (upd H1 D (.lst []))) ∧ ∀ i m H, W i m H →
      ((Itl K a).stop i H ∧ Qd H) ∨ ((Itl K a).go i H ∧ ∃ Nx : Hp → Prop, (∀ H', Nx H' → ∃ m', m' < m ∧ W (i + 1) m' H') ∧ ∀ x H', (Itl K a).yld i H x H' → g x (wipe σ vs) H' fun σ2 H2 => wipe σ2 vs = wipe σ vs ∧ tt σ2 H2 fun b H3 =>
        if b = true then te σ2 H3 fun y H4 => ∃ acc, H4 D = some (.lst acc) ∧ acc.length < sizeLine ∧ Nx (upd H4 D (.lst (acc ++ [y]))) else Nx H3) := by
  have ne : ∀ {b : Addr} {o : HO}, H1 b = some o → b ≠ D := fun e => ne_of_none e hD
  refine lc_list (xs := xs) (fun i H => Same H1 H ∧ H D = some (.lst ((xs.take i).map f))) ⟨Same.newp hD, upd_same⟩ (fun i H _ h => SqL.of (h.1 _ _ ha)) (fun i x H hx h => ?_) (fun H h => hd H h.1 (by simpa using h.2))
  obtain ⟨s, hl⟩ := h
  refine hs x H (List.mem_of_getElem? hx) s _ _ fun y H4 s4 e => ⟨_, s4 _ _ hl, ?_, fun b o e1 => ?_, ?_⟩
  · have : i < xs.length := by
      rcases Nat.lt_or_ge i xs.length with h | h
      · exact h
      · rw [List.getElem?_eq_none h] at hx
        cases hx
    simp only [List.length_map, List.length_take]
    omega
  · rw [upd_ne (ne e1)]
    exact s4 _ _ (s _ _ e1)
  · rw [upd_same, e, List.take_succ, hx]
    simp
inductive AllV (P : V → Prop) : List V → Prop where
  | nil : AllV P []
  | cons {x : V} {xs : List V} (h : P x) (t : AllV P xs) : AllV P (x :: xs)
theorem AllV.mem {P : V → Prop} {xs : List V} {x : V} (h : AllV P xs) (m : x ∈ xs) : P x := by
  induction h with
  | nil => cases m
  | cons h _ ih =>
    cases m with
    | head => exact h
    | tail _ m => exact ih m
/-- the same by one name, with no test -/
theorem lc_mapN {K : PySem.W.Frag} {a : Addr} {xs : List V} {te : TE} {vs : List Nat} {σ : L2.St} {H1 : Hp} {D : Addr} {Qd : Hp → Prop} {n : Nat} (P : Hp → V → Prop) (f : V → V) (hD : H1 D = none) (ha : H1 a = some (.lst xs)) (hn : xs.length < sizeLine) (hall : AllV (P H1) xs)
    (hs : ∀ x H, P H1 x → Same H1 H → ∀ R : V → Hp → Prop, (∀ y H4, Same H H4 → y = f x → R y H4) → te (σ.set n (some x)) H R)
    (hd : ∀ H, Same H1 H → H D = some (.lst (xs.map f)) → Qd H) (hv : vs = [n] := by rfl) :
    ∃ W : Nat → Nat → Hp → Prop, (∃ m, W 0 m (upd H1 D (.lst []))) ∧ ∀ i m H, W i m H →
      ((Itl K a).stop i H ∧ Qd H) ∨ ((Itl K a).go i H ∧ ∃ Nx : Hp → Prop, (∀ H', Nx H' → ∃ m', m' < m ∧ W (i + 1) m' H') ∧ ∀ x H', (Itl K a).yld i H x H' → gName n x (wipe σ vs) H' fun σ2 H2 => wipe σ2 vs = wipe σ vs ∧ tYes σ2 H2 fun b H3 =>
        if b = true then te σ2 H3 fun y H4 => ∃ acc, H4 D = some (.lst acc) ∧ acc.length < sizeLine ∧ Nx (upd H4 D (.lst (acc ++ [y]))) else Nx H3) := by
  subst hv
  refine lc_map f hD ha hn (fun x H hx s R N hR => ?_) hd
  have e : (wipe σ [n]).set n (some x) = σ.set n (some x) := by
    show (σ.set n none).set n (some x) = _
    rw [List.set_set]
  show wipe ((wipe σ [n]).set n (some x)) [n] = wipe σ [n] ∧ (if true = true then te ((wipe σ [n]).set n (some x)) H R else N H)
  rw [e]
  refine ⟨?_, iteT (hs x H (hall.mem hx) s R hR)⟩
  show (σ.set n (some x)).set n none = σ.set n none
  rw [List.set_set]
theorem tnil_i {σ : L2.St} {H : Hp} {Q : List V → Hp → Prop} (h : Q [] H) : tNil σ H Q := h
end Rt
/-! ### loops whose heap grows; rows that are shown -/
namespace Rt
open PySem PySem.Spec PyProof.Rows L2
theorem at_new {H : Hp} {p a : Addr} {o w : HO} (hn : H p = none) (h : H a = some w) : upd H p o a = some w := Same.newp hn _ _ h
theorem at_ne {H : Hp} {p a : Addr} {o w : HO} (hn : a ≠ p) (h : H a = some w) : upd H p o a = some w := (upd_ne hn).trans h
theorem kp_probe {a : Addr} {H : Hp} (h : Kp a H Hbad) : Kp a H Hbad := h
theorem sm_probe {H : Hp} (h : Same H Hbad) : Same H Hbad := h
theorem tc_i {v : V} {σ : L2.St} {H : Hp} {Q : VK} (h : Q v H) : tC v σ H Q := h
theorem np {H : Hp} {p a : Addr} {o w : HO} (hn : H p = none) (h : upd H p o a = some w) : upd H p o a = some w := h
theorem hu64 {k : Nat} {A : Around} (hr : Room k A) : A.units + 64 < cLine := by
  have := hr.un
  omega
/-- for x in xs, the heap only growing -/
theorem for_same {K : PySem.W.Frag} {a : Addr} {xs : List V} {tb : TS} {D : Ends} {σ : L2.St} {H1 : Hp} {n : Nat} (P : Hp → V → Prop) (ha : H1 a = some (.lst xs)) (hne : xs ≠ []) (hall : AllV (P H1) xs)
    (hs : ∀ x H, P H1 x → Same H1 H → ∀ N : L2.St → Hp → Prop, (∀ H4, Same H H4 → N (σ.set n (some x)) H4) → tb { D with nx := N, ct := N, bk := D.nx } (σ.set n (some x)) H) (hd : ∀ x H, Same H1 H → D.nx (σ.set n (some x)) H) :
    ∃ W : Nat → Nat → L2.St → Hp → Prop, (∃ m, W 0 m σ H1) ∧ ∀ i m σ H, W i m σ H →
      ((Itl K a).stop i H ∧ D.nx σ H) ∨ ((Itl K a).go i H ∧ ∃ N : L2.St → Hp → Prop, (∀ σ' H', N σ' H' → ∃ m', m' < m ∧ W (i + 1) m' σ' H') ∧ ∀ x H', (Itl K a).yld i H x H' → gName n x σ H' fun σ2 H2 => tb { D with nx := N, ct := N, bk := D.nx } σ2 H2) := by
  refine for_list (xs := xs) (fun i σ' H => Same H1 H ∧ ((i = 0 ∧ σ' = σ) ∨ (0 < i ∧ ∃ x, σ' = σ.set n (some x)))) ⟨Same.refl _, .inl ⟨rfl, rfl⟩⟩ (fun i σ' H _ h => SqL.of (h.1 _ _ ha)) (fun i x σ' H hx h => ?_) (fun σ' H h => ?_)
  · obtain ⟨s, h⟩ := h
    have e : σ'.set n (some x) = σ.set n (some x) := by
      rcases h with ⟨_, rfl⟩ | ⟨_, y, rfl⟩
      · rfl
      · rw [List.set_set]
    show tb _ (σ'.set n (some x)) H
    rw [e]
    exact hs x H (hall.mem (List.mem_of_getElem? hx)) s _ fun H4 s4 => ⟨s.trans s4, .inr ⟨by omega, x, rfl⟩⟩
  · obtain ⟨s, h⟩ := h
    rcases h with ⟨e, _⟩ | ⟨_, x, rfl⟩
    · exact absurd (List.length_eq_zero_iff.mp e) hne
    · exact hd x H s
/-- the shown row of a ratio -/
def ratShown (p q : Int) : Str := (PyData.list [.int p, .int q, .str (rstr p q), .str (rrep p q), .int p, .int q]).shown
theorem reprL_rat {H : Hp} {Q : VK} {a : Addr} {p q : Int} {x y : Str} (e : H a = some (.lst [.int p, .int q, .str x, .str y, .int p, .int q])) (hx : x = rstr p q) (hy : y = rrep p q) (l : p.natAbs.log2 < 1920 ∧ q.natAbs.log2 < 1920) (k : Q (.str (ratShown p q)) H) : rReprL [.ref a] H Q := by
  subst hx hy
  refine ⟨a, _, [.int p, .int q, .str (rstr p q), .str (rrep p q), .int p, .int q], rfl, e, .cons (.int _) (.cons (.int _) (.cons (.str _) (.cons (.str _) (.cons (.int _) (.cons (.int _) .nil))))), ?_, Nat.le_of_ble_eq_true rfl, k⟩
  intro d hd
  simp only [List.mem_cons, List.not_mem_nil, or_false] at hd
  rcases hd with rfl | rfl | rfl | rfl | rfl | rfl
  · exact .int l.1
  · exact .int l.2
  · exact leaf_rstr l.1 l.2
  · exact leaf_rrep l.1 l.2
  · exact .int l.1
  · exact .int l.2
theorem ne_same {K : PySem.W.Frag} {H : Hp} {Q : VK} {a b : Addr} {xs ys : List V} {ds : List PyData} (ea : H a = some (.lst xs)) (eb : H b = some (.lst ys)) (h1 : DpAll K H xs ds) (h2 : DpAll K H ys ds) (hs : SeqAt.shaped (.list ds) = true) (k : Q (.bl false) H) : rNeD K (.ref a) (.ref b) H Q :=
  ⟨_, _, .lst (SqL.of ea) h1, .lst (SqL.of eb) h2, hs, hs, by rw [PySem.SeqAt.eqv_refl _ (SeqAt.canLay_of_shaped hs)]; exact k⟩
end Rt
/-! ### the law's call, where the guards are told -/
namespace Rt
open PySem PySem.Spec PyProof.Rows L2
section
variable {P : Program} {w : World} {K : PySem.W.Frag} {mg mb : Str → Option Value} {k : Nat} {fa a : Addr} {fd : FuncData} {x : Str} {sp : Sp} {s : Shared} {vs : List Value} {ns : List Int}
/-- the law's def at a heap of which at most the script is tracked -/
theorem top_run {H : Hp} (KX : K.In s.heap) (hns : s.heap.Ns mainGlobals mg) (hb : s.heap.Ns builtinsNs mb) (hbb : ∀ y : Str, y ≠ "__name__" → mb y = bootBuiltins y) (hlim : s.heap.NoLimit) (hg : s.gens = #[])
    (ha : s.heap.get? a = some { cls := .type "list", data := .seq vs.toArray }) (hr : Room k callerA) (tr : ∀ b u, H b = some u → b = a ∧ K.lookup b = none ∧ ∃ o xs, u = .frz o (.lst xs)) (hok : HOk P w H s.heap)
    (F : ∀ base : Heap, FnG P w K mg base k fa fd [x] sp) (hbind : ∀ (s : Shared) (u : Value), BindsTo s fd ⟨[u], []⟩ [(x, u)]) (h : sp [.ref a] H (fun v _ => v = .bl true) fun _ _ _ => False) :
    codeAny (model P w) callerA (.call (.ref fa) ⟨[.ref a], []⟩) (fun r s' => r = .ok (.ret (.bool true)) ∧ OldK s.heap s'.heap ∧ s'.os = s.os ∧ AllBare s'.gens) s := by
  have free : ∀ {b : Addr}, (∀ u, H b = some u → False) → H b = none := fun {b} q => by
    cases e : H b with
    | none => rfl
    | some u => exact (q u e).elim
  have names : ∀ {b : Addr} {m : Str → Option Value}, s.heap.Ns b m → (hidT s.heap H).Ns b m := fun {b m} ⟨o, es, ep, e, d, r⟩ => by
    refine ⟨o, es, ep, hidT_get e (free fun u q => ?_), d, r⟩
    have z := (tr b u q).1
    rw [z, ha] at e
    cases e
    cases d
  have written : K.In (hidT s.heap H) := fun b o e => by
    refine hidT_get (KX b o e) (free fun u q => ?_)
    rw [(tr b u q).2.1] at e
    cases e
  obtain ⟨mc, c1, c2⟩ := hlim
  have env : Env0 P w K mg (hidT s.heap H) callerA [] s H := ⟨rfl, ⟨written, names hns, ⟨mb, names hb, hbb⟩, ⟨mc, names c1, c2⟩⟩, fun b o e => of_hidT e, Nat.le_of_eq (hidT_size _ _), trivial, fun b z => (List.not_mem_nil (show b ∈ ([] : List Addr) from z)).elim, hok, .of_eq hg⟩
  refine codeAny_mono ((F _).run callerA [] s H ⟨[.ref a], []⟩ [.ref a] [.ref a] _ _ rfl hr env (hbind s (.ref a)) (.cons rfl .nil) h) fun r s' q => ?_
  cases r with
  | error e =>
    obtain ⟨_, _, _, _, _, _, _, _, _, _, _, _, z⟩ := q
    exact z.elim
  | ok fl =>
    cases fl with
    | next => exact q.elim
    | brk => exact q.elim
    | cont => exact q.elim
    | ret u =>
      obtain ⟨v, H', os, bare, un, hok', rv, e⟩ := q
      cases (show v = V.bl true from e)
      cases (show u = Value.bool true from rv)
      refine ⟨rfl, OldK.of_keep fun b o e => ?_, os, bare⟩
      cases q : H b with
      | none => exact un.keep b o e q (fun z => (List.not_mem_nil (show b ∈ ([] : List Addr) from z)).elim) (by simp)
      | some t =>
        obtain ⟨_, _, ob, xs, rfl⟩ := tr b t q
        have o1 := (hok b _ q).1
        have o2 := (hok' b _ (un.frzs b ob _ q)).1
        rw [o1] at e
        cases e
        exact o2
end
/-- the script alone is told, as the object that stands there -/
def scriptH (a : Addr) (ob : Obj) (xs : List V) : Hp := fun b => if b = a then some (.frz ob (.lst xs)) else none
theorem walk_ofG {l : PySem.W.OpenLaw} {n k : Nat} {q : Program} {loose : List Str} {XP : (Str → Option Value) → Heap → Prop} {YP : World → Heap → Prop} {d : DefRec} {x : Str} (hn : l.most = some n) (hn2 : n ≤ sizeLine) (hdf : d.params.defaults = []) (hr : Room k callerA)
    (F : ∀ (w : World) (mg : Str → Option Value) (fa : Addr) (h : Heap), YP w h → h.Ns mainGlobals mg → mg d.name = some (.ref fa) → ∃ (K : PySem.W.Frag) (fd : FuncData) (sp : Sp), K.In h ∧ (∀ (s : Shared) (u : Value), BindsTo s fd ⟨[u], []⟩ [(x, u)]) ∧
      (∀ (H : Hp) (a : Addr) (ns : List Int), ns.length ≤ n → SqL K H a (ns.map V.int) → sp [.ref a] H (fun v _ => v = .bl true) fun _ _ _ => False) ∧ ∀ base : Heap, FnG l.prog w K mg base k fa fd [x] sp) :
    PySem.W.WalkO q loose XP YP l.row.toRowW d [] (fun f vs => PySem.call f vs) := by
  refine Att.attach_call hn hdf fun w s₀ s₁ mg mb fa o pm cd doc a vs ns G Y ho hd hcd hmg hobj hints hlen hg => ?_
  obtain ⟨K, fd, sp, KX, hb, hsp, hF⟩ := F w mg fa _ Y G.T.g hmg
  have rv := vals_ints hints
  have lv := hints.length
  have lz : ns.length ≤ sizeLine := Nat.le_trans hlen hn2
  cases hk : K.lookup a with
  | some ob =>
    have e := KX a ob hk
    rw [hobj] at e
    cases e
    exact top_run (H := fun _ => none) KX G.T.g G.T.b G.T.builtins G.T.nolimit hg hobj hr (fun b u z => by cases z) (fun b u z => by cases z) hF hb
      (hsp _ a ns hlen (.inr ⟨_, vs.toArray, _, hk, rfl, rfl, rfl, by rw [List.size_toArray, lv]; exact lz, by simpa using rv⟩))
  | none =>
    have at_ : ∀ b u, scriptH a { cls := .type "list", data := .seq vs.toArray } (ns.map V.int) b = some u → b = a ∧ u = .frz { cls := .type "list", data := .seq vs.toArray } (.lst (ns.map V.int)) := fun b u z => by
      unfold scriptH at z
      split at z
      · rename_i e
        cases z
        exact ⟨e, rfl⟩
      · cases z
    refine top_run (H := scriptH a { cls := .type "list", data := .seq vs.toArray } (ns.map V.int)) KX G.T.g G.T.b G.T.builtins G.T.nolimit hg hobj hr (fun b u z => ?_) (fun b u z => ?_) hF hb (hsp _ a ns hlen (.inl (.inr ⟨_, if_pos rfl⟩)))
    · obtain ⟨rfl, rfl⟩ := at_ b u z
      exact ⟨rfl, hk, _, _, rfl⟩
    · obtain ⟨rfl, rfl⟩ := at_ b u z
      exact ⟨hobj, by rw [List.length_map]; exact lz, vs, _, rv, hobj⟩
end Rt
/-! ### own arithmetic: + - * // % ** and minus, abs -/
namespace Rt
open PySem PySem.Spec PyProof.Rows L2 PySem.W
section
variable {prog : Program} {w : World} {A : Around} {E : Value → Shared → Prop} {s : Shared} {K : Frag} {x C f : Addr} {ox : Obj} {od : Option Obj}
/-- int op instance: the int declines, the reflected def answers -/
theorem bin_right {op : Operator} {i : Int} {t : Tok} {id : String} {f0 : Addr} {Q : Value → Shared → Prop} (X : K.In s.heap) (I : W.InstAt s.heap x ox C od) (hc : selfFirst K C = true) (hs : findIn K (.ref C) (PySem.dunder op.info.2) = some (some (.ref f0)))
    (hr : findIn K (.ref C) (dunderR op.info.2) = some (some (.ref f))) (hf : isFn K (.ref f) = true) (fl : fillsNumberSlot (.type "int") op.info.2 = pure true) (S : Slot "int" (PySem.dunder op.info.2) id) (hsub : subIn K (.ref C) (.type "int") = some false)
    (dec : ∀ R : Value → Shared → Prop, R .notImplemented s → wpAny (model prog w) A (call (.builtin id) [.int i t, .ref x]) R E s)
    (h : wpAny (model prog w) A (call (.ref f) [.ref x, .int i t]) (W.CmpBack Q) E s) : wpAny (model prog w) A (binaryOp op (.int i t) (.ref x)) Q E s := by
  obtain ⟨cd, hcd, hm⟩ := any_some hc
  obtain ⟨rest, hm⟩ : ∃ rest, cd.mro = .ref C :: rest := by
    cases q : cd.mro with
    | nil => rw [q] at hm; cases hm
    | cons a r => rw [q] at hm; exact ⟨r, by rw [List.head?_cons] at hm; cases (beq_iff_eq.mp hm); rfl⟩
  rcases hi : op.info with ⟨sym, nm⟩
  rw [hi] at hs hr fl S
  dsimp only at hs hr fl S
  simp only [binaryOp, hi]
  refine wpAny_holding (wpAny_bind ?_)
  unfold binaryOp1
  refine wpAny_bind (wpAny_typeOf (typeIs_int _ _ _) (wpAny_bind (I.type.here (wpAny_bind (wpAny_of_eq fl ?_)))))
  have hne : (Value.type "int" == Value.ref C) = false := Bool.eq_false_iff.mpr fun q => by cases beq_iff_eq.mp q
  simp only [hne, Bool.false_eq_true, if_false]
  refine wpAny_bind ((fills_K X hcd hm hs).here ?_)
  simp only [Bool.and_self, if_true]
  refine wpAny_bind ((looks_subIn X hsub).here ?_)
  simp only [Bool.false_eq_true, if_false, Bool.not_false, Bool.and_self, if_true]
  refine wpAny_bind (m := numberSlotInPython (.type "int") nm) (wpAny_pure ?_)
  simp only [Bool.false_eq_true, if_false, Bool.not_false, Bool.and_self, if_true]
  refine wpAny_bind (m := tryMethod (.int i t) _ (.ref x)) (wpAny_tryMethod_declines (typeIs_int _ _ _) S (dec _ ⟨rfl, ?_⟩))
  refine wpAny_bind (m := tryMethod (.ref x) _ (.int i t)) ?_
  unfold tryMethod
  refine wpAny_bind (special_fn X I hr (beq_iff_eq.mp hf) (wpAny_mono h (fun v s' hv => ?_) fun _ _ e => e))
  cases v <;> first | exact hv.elim | exact wpAny_pure (wpAny_bind (wpAny_rule (wpAny_pure (wpAny_pure hv))))
theorem no_add {b dx : Addr} {i : Int} {t : Tok} {Q : Value → Shared → Prop} (hb : s.heap.get? b = some (instObj C dx)) (q : Q .notImplemented s) : wpAny (model prog w) A (call (.builtin "int.__add__") [.int i t, .ref b]) Q E s := by
  refine GQ.call_here PySem.F.slot_int_add (typeIs_int _ _ _) PySem.F.entry_int_add (PySem.F.args_int_add_2 _ _) ?_
  obtain ⟨hp, g, d, tk, os⟩ := s
  wp_walk using asInt_ins hb
  exact q
theorem no_sub {b dx : Addr} {i : Int} {t : Tok} {Q : Value → Shared → Prop} (hb : s.heap.get? b = some (instObj C dx)) (q : Q .notImplemented s) : wpAny (model prog w) A (call (.builtin "int.__sub__") [.int i t, .ref b]) Q E s := by
  refine GQ.call_here PySem.F.slot_int_sub (typeIs_int _ _ _) PySem.F.entry_int_sub (PySem.F.args_int_sub_2 _ _) ?_
  obtain ⟨hp, g, d, tk, os⟩ := s
  wp_walk using asInt_ins hb
  exact q
theorem no_mul {b dx : Addr} {i : Int} {t : Tok} {Q : Value → Shared → Prop} (hb : s.heap.get? b = some (instObj C dx)) (q : Q .notImplemented s) : wpAny (model prog w) A (call (.builtin "int.__mul__") [.int i t, .ref b]) Q E s := by
  refine GQ.call_here PySem.F.slot_int_mul (typeIs_int _ _ _) PySem.F.entry_int_mul (PySem.F.args_int_mul_2 _ _) ?_
  obtain ⟨hp, g, d, tk, os⟩ := s
  wp_walk using asInt_ins hb
  exact q
theorem no_floordiv {b dx : Addr} {i : Int} {t : Tok} {Q : Value → Shared → Prop} (hb : s.heap.get? b = some (instObj C dx)) (q : Q .notImplemented s) : wpAny (model prog w) A (call (.builtin "int.__floordiv__") [.int i t, .ref b]) Q E s := by
  refine GQ.call_here PySem.F.slot_int_floordiv (typeIs_int _ _ _) PySem.F.entry_int_floordiv (PySem.F.args_int_floordiv_2 _ _) ?_
  obtain ⟨hp, g, d, tk, os⟩ := s
  wp_walk using asInt_ins hb
  exact q
theorem no_mod {b dx : Addr} {i : Int} {t : Tok} {Q : Value → Shared → Prop} (hb : s.heap.get? b = some (instObj C dx)) (q : Q .notImplemented s) : wpAny (model prog w) A (call (.builtin "int.__mod__") [.int i t, .ref b]) Q E s := by
  refine GQ.call_here PySem.F.slot_int_mod (typeIs_int _ _ _) PySem.F.entry_int_mod (PySem.F.args_int_mod_2 _ _) ?_
  obtain ⟨hp, g, d, tk, os⟩ := s
  wp_walk using asInt_ins hb
  exact q
theorem abs_own {Q : Value → Shared → Prop} (X : K.In s.heap) (I : W.InstAt s.heap x ox C od) (hs : findIn K (.ref C) "__abs__" = some (some (.ref f))) (hf : isFn K (.ref f) = true)
    (h : wpAny (model prog w) A.in1 (call (.ref f) [.ref x]) Q E s) : wpAny (model prog w) A (call (.builtin "abs") [.ref x]) Q E s := by
  refine Calls.call_function_entry kind_abs plain_abs entry_abs (args_abs _) ?_
  unfold Builtin.«abs»
  refine wpAny_bind (m := oneArg "abs" _) (wpAny_pure ?_)
  refine wpAny_bind (m := callSpecial? (.ref x) (Str.ofString "__abs__")) (special_fn X I hs (beq_iff_eq.mp hf) (wpAny_mono h (fun v s' hv => ?_) fun _ _ e => e))
  exact wpAny_pure ⟨_, rfl, hv⟩
end
end Rt
/-! ### the same over the layer -/
namespace Rt
open PySem PySem.Spec PyProof.Rows L2
theorem Sm.up {P : Program} {w : World} {K : PySem.W.Frag} {mg : Str → Option Value} {base : Heap} {k j : Nat} {C : Addr} {m : Str} {sp : Sp} (c : Sm P w K mg base k C m sp) (h : k ≤ j) : Sm P w K mg base j C m sp := by
  obtain ⟨f, fd, ps, F, r⟩ := c.ex
  exact ⟨f, fd, ps, F.mono h, r⟩
/-- x op y by own defs: instance and instance, instance and int, int and instance -/
def rBinO (C : Addr) (sp spr : Sp) : R2 := fun x y H Q =>
  (∃ a dx fs b dy gs, x = .ref a ∧ y = .ref b ∧ H a = some (.ins C dx fs) ∧ H b = some (.ins C dy gs) ∧ sp [x, y] H (fun v H' => ∃ r, v = .ref r ∧ Q (.ref r) H') E0) ∨
  (∃ a dx fs i, x = .ref a ∧ y = .int i ∧ H a = some (.ins C dx fs) ∧ sp [x, y] H (fun v H' => ∃ r, v = .ref r ∧ Q (.ref r) H') E0) ∨
  ∃ i b dy gs, x = .int i ∧ y = .ref b ∧ H b = some (.ins C dy gs) ∧ spr [y, x] H (fun v H' => ∃ r, v = .ref r ∧ Q (.ref r) H') E0
/-- x op n by an own def of the left -/
def rPowO (C : Addr) (sp : Sp) : R2 := fun x y H Q => ∃ a dx fs i, x = .ref a ∧ y = .int i ∧ H a = some (.ins C dx fs) ∧ sp [x, y] H (fun v H' => ∃ r, v = .ref r ∧ Q (.ref r) H') E0
section
variable {X : Cx} {pins : List (Addr × Obj)} {σ : L2.St} {H : Hp} {s : Shared}
theorem ref_end {Q : VK} {v : Value} {s' : Shared} (h : EP X pins σ (fun v H' => ∃ r, v = .ref r ∧ Q (.ref r) H') v s') : PySem.W.CmpBack (EP X pins σ Q) v s' := by
  obtain ⟨z, H', I', rz, r, rfl, q⟩ := h
  cases (show v = Value.ref r from rz)
  exact ⟨.ref r, H', I', rfl, q⟩
theorem left_int {op : Operator} {k : Nat} {C : Addr} {m : Str} {rc : Option Value} {sp : Sp} (c : Sm X.prog X.w X.K X.mg X.base k C m sp) (hr : Room k X.A) (hc : PySem.W.selfFirst X.K C = true) (hm : PySem.dunder op.info.2 = m)
    (hrc : PySem.W.findIn X.K (.ref C) (dunderR op.info.2) = some rc) (hp : rc = none ∨ ∃ g : Addr, rc = some (.ref g)) (h1 : ∃ fo, PySem.W.findIn X.K (.type "int") (PySem.dunder op.info.2) = some fo) (h2 : ∃ ro, PySem.W.findIn X.K (.type "int") (dunderR op.info.2) = some ro)
    {a dx : Addr} {fs : List (Str × V)} {i : Int} {t : Tok} {Q : VK} (I : Inv X pins σ H s) (ea : H a = some (.ins C dx fs)) (q : sp [.ref a, .int i] H (fun v H' => ∃ r, v = .ref r ∧ Q (.ref r) H') E0) :
    wpAny (model X.prog X.w) X.A (binaryOp op (.ref a) (.int i t)) (EP X pins σ Q) X.xe s := by
  obtain ⟨f, fd, ps, F, hs, hf, kp, b⟩ := c.ex
  obtain ⟨od, J⟩ := ins_at I ea
  obtain ⟨m', hF⟩ := I.fr
  obtain ⟨fo, h1⟩ := h1
  obtain ⟨ro, h2⟩ := h2
  exact PySem.W.ksp_binT (T := "int") hF I.ok.mod.kin J rfl hc (by rw [hm]; exact hs) hf hrc hp h1 h2 rfl (thn (run_at (vs := [.ref a, .int i]) (Sub.here hr) F b passL I (.cons rfl (.cons ⟨t, rfl⟩ .nil)) q) fun w s' hw => ref_end hw)
theorem op_binO {op : Operator} {k : Nat} {C : Addr} {m mr : Str} {sp spr : Sp} {id : String} (c : Sm X.prog X.w X.K X.mg X.base k C m sp) (cr : Sm X.prog X.w X.K X.mg X.base k C mr spr) (hr : Room k X.A) (hc : PySem.W.selfFirst X.K C = true) (hm : PySem.dunder op.info.2 = m) (hmr : dunderR op.info.2 = mr)
    (h1 : ∃ fo, PySem.W.findIn X.K (.type "int") (PySem.dunder op.info.2) = some fo) (h2 : ∃ ro, PySem.W.findIn X.K (.type "int") (dunderR op.info.2) = some ro) (fl : fillsNumberSlot (.type "int") op.info.2 = pure true) (S : Slot "int" (PySem.dunder op.info.2) id)
    (hu : PySem.W.subIn X.K (.ref C) (.type "int") = some false) (no : ∀ {A : Around} {E : Value → Shared → Prop} {s : Shared} {b dx : Addr} {i : Int} {t : Tok} {Q : Value → Shared → Prop}, s.heap.get? b = some (PySem.W.instObj C dx) → Q .notImplemented s → wpAny (model X.prog X.w) A (call (.builtin id) [.int i t, .ref b]) Q E s) :
    OpR X (binaryOp op) (rBinO C sp spr) := by
  intro pins s σ H x y v u Q I rx ry h
  obtain ⟨f, fd, ps, F, hs, hf, kp, b⟩ := c.ex
  obtain ⟨f', fd', ps', F', hs', hf', kp', b'⟩ := cr.ex
  rcases h with ⟨a, dx, fs, a2, dy, gs, rfl, rfl, ea, eb, q⟩ | ⟨a, dx, fs, i, rfl, rfl, ea, q⟩ | ⟨i, a, dx, fs, rfl, rfl, ea, q⟩
  · cases (show v = Value.ref a from rx)
    cases (show u = Value.ref a2 from ry)
    obtain ⟨od, J⟩ := ins_at I ea
    obtain ⟨od2, J2⟩ := ins_at I eb
    obtain ⟨m', hF⟩ := I.fr
    exact PySem.W.binop_K hF I.ok.mod.kin J J2.type hc (by rw [hm]; exact hs) hf (thn (run_at (vs := [.ref a, .ref a2]) (Sub.here hr) F b passL I (.cons rfl (.cons rfl .nil)) q) fun w s' hw => ref_end hw)
  · cases (show v = Value.ref a from rx)
    obtain ⟨t, rfl⟩ := (show ∃ t, u = Value.int i t from ry)
    exact left_int c hr hc hm (by rw [hmr]; exact hs') (.inr ⟨_, rfl⟩) h1 h2 I ea q
  · obtain ⟨t, rfl⟩ := (show ∃ t, v = Value.int i t from rx)
    cases (show u = Value.ref a from ry)
    obtain ⟨od, J⟩ := ins_at I ea
    exact bin_right I.kIn J hc (by rw [hm]; exact hs) (by rw [hmr]; exact hs') hf' fl S hu (fun R r => no J.at_ r) (thn (run_at (vs := [.ref a, .int i]) (Sub.here hr) F' b' passL I (.cons rfl (.cons ⟨t, rfl⟩ .nil)) q) fun w s' hw => ref_end hw)
theorem op_powO {k : Nat} {C : Addr} {sp : Sp} (c : Sm X.prog X.w X.K X.mg X.base k C "__pow__" sp) (hr : Room k X.A) (hc : PySem.W.selfFirst X.K C = true) (hno : PySem.W.findIn X.K (.ref C) "__rpow__" = some none) : OpR X (binaryOp .Pow) (rPowO C sp) := by
  intro pins s σ H x y v u Q I rx ry h
  obtain ⟨a, dx, fs, i, rfl, rfl, ea, q⟩ := h
  cases (show v = Value.ref a from rx)
  obtain ⟨t, rfl⟩ := (show ∃ t, u = Value.int i t from ry)
  exact left_int (m := "__pow__") c hr hc (by decide +kernel) (rc := none) (by
    have e : dunderR (Operator.info .Pow).2 = ("__rpow__" : Str) := by decide +kernel
    rw [e]
    exact hno) (.inl rfl) ⟨some (.builtin "int.__pow__"), by kernel_rfl⟩ ⟨some (.builtin "int.__rpow__"), by kernel_rfl⟩ I ea q
def rNegO (C : Addr) (sp : Sp) : V → Hp → VK → Prop := fun x H Q => ∃ a dx fs, x = .ref a ∧ H a = some (.ins C dx fs) ∧ sp [x] H Q E0
theorem un_negO {k : Nat} {C : Addr} {sp : Sp} (c : Sm X.prog X.w X.K X.mg X.base k C "__neg__" sp) (hr : Room k X.A) : UnR X (unaryOp .USub) (rNegO C sp) := by
  intro pins s σ H x v Q I rx h
  obtain ⟨f, fd, ps, F, hs, hf, kp, b⟩ := c.ex
  obtain ⟨a, dx, fs, rfl, ea, q⟩ := h
  cases (show v = Value.ref a from rx)
  obtain ⟨od, J⟩ := ins_at I ea
  obtain ⟨m', hF⟩ := I.fr
  exact PySem.W.ksp_neg hF I.ok.mod.kin J hs hf (run_at (vs := [.ref a]) (Sub.here hr) F b passL I (.cons rfl .nil) q)
def rAbsO (C : Addr) (sp : Sp) : List V → Hp → VK → Prop := fun xs H Q => ∃ a dx fs, xs = [.ref a] ∧ H a = some (.ins C dx fs) ∧ sp xs H Q E0
theorem call_absO {k : Nat} {C : Addr} {sp : Sp} (c : Sm X.prog X.w X.K X.mg X.base k C "__abs__" sp) (hr : Room (k + 1) X.A) : CallR X (.builtin "abs") (rAbsO C sp) := by
  intro pins s σ H xs us Q I r h
  obtain ⟨f, fd, ps, F, hs, hf, kp, b⟩ := c.ex
  obtain ⟨a, dx, fs, rfl, ea, q⟩ := h
  have e := Vals.ref1 r
  subst e
  obtain ⟨od, J⟩ := ins_at I ea
  exact abs_own I.kIn J hs hf (thn (run_at ⟨hr.in1, rfl⟩ F b passL I r q) fun w s' hw => hw)
/-- instance op instance -/
def rBinL (C : Addr) (sp : Sp) : R2 := fun x y H Q => ∃ a dx fs b dy gs, x = .ref a ∧ y = .ref b ∧ H a = some (.ins C dx fs) ∧ H b = some (.ins C dy gs) ∧ sp [x, y] H (fun v H' => ∃ r, v = .ref r ∧ Q (.ref r) H') E0
theorem op_binL {op : Operator} {k : Nat} {C : Addr} {m : Str} {sp : Sp} (c : Sm X.prog X.w X.K X.mg X.base k C m sp) (hr : Room k X.A) (hc : PySem.W.selfFirst X.K C = true) (hm : PySem.dunder op.info.2 = m) : OpR X (binaryOp op) (rBinL C sp) := by
  intro pins s σ H x y v u Q I rx ry h
  obtain ⟨f, fd, ps, F, hs, hf, kp, b⟩ := c.ex
  obtain ⟨a, dx, fs, a2, dy, gs, rfl, rfl, ea, eb, q⟩ := h
  cases (show v = Value.ref a from rx)
  cases (show u = Value.ref a2 from ry)
  obtain ⟨od, J⟩ := ins_at I ea
  obtain ⟨od2, J2⟩ := ins_at I eb
  obtain ⟨m', hF⟩ := I.fr
  exact PySem.W.binop_K hF I.ok.mod.kin J J2.type hc (by rw [hm]; exact hs) hf (thn (run_at (vs := [.ref a, .ref a2]) (Sub.here hr) F b passL I (.cons rfl (.cons rfl .nil)) q) fun w s' hw => ref_end hw)
theorem op_addO {k j : Nat} {C : Addr} {sp spr : Sp} (c : Sm X.prog X.w X.K X.mg X.base k C "__add__" sp) (cr : Sm X.prog X.w X.K X.mg X.base j C "__radd__" spr) (hr : Room (max k j) X.A) (hc : PySem.W.selfFirst X.K C = true) (hu : PySem.W.subIn X.K (.ref C) (.type "int") = some false) : OpR X (binaryOp .Add) (rBinO C sp spr) :=
  op_binO (m := "__add__") (mr := "__radd__") (c.up (Nat.le_max_left ..)) (cr.up (Nat.le_max_right ..)) hr hc (by decide +kernel) (by decide +kernel) ⟨some (.builtin "int.__add__"), by kernel_rfl⟩ ⟨some (.builtin "int.__radd__"), by kernel_rfl⟩ PySem.F.fills_int_add PySem.F.slot_int_add hu fun hb q => no_add hb q
theorem op_subO {k j : Nat} {C : Addr} {sp spr : Sp} (c : Sm X.prog X.w X.K X.mg X.base k C "__sub__" sp) (cr : Sm X.prog X.w X.K X.mg X.base j C "__rsub__" spr) (hr : Room (max k j) X.A) (hc : PySem.W.selfFirst X.K C = true) (hu : PySem.W.subIn X.K (.ref C) (.type "int") = some false) : OpR X (binaryOp .Sub) (rBinO C sp spr) :=
  op_binO (m := "__sub__") (mr := "__rsub__") (c.up (Nat.le_max_left ..)) (cr.up (Nat.le_max_right ..)) hr hc (by decide +kernel) (by decide +kernel) ⟨some (.builtin "int.__sub__"), by kernel_rfl⟩ ⟨some (.builtin "int.__rsub__"), by kernel_rfl⟩ PySem.F.fills_int_sub PySem.F.slot_int_sub hu fun hb q => no_sub hb q
theorem op_mulO {k j : Nat} {C : Addr} {sp spr : Sp} (c : Sm X.prog X.w X.K X.mg X.base k C "__mul__" sp) (cr : Sm X.prog X.w X.K X.mg X.base j C "__rmul__" spr) (hr : Room (max k j) X.A) (hc : PySem.W.selfFirst X.K C = true) (hu : PySem.W.subIn X.K (.ref C) (.type "int") = some false) : OpR X (binaryOp .Mult) (rBinO C sp spr) :=
  op_binO (m := "__mul__") (mr := "__rmul__") (c.up (Nat.le_max_left ..)) (cr.up (Nat.le_max_right ..)) hr hc (by decide +kernel) (by decide +kernel) ⟨some (.builtin "int.__mul__"), by kernel_rfl⟩ ⟨some (.builtin "int.__rmul__"), by kernel_rfl⟩ PySem.F.fills_int_mul PySem.F.slot_int_mul hu fun hb q => no_mul hb q
theorem op_floordivO {k j : Nat} {C : Addr} {sp spr : Sp} (c : Sm X.prog X.w X.K X.mg X.base k C "__floordiv__" sp) (cr : Sm X.prog X.w X.K X.mg X.base j C "__rfloordiv__" spr) (hr : Room (max k j) X.A) (hc : PySem.W.selfFirst X.K C = true) (hu : PySem.W.subIn X.K (.ref C) (.type "int") = some false) : OpR X (binaryOp .FloorDiv) (rBinO C sp spr) :=
  op_binO (m := "__floordiv__") (mr := "__rfloordiv__") (c.up (Nat.le_max_left ..)) (cr.up (Nat.le_max_right ..)) hr hc (by decide +kernel) (by decide +kernel) ⟨some (.builtin "int.__floordiv__"), by kernel_rfl⟩ ⟨some (.builtin "int.__rfloordiv__"), by kernel_rfl⟩ PySem.F.fills_int_floordiv PySem.F.slot_int_floordiv hu fun hb q => no_floordiv hb q
theorem op_modO {k j : Nat} {C : Addr} {sp spr : Sp} (c : Sm X.prog X.w X.K X.mg X.base k C "__mod__" sp) (cr : Sm X.prog X.w X.K X.mg X.base j C "__rmod__" spr) (hr : Room (max k j) X.A) (hc : PySem.W.selfFirst X.K C = true) (hu : PySem.W.subIn X.K (.ref C) (.type "int") = some false) : OpR X (binaryOp .Mod) (rBinO C sp spr) :=
  op_binO (m := "__mod__") (mr := "__rmod__") (c.up (Nat.le_max_left ..)) (cr.up (Nat.le_max_right ..)) hr hc (by decide +kernel) (by decide +kernel) ⟨some (.builtin "int.__mod__"), by kernel_rfl⟩ ⟨some (.builtin "int.__rmod__"), by kernel_rfl⟩ PySem.F.fills_int_mod PySem.F.slot_int_mod hu fun hb q => no_mod hb q
end
end Rt
/-! ### ratios as rational numbers -/
namespace Rt
open PySem PySem.Spec PyProof.Rows L2
theorem den_ne (r : Rat) : (r.den : Int) ≠ 0 := by
  have := r.den_nz
  omega
theorem den_pos (r : Rat) : (0 : Int) < r.den := by
  have := r.den_nz
  omega
theorem rat_dm {n d : Int} (h : d ≠ 0) : (Rat.divInt n d).num * d = n * (Rat.divInt n d).den :=
  (Rat.divInt_eq_divInt_iff (den_ne _) h).mp (Rat.num_divInt_den (Rat.divInt n d))
theorem r_divInt {n d : Int} (h : d ≠ 0) : rtop n d = (Rat.divInt n d).num ∧ rbot n d = (Rat.divInt n d).den := by
  refine r_eq h (den_pos _) ?_ (rat_dm h).symm
  have := (Rat.divInt n d).reduced
  show Nat.gcd _ _ = 1
  rw [Int.natAbs_natCast]
  exact this
theorem ra_add (r s : Rat) : Rat.divInt (r.num * s.den + s.num * r.den) (r.den * s.den) = r + s := by
  have e := Rat.divInt_add_divInt r.num s.num (den_ne r) (den_ne s)
  rw [Rat.num_divInt_den, Rat.num_divInt_den] at e
  exact e.symm
theorem ra_sub (r s : Rat) : Rat.divInt (r.num * s.den - s.num * r.den) (r.den * s.den) = r - s := by
  have e := Rat.divInt_add_divInt r.num (-s.num) (den_ne r) (den_ne s)
  rw [Rat.num_divInt_den, ← Rat.neg_divInt, Rat.num_divInt_den, Int.neg_mul, ← Int.sub_eq_add_neg, ← Rat.sub_eq_add_neg] at e
  exact e.symm
theorem ra_mul (r s : Rat) : Rat.divInt (r.num * s.num) (r.den * s.den) = r * s := by
  have e := Rat.divInt_mul_divInt r.num s.num (d₁ := r.den) (d₂ := s.den)
  rw [Rat.num_divInt_den, Rat.num_divInt_den] at e
  exact e.symm
theorem ra_neg (r : Rat) : Rat.divInt (-r.num) r.den = -r := by
  rw [← Rat.neg_divInt, Rat.num_divInt_den]
theorem ra_one (n : Int) : Rat.divInt n 1 = (n : Rat) := by
  have := Rat.num_divInt_den (n : Rat)
  rw [Rat.num_intCast, Rat.den_intCast] at this
  exact this
theorem ra_self (r : Rat) : Rat.divInt r.num r.den = r := Rat.num_divInt_den r
theorem ra_div {r s : Rat} (h : s.num ≠ 0) : Rat.divInt (r.num * s.den) (r.den * s.num) = r / s := by
  have e := Rat.divInt_mul_divInt r.num s.den (d₁ := r.den) (d₂ := s.num)
  rw [Rat.num_divInt_den] at e
  rw [← e, Rat.div_def]
  congr 1
  exact (Rat.inv_def s).symm
/-- the size of a rational: bits of its parts -/
def Bd (k : Nat) (r : Rat) : Prop := r.num.natAbs < 2 ^ k ∧ r.den < 2 ^ k
theorem Bd.mono {j k : Nat} {r : Rat} (h : Bd j r) (l : j ≤ k) : Bd k r :=
  ⟨Nat.lt_of_lt_of_le h.1 (Nat.pow_le_pow_right (by decide) l), Nat.lt_of_lt_of_le h.2 (Nat.pow_le_pow_right (by decide) l)⟩
theorem bd_div {n d : Int} {k : Nat} (hd : d ≠ 0) (h1 : n.natAbs < 2 ^ k) (h2 : d.natAbs < 2 ^ k) : Bd k (Rat.divInt n d) := by
  obtain ⟨e1, e2⟩ := r_divInt (n := n) hd
  have b1 := rtop_abs (n := n) hd
  have b2 := rbot_abs (n := n) hd
  rw [e1] at b1
  rw [e2, Int.natAbs_natCast] at b2
  exact ⟨by omega, by omega⟩
theorem mul_lt2 {a b j k : Nat} (h1 : a < 2 ^ j) (h2 : b < 2 ^ k) : a * b < 2 ^ (j + k) := by
  rw [Nat.pow_add]
  exact Nat.mul_lt_mul'' h1 h2
theorem abs_mul_lt {x y : Int} {j k : Nat} (h1 : x.natAbs < 2 ^ j) (h2 : y.natAbs < 2 ^ k) : (x * y).natAbs < 2 ^ (j + k) := by
  rw [Int.natAbs_mul]
  exact mul_lt2 h1 h2
theorem abs_add_lt {x y : Int} {k : Nat} (h1 : x.natAbs < 2 ^ k) (h2 : y.natAbs < 2 ^ k) : (x + y).natAbs < 2 ^ (k + 1) := by
  rw [Nat.pow_succ]
  omega
theorem abs_sub_lt {x y : Int} {k : Nat} (h1 : x.natAbs < 2 ^ k) (h2 : y.natAbs < 2 ^ k) : (x - y).natAbs < 2 ^ (k + 1) := by
  rw [Nat.pow_succ]
  omega
theorem Bd.d {k : Nat} {r : Rat} (h : Bd k r) : (r.den : Int).natAbs < 2 ^ k := by
  rw [Int.natAbs_natCast]
  exact h.2
theorem Bd.add {j k : Nat} {r s : Rat} (h : Bd j r) (g : Bd k s) : Bd (j + k + 1) (r + s) := by
  rw [← ra_add]
  refine bd_div (Int.mul_ne_zero (den_ne _) (den_ne _)) (abs_add_lt (abs_mul_lt h.1 g.d) ?_) ?_
  · rw [Nat.add_comm]
    exact abs_mul_lt g.1 h.d
  · exact Nat.lt_trans (abs_mul_lt h.d g.d) (Nat.pow_lt_pow_right (by decide) (by omega))
theorem Bd.sub {j k : Nat} {r s : Rat} (h : Bd j r) (g : Bd k s) : Bd (j + k + 1) (r - s) := by
  rw [← ra_sub]
  refine bd_div (Int.mul_ne_zero (den_ne _) (den_ne _)) (abs_sub_lt (abs_mul_lt h.1 g.d) ?_) ?_
  · rw [Nat.add_comm]
    exact abs_mul_lt g.1 h.d
  · exact Nat.lt_trans (abs_mul_lt h.d g.d) (Nat.pow_lt_pow_right (by decide) (by omega))
theorem Bd.mul {j k : Nat} {r s : Rat} (h : Bd j r) (g : Bd k s) : Bd (j + k) (r * s) := by
  rw [← ra_mul]
  exact bd_div (Int.mul_ne_zero (den_ne _) (den_ne _)) (abs_mul_lt h.1 g.1) (abs_mul_lt h.d g.d)
theorem Bd.div {j k : Nat} {r s : Rat} (hs : s.num ≠ 0) (h : Bd j r) (g : Bd k s) : Bd (j + k) (r / s) := by
  rw [← ra_div hs]
  exact bd_div (Int.mul_ne_zero (den_ne _) hs) (abs_mul_lt h.1 g.d) (abs_mul_lt h.d g.1)
theorem Bd.neg {k : Nat} {r : Rat} (h : Bd k r) : Bd k (-r) := by
  rw [← ra_neg]
  exact bd_div (den_ne _) (by rw [Int.natAbs_neg]; exact h.1) h.d
theorem Bd.int {k : Nat} {n : Int} (h : n.natAbs < 2 ^ k) (hk : 0 < k) : Bd k (n : Rat) := by
  rw [← ra_one]
  exact bd_div (by decide) h (Nat.one_lt_two_pow (by omega))
end Rt
/-! ### facts and bundles of methods -/
namespace Rt
open PySem PySem.Spec PyProof.Rows L2 He
def fSelf (x : Str) (K : PySem.W.Frag) : Bool := PySem.W.selfFirst K (ga K x)
def fNone (x m : Str) (K : PySem.W.Frag) : Bool := match PySem.W.findIn K (.ref (ga K x)) m with
  | some none => true
  | _ => false
theorem fNone_ok {x m : Str} {K : PySem.W.Frag} (h : fNone x m K = true) : PySem.W.findIn K (.ref (ga K x)) m = some none := by
  unfold fNone at h
  split at h
  · assumption
  · cases h
def fCm (x m : Str) (K : PySem.W.Frag) : Bool := He5.wrapB K (ga K x) "classmethod" "classmethod.__get__" m && (PySem.W.fnIn K (He5.wf K (ga K x) "classmethod" m) && (PySem.W.readsIn K (ga K x) (.type "type") && eqO (PySem.W.specialIn K (.ref (ga K x)) "__getattribute__") (some (some (.builtin "type.__getattribute__")))))
theorem fCm_ok {x m : Str} {K : PySem.W.Frag} (h : fCm x m K = true) : ClX.CMet K (ga K x) (.type "type") m (ma K (ga K x) m) (He5.wf K (ga K x) "classmethod" m) ∧ ClX.CRead K (ga K x) (.type "type") := by
  obtain ⟨h1, h⟩ := ba h
  obtain ⟨h2, h⟩ := ba h
  obtain ⟨h3, h4⟩ := ba h
  exact ⟨He5.cmet_of h1 h2, ⟨h3, eqO_ok h4⟩⟩
/-- a method of the class at C -/
structure Mth (P : Program) (w : World) (K : PySem.W.Frag) (mg : Str → Option Value) (base : Heap) (k : Nat) (C : Addr) (m : Str) (sp : Sp) : Prop where
  ex : Cls K C ∧ ∃ f fd ps, FnOk P w K mg base (L2.CX P w) k f fd ps sp ∧ Meth K C m f ∧ Binds K fd ps []
section
variable {X : Cx} {k j : Nat} {m : Str} {C : Addr} {sp : Sp} {o e : Expr} {es : List Expr} {ta : TE} {t : TA} {apos pos : Pos} {pl : Sem Bool}
theorem pe_mth (c : Mth X.prog X.w X.K X.mg X.base k C m sp) (hr : Room j X.A) (he : PE X o ta) (ha : PA X (e :: es) t) (hk : k ≤ j := by decide)
    (hst : starEach (e :: es) X.env = (false, eval e X.env) :: starEach es X.env := by rfl) (hpl : (backTo pos (starEach es X.env)).any (·.1) = false := by rfl)
    (ht : eval (.Call (.Attribute o m apos) (e :: es) [] pos) X.env = (do
      let ov ← eval o X.env
      standAt apos.atName
      let (f, first) ← holding [ov] (getMethod ov m pl)
      callWith pos f first (backTo pos (starEach (e :: es) X.env)) (backToKw pos (keywordEach [] X.env))) := by rfl) : PE X (.Call (.Attribute o m apos) (e :: es) [] pos) (tMeth C m sp [] E0 ta t) := by
  obtain ⟨cl, f, fd, ps, F, hm, b⟩ := c.ex
  exact pe_meth he cl hm F (hr.mono hk) b .nil passL ha hst hpl ht
end
/-- a classmethod of the class at C, called by the class -/
structure Cmt (P : Program) (w : World) (K : PySem.W.Frag) (mg : Str → Option Value) (base : Heap) (k : Nat) (C : Addr) (m : Str) (sp : Sp) : Prop where
  ex : ∃ mc p g, ClX.CRead K C mc ∧ ClX.CMet K C mc m p g ∧ FnR P w K mg base (L2.CX P w) k g sp
section
variable {X : Cx} {k j : Nat} {m : Str} {C : Addr} {sp : Sp} {o e : Expr} {es : List Expr} {ta : TE} {t : TA} {apos pos : Pos} {pl : Sem Bool}
theorem pe_cmt (c : Cmt X.prog X.w X.K X.mg X.base k C m sp) (hr : Room j X.A) (he : PE X o ta) (ha : PA X (e :: es) t) (hk : k ≤ j := by decide)
    (hst : starEach (e :: es) X.env = (false, eval e X.env) :: starEach es X.env := by rfl) (hpl : (backTo pos (starEach es X.env)).any (·.1) = false := by rfl)
    (ht : eval (.Call (.Attribute o m apos) (e :: es) [] pos) X.env = (do
      let ov ← eval o X.env
      standAt apos.atName
      let (f, first) ← holding [ov] (getMethod ov m pl)
      callWith pos f first (backTo pos (starEach (e :: es) X.env)) (backToKw pos (keywordEach [] X.env))) := by rfl) : PE X (.Call (.Attribute o m apos) (e :: es) [] pos) (ClX.tCMeth C sp E0 ta t) := by
  obtain ⟨mc, p, g, r, c, F⟩ := c.ex
  exact ClX.pe_cmeth he r c F (hr.mono hk) passL ha hst hpl ht
end
end Rt
/-! ### texts -/
namespace Rt
open PySem PySem.Spec PyProof.Rows L2
def rInS : R2 := fun x y H Q => ∃ (c : Nat) (z : Str), x = .str ⟨#[c]⟩ ∧ y = .str z ∧ Q (.bl (decide (c ∈ z.cps.toList))) H
theorem op_inS {X : Cx} : OpR X (compareOp .In) rInS := op_in_sign
section
variable {X : Cx} {o e : Expr} {to te : TE}
theorem pe_startswith {apos pos : Pos} (ho : PE X o to) (he : PE X e te) (hs : starEach [e] X.env = [(false, eval e X.env)] := by rfl) (hbase : attributeBase o "startswith" X.env (eval o X.env) = eval o X.env := by rfl) (hline : (apos.endLine == pos.line) = true := by rfl) :
    PE X (.Call (.Attribute o "startswith" apos) [e] [] pos) (tM1 (fun x xs H Q => ∃ a b, x = .str a ∧ xs = [.str b] ∧ Q (.bl (Txt.startswith a b)) H) to te) :=
  pe_m1 F.slot_str_startswith F.type_str_startswith mt_startswith ho he hs hbase hline
end
/-- [e for c in z], z a text, each value told by its sign -/
theorem lc_strN {z : Str} {te : TE} {vs : List Nat} {σ : L2.St} {H1 : Hp} {D : Addr} {Qd : Hp → Prop} {n : Nat} (f : Nat → V) (hD : H1 D = none) (hn : z.cps.toList.length < sizeLine)
    (hs : ∀ c H, c ∈ z.cps.toList → Same H1 H → ∀ R : V → Hp → Prop, (∀ y H4, Same H H4 → y = f c → R y H4) → te (σ.set n (some (.str ⟨#[c]⟩))) H R)
    (hd : ∀ H, Same H1 H → H D = some (.lst (z.cps.toList.map f)) → Qd H) (hv : vs = [n] := by rfl) :
    ∃ W : Nat → Nat → Hp → Prop, (∃ m, W 0 m (upd H1 D (.lst []))) ∧ ∀ i m H, W i m H →
      ((Its z).stop i H ∧ Qd H) ∨ ((Its z).go i H ∧ ∃ Nx : Hp → Prop, (∀ H', Nx H' → ∃ m', m' < m ∧ W (i + 1) m' H') ∧ ∀ x H', (Its z).yld i H x H' → gName n x (wipe σ vs) H' fun σ2 H2 => wipe σ2 vs = wipe σ vs ∧ tYes σ2 H2 fun b H3 =>
        if b = true then te σ2 H3 fun y H4 => ∃ acc, H4 D = some (.lst acc) ∧ acc.length < sizeLine ∧ Nx (upd H4 D (.lst (acc ++ [y]))) else Nx H3) := by
  subst hv
  have ne : ∀ {b : Addr} {o : HO}, H1 b = some o → b ≠ D := fun e => ne_of_none e hD
  refine L2.lc_it L2.walk_str (fun i H => Same H1 H ∧ H D = some (.lst ((z.cps.toList.take i).map f))) ⟨Same.newp hD, upd_same⟩ (fun _ _ _ _ => trivial) (fun i x H H' hi h y => ?_) (fun H h => hd H h.1 ?_)
  · obtain ⟨rfl, c, hc, rfl⟩ := y
    obtain ⟨s, hl⟩ := h
    have hc' : z.cps.toList[i]? = some c := by rw [Array.getElem?_toList]; exact hc
    have gen : ∀ (R : V → Hp → Prop) (N : Hp → Prop), te (σ.set n (some (.str ⟨#[c]⟩))) H' R → gName n (.str ⟨#[c]⟩) (wipe σ [n]) H' fun σ2 H2 => wipe σ2 [n] = wipe σ [n] ∧ tYes σ2 H2 fun b H3 => if b = true then te σ2 H3 R else N H3 := by
      intro R N h
      have e : (wipe σ [n]).set n (some (V.str ⟨#[c]⟩)) = σ.set n (some (.str ⟨#[c]⟩)) := by
        show (σ.set n none).set n _ = _
        rw [List.set_set]
      show wipe ((wipe σ [n]).set n (some (.str ⟨#[c]⟩))) [n] = wipe σ [n] ∧ (if true = true then te ((wipe σ [n]).set n (some (.str ⟨#[c]⟩))) H' R else N H')
      rw [e]
      refine ⟨?_, iteT h⟩
      show (σ.set n (some (V.str ⟨#[c]⟩))).set n none = σ.set n none
      rw [List.set_set]
    refine gen _ _ (hs c H' (List.mem_of_getElem? hc') s _ fun y H4 s4 e => ⟨_, s4 _ _ hl, ?_, fun b o e1 => ?_, ?_⟩)
    · simp only [List.length_map, List.length_take]
      omega
    · rw [upd_ne (ne e1)]
      exact s4 _ _ (s _ _ e1)
    · rw [upd_same, e, List.take_succ, hc']
      simp
  · have e : z.cps.size = z.cps.toList.length := by simp
    rw [h.2, e, List.take_length]
end Rt
/-! ### values as trees, cells for what changes -/
namespace Pz
open PySem PySem.Spec PyProof.Rows L2 Rt He
/-- an exception, made: its class, its dict; what it carries else (traceback, context) is not told -/
def exv (a C : Addr) (d : Option Addr) : HO := .ext fun h => ∃ (ob : Obj) (vs : Array Value), h.get? a = some ob ∧ ob.cls = .ref C ∧ ob.dict = d ∧ ob.data = .fields vs
/-- the exception at a: as it was made, or later -/
def ExA (F : Hp) (a C : Addr) (d : Option Addr) : Prop := F a = some (exo a C d) ∨ F a = some (exv a C d)
def ExD (F : Hp) (dx : Addr) (gs : List (Str × V)) : Prop := F dx = some (exd dx gs) ∨ F dx = some (.xd gs)
/-- a value, with all that it holds; `frz`: a list that is read only; `kt`: a tuple of the written part; `tself`: as an instance's attribute, the tuple of the instance alone; `exc`: an exception -/
inductive W where
  | non | bl (b : Bool) | int (i : Int) | str (x : Str) | ty (n : String) | cls (x : Str)
  | tup (xs : List W) | lst (xs : List W) | frz (xs : List W) | kt (xs : List W)
  | dic (kvs : List (Key × W)) | ins (c : Str) (fs : List (Str × W)) | tself | exc (c : Str) (fs : List (Str × W))
mutual
def Rp (K : PySem.W.Frag) (F : Hp) : W → V → Prop
  | .non, v => v = .non
  | .bl b, v => v = .bl b
  | .int i, v => v = .int i
  | .str x, v => v = .str x
  | .ty n, v => v = .ty n
  | .cls x, v => v = .ref (ga K x)
  | .tup ws, v => ∃ a vs, v = .ref a ∧ F a = some (.tup vs) ∧ RpL K F ws vs
  | .lst ws, v => ∃ a vs, v = .ref a ∧ F a = some (.lst vs) ∧ RpL K F ws vs
  | .frz ws, v => ∃ a vs, v = .ref a ∧ SqL K F a vs ∧ RpL K F ws vs
  | .kt ws, v => ∃ a vs, v = .ref a ∧ SqT K F a vs ∧ RpL K F ws vs
  | .dic ws, v => ∃ a vs, v = .ref a ∧ F a = some (.dK vs) ∧ RpD K F ws vs
  | .ins c fs, v => ∃ a dx gs, v = .ref a ∧ F a = some (.ins (ga K c) dx gs) ∧ RpF K F a fs gs
  | .tself, _ => False
  | .exc c fs, v => ∃ a, v = .ref a ∧ ((fs.isEmpty = true ∧ ExA F a (ga K c) none) ∨ ∃ dx gs, ExA F a (ga K c) (some dx) ∧ ExD F dx gs ∧ RpF K F a fs gs)
def RpL (K : PySem.W.Frag) (F : Hp) : List W → List V → Prop
  | [], vs => vs = []
  | w :: ws, vs => ∃ u us, vs = u :: us ∧ Rp K F w u ∧ RpL K F ws us
def RpD (K : PySem.W.Frag) (F : Hp) : List (Key × W) → List (Key × V) → Prop
  | [], vs => vs = []
  | (k, w) :: ws, vs => ∃ u us, vs = (k, u) :: us ∧ Rp K F w u ∧ RpD K F ws us
def RpF (K : PySem.W.Frag) (F : Hp) (me : Addr) : List (Str × W) → List (Str × V) → Prop
  | [], vs => vs = []
  | (k, w) :: ws, vs => ∃ u us, vs = (k, u) :: us ∧ (Rp K F w u ∨ (w = .tself ∧ ∃ t, u = .ref t ∧ F t = some (.tup [.ref me]))) ∧ RpF K F me ws us
end
section
variable {K : PySem.W.Frag} {F G : Hp}
theorem ExA.same {a C : Addr} {d : Option Addr} (s : Same F G) (h : ExA F a C d) : ExA G a C d := h.imp (s _ _) (s _ _)
theorem ExD.same {dx : Addr} {gs : List (Str × V)} (s : Same F G) (h : ExD F dx gs) : ExD G dx gs := h.imp (s _ _) (s _ _)
theorem SqT.same {a : Addr} {vs : List V} (s : Same F G) (h : SqT K F a vs) : SqT K G a vs := by
  rcases h with (h | ⟨o, h⟩) | h
  · exact .inl (.inl (s _ _ h))
  · exact .inl (.inr ⟨o, s _ _ h⟩)
  · exact .inr h
theorem SqL.same {a : Addr} {vs : List V} (s : Same F G) (h : SqL K F a vs) : SqL K G a vs := by
  rcases h with (h | ⟨o, h⟩) | h
  · exact .inl (.inl (s _ _ h))
  · exact .inl (.inr ⟨o, s _ _ h⟩)
  · exact .inr h
mutual
theorem Rp.mono (s : Same F G) : ∀ {w : W} {v : V}, Rp K F w v → Rp K G w v
  | .non, _, r => r
  | .bl _, _, r => r
  | .int _, _, r => r
  | .str _, _, r => r
  | .ty _, _, r => r
  | .cls _, _, r => r
  | .tup _, _, r => let ⟨a, vs, e, f, l⟩ := r; ⟨a, vs, e, s _ _ f, RpL.mono s l⟩
  | .lst _, _, r => let ⟨a, vs, e, f, l⟩ := r; ⟨a, vs, e, s _ _ f, RpL.mono s l⟩
  | .frz _, _, r => let ⟨a, vs, e, f, l⟩ := r; ⟨a, vs, e, SqL.same s f, RpL.mono s l⟩
  | .kt _, _, r => let ⟨a, vs, e, f, l⟩ := r; ⟨a, vs, e, SqT.same s f, RpL.mono s l⟩
  | .dic _, _, r => let ⟨a, vs, e, f, l⟩ := r; ⟨a, vs, e, s _ _ f, RpD.mono s l⟩
  | .ins _ _, _, r => let ⟨a, dx, vs, e, f, l⟩ := r; ⟨a, dx, vs, e, s _ _ f, RpF.mono s l⟩
  | .tself, _, r => r
  | .exc _ _, _, r => let ⟨a, e, q⟩ := r; ⟨a, e, q.imp (fun ⟨x, y⟩ => ⟨x, ExA.same s y⟩) fun ⟨dx, gs, x, y, l⟩ => ⟨dx, gs, ExA.same s x, ExD.same s y, RpF.mono s l⟩⟩
theorem RpL.mono (s : Same F G) : ∀ {w : List W} {v : List V}, RpL K F w v → RpL K G w v
  | [], _, r => r
  | _ :: _, _, r => let ⟨u, us, e, h, l⟩ := r; ⟨u, us, e, Rp.mono s h, RpL.mono s l⟩
theorem RpD.mono (s : Same F G) : ∀ {w : List (Key × W)} {v : List (Key × V)}, RpD K F w v → RpD K G w v
  | [], _, r => r
  | (_, _) :: _, _, r => let ⟨u, us, e, h, l⟩ := r; ⟨u, us, e, Rp.mono s h, RpD.mono s l⟩
theorem RpF.mono (s : Same F G) {me : Addr} : ∀ {w : List (Str × W)} {v : List (Str × V)}, RpF K F me w v → RpF K G me w v
  | [], _, r => r
  | (_, _) :: _, _, r => let ⟨u, us, e, h, l⟩ := r; ⟨u, us, e, h.imp (Rp.mono s) (fun ⟨e, t, q, x⟩ => ⟨e, t, q, s _ _ x⟩), RpF.mono s l⟩
end
theorem RpL.length : ∀ {ws : List W} {vs : List V}, RpL K F ws vs → ws.length = vs.length
  | [], _, r => by cases r; rfl
  | _ :: _, _, r => by obtain ⟨u, us, rfl, _, l⟩ := r; simp [RpL.length l]
theorem RpL.get : ∀ {ws : List W} {vs : List V} {i : Nat} {w : W}, RpL K F ws vs → ws[i]? = some w → ∃ v, vs[i]? = some v ∧ Rp K F w v
  | [], _, _, _, _, e => by simp at e
  | _ :: _, _, 0, _, r, e => by
    obtain ⟨u, us, rfl, h, _⟩ := r
    simp at e; subst e
    exact ⟨u, rfl, h⟩
  | _ :: _, _, i + 1, _, r, e => by
    obtain ⟨u, us, rfl, _, l⟩ := r
    obtain ⟨v, h1, h2⟩ := RpL.get (i := i) l (by simpa using e)
    exact ⟨v, by simpa using h1, h2⟩
theorem RpL.get' : ∀ {ws : List W} {vs : List V} {i : Nat} {v : V}, RpL K F ws vs → vs[i]? = some v → ∃ w, ws[i]? = some w ∧ Rp K F w v
  | [], _, _, _, r, e => by cases r; simp at e
  | w :: _, _, 0, _, r, e => by
    obtain ⟨u, us, rfl, h, _⟩ := r
    simp at e; subst e
    exact ⟨w, rfl, h⟩
  | _ :: _, _, i + 1, _, r, e => by
    obtain ⟨u, us, rfl, _, l⟩ := r
    obtain ⟨w, h1, h2⟩ := RpL.get' (i := i) l (by simpa using e)
    exact ⟨w, by simpa using h1, h2⟩
theorem RpL.append : ∀ {ws us : List W} {vs xs : List V}, RpL K F ws vs → RpL K F us xs → RpL K F (ws ++ us) (vs ++ xs)
  | [], _, _, _, r, l => by cases r; exact l
  | _ :: _, _, _, _, r, l => by
    obtain ⟨u, us, rfl, h, t⟩ := r
    exact ⟨u, us ++ _, rfl, h, RpL.append t l⟩
theorem RpL.take : ∀ {ws : List W} {vs : List V} (n : Nat), RpL K F ws vs → RpL K F (ws.take n) (vs.take n)
  | [], _, _, r => by cases r; simp [RpL]
  | _ :: _, _, 0, r => by simp [RpL]
  | _ :: _, _, n + 1, r => by
    obtain ⟨u, us, rfl, h, t⟩ := r
    exact ⟨u, us.take n, rfl, h, RpL.take n t⟩
theorem RpL.drop : ∀ {ws : List W} {vs : List V} (n : Nat), RpL K F ws vs → RpL K F (ws.drop n) (vs.drop n)
  | [], _, _, r => by cases r; simp [RpL]
  | _ :: _, _, 0, r => r
  | _ :: _, _, n + 1, r => by
    obtain ⟨u, us, rfl, h, t⟩ := r
    exact RpL.drop n t
theorem RpL.set {w : W} {v : V} (q : Rp K F w v) : ∀ {ws : List W} {vs : List V} (n : Nat), RpL K F ws vs → RpL K F (ws.set n w) (vs.set n v)
  | [], _, _, r => by cases r; simp [RpL]
  | _ :: _, _, 0, r => by
    obtain ⟨u, us, rfl, h, t⟩ := r
    exact ⟨v, us, rfl, q, t⟩
  | _ :: _, _, n + 1, r => by
    obtain ⟨u, us, rfl, h, t⟩ := r
    exact ⟨u, us.set n v, rfl, h, RpL.set q n t⟩
theorem RpL.reverse {ws : List W} {vs : List V} (r : RpL K F ws vs) : RpL K F ws.reverse vs.reverse := by
  induction ws generalizing vs with
  | nil => cases r; simp [RpL]
  | cons w ws ih =>
    obtain ⟨u, us, rfl, h, t⟩ := r
    rw [List.reverse_cons, List.reverse_cons]
    exact (ih t).append ⟨u, [], rfl, h, rfl⟩
end
/-! ### values of slots; cells -/
/-- a value as a name holds it: `m i`: the cell i; `ts i`: the tuple of the instance in cell i alone -/
inductive U where
  | p (w : W) | m (i : Nat) | ts (i : Nat)
/-- what a cell holds -/
inductive C where
  | lst (ws : List W) | ins (c : Str) (fs : List (Str × W)) | dic (kvs : List (Key × W)) | dead
  /-- a def's table of code objects, each of them named q -/
  | tab (p : He.Defn) (q : Str)
abbrev Sl := List (Option U)
abbrev Mm := List C
section
variable (K : PySem.W.Frag) (F : Hp) (ρ : List Addr)
def RU : U → V → Prop
  | .p w, v => Rp K F w v
  | .m i, v => ∃ a, ρ[i]? = some a ∧ v = .ref a
  | .ts i, v => ∃ a t, ρ[i]? = some a ∧ v = .ref t ∧ F t = some (.tup [.ref a])
def RUs : List U → List V → Prop
  | [], vs => vs = []
  | u :: us, vs => ∃ v r, vs = v :: r ∧ RU K F ρ u v ∧ RUs us r
def CellR (a : Addr) : C → Option HO → Prop
  | .lst ws, h => F a = none ∧ ∃ vs, h = some (.lst vs) ∧ RpL K F ws vs
  | .ins c fs, h => F a = none ∧ ∃ dx gs, h = some (.ins (ga K c) dx gs) ∧ RpF K F a fs gs
  | .dic ws, h => F a = none ∧ ∃ vs, h = some (.dK vs) ∧ RpD K F ws vs
  | .dead, h => ∃ o, h = some o ∧ (∀ φ, o ≠ .ext φ) ∧ ∀ ps, o ≠ .tbl ps
  | .tab p _, h => F a = none ∧ a = (He.cT K p).2 ∧ ∃ ps, h = some (.tbl ps) ∧ TriplesOk ps.toList
/-- the code objects that a table tells are known, and no cells -/
def CodeK (ρ : List Addr) (q : Str) (ps : Array Value) (H : Hp) : Prop := ∀ (pos : Pos) (cv : Value), codeAmong pos ps.toList = some cv → ∃ c, cv = .ref c ∧ H c = some (LamX.CodeO c q) ∧ c ∉ ρ
structure Sr (H : Hp) (M : Mm) : Prop where
  sub : Same F H
  len : ρ.length = M.length
  nd : ρ.Nodup
  occ : ∀ a ∈ ρ, H a ≠ none
  cell : ∀ (i : Nat) (c : C) (a : Addr), M[i]? = some c → ρ[i]? = some a → CellR K F a c (H a)
  nt : ∀ a ps, F a ≠ some (.tbl ps)
  code : ∀ (i : Nat) (p : He.Defn) (q : Str) (a : Addr) (ps : Array Value), M[i]? = some (.tab p q) → ρ[i]? = some a → H a = some (.tbl ps) → CodeK ρ q ps H
structure Sv (us : Sl) (σ : L2.St) : Prop where
  len : us.length = σ.length
  at_ : ∀ (i : Nat) (u : U), us[i]? = some (some u) → ∃ v, σ[i]? = some (some v) ∧ RU K F ρ u v
end
section
variable {K : PySem.W.Frag} {F F' H : Hp} {ρ ρ' : List Addr} {M : Mm}
theorem pre_get {α : Type} {l l' : List α} {i : Nat} {a : α} (h : l <+: l') (e : l[i]? = some a) : l'[i]? = some a := by
  obtain ⟨t, rfl⟩ := h
  rw [List.getElem?_append_left (List.getElem?_eq_some_iff.mp e).1]
  exact e
theorem nodup_at {α : Type} {l : List α} (hN : l.Nodup) {i j : Nat} {x : α} (a : l[i]? = some x) (b : l[j]? = some x) : i = j := by
  obtain ⟨h1, e1⟩ := List.getElem?_eq_some_iff.mp a
  obtain ⟨h2, e2⟩ := List.getElem?_eq_some_iff.mp b
  exact (List.getElem_inj hN).mp (e1.trans e2.symm)
theorem RU.mono (s : Same F F') (h : ρ <+: ρ') : ∀ {u : U} {v : V}, RU K F ρ u v → RU K F' ρ' u v
  | .p _, _, r => Rp.mono s r
  | .m _, _, r => let ⟨a, e, q⟩ := r; ⟨a, pre_get h e, q⟩
  | .ts _, _, r => let ⟨a, t, e, q, f⟩ := r; ⟨a, t, pre_get h e, q, s _ _ f⟩
theorem RUs.mono (s : Same F F') (h : ρ <+: ρ') : ∀ {u : List U} {v : List V}, RUs K F ρ u v → RUs K F' ρ' u v
  | [], _, r => r
  | _ :: _, _, r => let ⟨u, us, e, q, t⟩ := r; ⟨u, us, e, RU.mono s h q, RUs.mono s h t⟩
theorem RUs.length : ∀ {ws : List U} {vs : List V}, RUs K F ρ ws vs → ws.length = vs.length
  | [], _, r => by cases r; rfl
  | _ :: _, _, r => by obtain ⟨u, us, rfl, _, l⟩ := r; simp [RUs.length l]
theorem RUs.append : ∀ {ws us : List U} {vs xs : List V}, RUs K F ρ ws vs → RUs K F ρ us xs → RUs K F ρ (ws ++ us) (vs ++ xs)
  | [], _, _, _, r, l => by cases r; exact l
  | _ :: _, _, _, _, r, l => by
    obtain ⟨u, us, rfl, h, t⟩ := r
    exact ⟨u, us ++ _, rfl, h, RUs.append t l⟩
theorem RUs.reverse {ws : List U} {vs : List V} (r : RUs K F ρ ws vs) : RUs K F ρ ws.reverse vs.reverse := by
  induction ws generalizing vs with
  | nil => cases r; simp [RUs]
  | cons w ws ih =>
    obtain ⟨u, us, rfl, h, t⟩ := r
    rw [List.reverse_cons, List.reverse_cons]
    exact (ih t).append ⟨u, [], rfl, h, rfl⟩
theorem RUs.get : ∀ {ws : List U} {vs : List V} {i : Nat} {w : U}, RUs K F ρ ws vs → ws[i]? = some w → ∃ v, vs[i]? = some v ∧ RU K F ρ w v
  | [], _, _, _, _, e => by simp at e
  | _ :: _, _, 0, _, r, e => by
    obtain ⟨u, us, rfl, h, _⟩ := r
    simp at e; subst e
    exact ⟨u, rfl, h⟩
  | _ :: _, _, i + 1, _, r, e => by
    obtain ⟨u, us, rfl, _, l⟩ := r
    obtain ⟨v, h1, h2⟩ := RUs.get (i := i) l (by simpa using e)
    exact ⟨v, by simpa using h1, h2⟩
theorem Sv.mono {us : Sl} {σ : L2.St} (s : Same F F') (h : ρ <+: ρ') (r : Sv K F ρ us σ) : Sv K F' ρ' us σ :=
  ⟨r.len, fun i u e => let ⟨v, e1, q⟩ := r.at_ i u e; ⟨v, e1, q.mono s h⟩⟩
theorem Sv.set {us : Sl} {σ : L2.St} {u : U} {v : V} (r : Sv K F ρ us σ) (i : Nat) (q : RU K F ρ u v) : Sv K F ρ (us.set i (some u)) (σ.set i (some v)) := by
  refine ⟨by simp [r.len], fun j w e => ?_⟩
  have hl := r.len
  by_cases hj : i = j
  · subst hj
    by_cases hi : i < us.length
    · rw [List.getElem?_set_self hi] at e
      cases e
      exact ⟨v, List.getElem?_set_self (by omega), q⟩
    · rw [List.getElem?_eq_none_iff.mpr (by simpa using hi)] at e
      cases e
  · rw [List.getElem?_set_ne hj] at e ⊢
    exact r.at_ j w e
theorem Sv.start {us : List U} {vs : List V} (r : RUs K F ρ us vs) (n : Nat) : Sv K F ρ (us.map some ++ List.replicate n none) (vs.map some ++ List.replicate n none) := by
  refine ⟨by simp [r.length], fun i u e => ?_⟩
  rw [List.getElem?_append] at e
  split at e
  · rename_i h
    rw [List.getElem?_map, Option.map_eq_some_iff] at e
    obtain ⟨u', e1, e2⟩ := e
    cases e2
    obtain ⟨v, e3, q⟩ := r.get e1
    have hl := r.length
    refine ⟨v, ?_, q⟩
    rw [List.getElem?_append_left (by simp at h ⊢; omega), List.getElem?_map, e3]
    rfl
  · rw [List.getElem?_replicate] at e
    split at e <;> cases e
/-- a new object that is read only -/
theorem CellR.mono {a : Addr} {c : C} {h : Option HO} (s : Same F F') (n : c ≠ .dead → F' a = none) (r : CellR K F a c h) : CellR K F' a c h := by
  cases c with
  | lst ws => obtain ⟨f, vs, e, q⟩ := r; exact ⟨n (fun z => by cases z), vs, e, q.mono s⟩
  | ins c fs => obtain ⟨f, dx, gs, e, q⟩ := r; exact ⟨n (fun z => by cases z), dx, gs, e, q.mono s⟩
  | dic ws => obtain ⟨f, vs, e, q⟩ := r; exact ⟨n (fun z => by cases z), vs, e, q.mono s⟩
  | dead => exact r
  | tab p q => obtain ⟨f, e, t⟩ := r; exact ⟨n (fun z => by cases z), e, t⟩
theorem CodeK.mono {ρ' : List Addr} {H' : Hp} {q : Str} {ps : Array Value} (k : ∀ c q, H c = some (LamX.CodeO c q) → c ∉ ρ → H' c = some (LamX.CodeO c q) ∧ c ∉ ρ') (h : CodeK ρ q ps H) : CodeK ρ' q ps H' := fun pos cv e => by
  obtain ⟨c, h1, h2, h3⟩ := h pos cv e
  exact ⟨c, h1, k c q h2 h3⟩
/-- what stands at a cell is no object of a further kind -/
theorem CellR.nx {a : Addr} {c : C} {o : HO} (r : CellR K F a c (some o)) (φ : Heap → Prop) : o ≠ .ext φ := by
  intro z
  subst z
  cases c with
  | lst ws => obtain ⟨f, vs, e, q⟩ := r; cases e
  | ins c fs => obtain ⟨f, dx, gs, e, q⟩ := r; cases e
  | dic ws => obtain ⟨f, vs, e, q⟩ := r; cases e
  | dead => obtain ⟨o, e, n, _⟩ := r; cases e; exact n φ rfl
  | tab p q => obtain ⟨f, e, ps, e2, t⟩ := r; cases e2
theorem CellR.free {a : Addr} {c : C} {h : Option HO} (r : CellR K F a c h) (n : c ≠ .dead) : F a = none ∧ h ≠ none := by
  cases c with
  | lst ws => obtain ⟨f, vs, e, q⟩ := r; exact ⟨f, by rw [e]; exact fun z => by cases z⟩
  | ins c fs => obtain ⟨f, dx, gs, e, q⟩ := r; exact ⟨f, by rw [e]; exact fun z => by cases z⟩
  | dic ws => obtain ⟨f, vs, e, q⟩ := r; exact ⟨f, by rw [e]; exact fun z => by cases z⟩
  | dead => exact absurd rfl n
  | tab p q => obtain ⟨f, e, ps, e2, t⟩ := r; exact ⟨f, by rw [e2]; exact fun z => by cases z⟩
theorem Sr.fnone (s : Sr K F ρ H M) {p : Addr} (hp : H p = none) : F p = none := by
  cases e : F p with
  | none => rfl
  | some o => rw [s.sub _ _ e] at hp; cases hp
theorem Sr.newF (s : Sr K F ρ H M) {p : Addr} {o : HO} (hp : H p = none) (ho : ∀ ps, o ≠ .tbl ps := by exact fun _ z => by cases z) : Sr K (upd F p o) ρ (upd H p o) M ∧ Same F (upd F p o) := by
  have hf := s.fnone hp
  have sm : Same F (upd F p o) := Rt.Same.newp hf
  have hc : ∀ c q, H c = some (LamX.CodeO c q) → c ∉ ρ → upd H p o c = some (LamX.CodeO c q) ∧ c ∉ ρ := fun c q e n => ⟨by
    rw [upd_ne fun z => by rw [z, hp] at e; cases e]
    exact e, n⟩
  refine ⟨⟨fun a u e => ?_, s.len, s.nd, fun a ha => ?_, fun i c a h1 h2 => ?_, fun a ps => ?_, fun i pp q a ps h1 h2 h3 => ?_⟩, sm⟩
  · by_cases h : a = p
    · subst h; rw [upd_same] at e ⊢; exact e
    · rw [upd_ne h] at e ⊢; exact s.sub _ _ e
  · by_cases h : a = p
    · subst h; rw [upd_same]; exact fun z => by cases z
    · rw [upd_ne h]; exact s.occ a ha
  · have r := s.cell i c a h1 h2
    have hne : a ≠ p := fun z => by subst z; exact s.occ a (List.mem_of_getElem? h2) hp
    rw [upd_ne hne]
    exact r.mono sm fun hd => by rw [upd_ne hne]; exact (r.free hd).1
  · by_cases h : a = p
    · subst h; rw [upd_same]; exact fun z => ho ps (Option.some.inj z)
    · rw [upd_ne h]; exact s.nt a ps
  · have hne : a ≠ p := fun z => by subst z; exact s.occ a (List.mem_of_getElem? h2) hp
    rw [upd_ne hne] at h3
    exact (s.code i pp q a ps h1 h2 h3).mono hc
/-- a new cell -/
theorem Sr.newC (s : Sr K F ρ H M) {p : Addr} {o : HO} {c : C} (hp : H p = none) (r : CellR K F p c (some o)) (hct : ∀ pp q, c ≠ .tab pp q := by exact fun _ _ z => by cases z) : Sr K F (ρ ++ [p]) (upd H p o) (M ++ [c]) := by
  have hnp : p ∉ ρ := fun h => s.occ p h hp
  have hf := s.fnone hp
  have hc : ∀ c q, H c = some (LamX.CodeO c q) → c ∉ ρ → upd H p o c = some (LamX.CodeO c q) ∧ c ∉ ρ ++ [p] := fun c q e n => by
    have hcp : c ≠ p := fun z => by rw [z, hp] at e; cases e
    exact ⟨by rw [upd_ne hcp]; exact e, fun z => (List.mem_append.mp z).elim n fun z => hcp (by simpa using z)⟩
  refine ⟨fun a u e => ?_, by simp [s.len], ?_, fun a ha => ?_, fun i d a h1 h2 => ?_, s.nt, fun i pp q a ps h1 h2 h3 => ?_⟩
  · have h : a ≠ p := fun z => by subst z; rw [hf] at e; cases e
    rw [upd_ne h]
    exact s.sub _ _ e
  · rw [List.nodup_append]
    exact ⟨s.nd, by simp, fun a ha b hb => by simp at hb; subst hb; exact fun z => hnp (z ▸ ha)⟩
  · by_cases h : a = p
    · subst h; rw [upd_same]; exact fun z => by cases z
    · rw [upd_ne h]
      rcases List.mem_append.mp ha with h' | h'
      · exact s.occ a h'
      · simp at h'; exact absurd h' h
  · have hl := s.len
    by_cases hi : i < M.length
    · rw [List.getElem?_append_left hi] at h1
      rw [List.getElem?_append_left (by omega)] at h2
      have hne : a ≠ p := fun z => hnp (z ▸ List.mem_of_getElem? h2)
      rw [upd_ne hne]
      exact s.cell i d a h1 h2
    · rw [List.getElem?_append_right (by omega)] at h1
      rw [List.getElem?_append_right (by omega)] at h2
      have hi0 : i - M.length = 0 := by
        have := (List.getElem?_eq_some_iff.mp h1).1
        simp at this; omega
      have hi1 : i - ρ.length = 0 := by omega
      rw [hi0] at h1
      rw [hi1] at h2
      simp at h1 h2
      subst h1; subst h2
      rw [upd_same]
      exact r
  · have hl := s.len
    by_cases hi : i < M.length
    · rw [List.getElem?_append_left hi] at h1
      rw [List.getElem?_append_left (by omega)] at h2
      have hne : a ≠ p := fun z => hnp (z ▸ List.mem_of_getElem? h2)
      rw [upd_ne hne] at h3
      exact (s.code i pp q a ps h1 h2 h3).mono hc
    · rw [List.getElem?_append_right (by omega)] at h1
      have hi0 : i - M.length = 0 := by
        have := (List.getElem?_eq_some_iff.mp h1).1
        simp at this; omega
      rw [hi0] at h1
      simp at h1
      exact absurd h1 (hct pp q)
/-- a cell is written -/
theorem Sr.write (s : Sr K F ρ H M) {i : Nat} {a : Addr} {o : HO} {c d : C} (hi : M[i]? = some d) (hd : d ≠ .dead) (ha : ρ[i]? = some a) (r : CellR K F a c (some o)) (hct : ∀ pp q, c ≠ .tab pp q := by exact fun _ _ z => by cases z) : Sr K F ρ (upd H a o) (M.set i c) := by
  have hf := ((s.cell i d a hi ha).free hd).1
  have hc : ∀ c q, H c = some (LamX.CodeO c q) → c ∉ ρ → upd H a o c = some (LamX.CodeO c q) ∧ c ∉ ρ := fun c q e n => ⟨by
    rw [upd_ne fun z => n (by rw [z]; exact List.mem_of_getElem? ha)]
    exact e, n⟩
  refine ⟨fun b u e => ?_, by simp [s.len], s.nd, fun b hb => ?_, fun j e b h1 h2 => ?_, s.nt, fun j pp q b ps h1 h2 h3 => ?_⟩
  · have h : b ≠ a := fun z => by subst z; rw [hf] at e; cases e
    rw [upd_ne h]
    exact s.sub _ _ e
  · by_cases h : b = a
    · subst h; rw [upd_same]; exact fun z => by cases z
    · rw [upd_ne h]; exact s.occ b hb
  · by_cases hj : i = j
    · subst hj
      rw [ha] at h2
      cases h2
      rw [List.getElem?_set_self (List.getElem?_eq_some_iff.mp hi).1] at h1
      cases h1
      rw [upd_same]
      exact r
    · rw [List.getElem?_set_ne hj] at h1
      have hne : b ≠ a := fun z => by
        subst z
        exact hj (nodup_at s.nd ha h2)
      rw [upd_ne hne]
      exact s.cell j e b h1 h2
  · by_cases hj : i = j
    · subst hj
      rw [List.getElem?_set_self (List.getElem?_eq_some_iff.mp hi).1] at h1
      exact absurd (Option.some.inj h1) (hct pp q)
    · rw [List.getElem?_set_ne hj] at h1
      have hne : b ≠ a := fun z => by
        subst z
        exact hj (nodup_at s.nd ha h2)
      rw [upd_ne hne] at h3
      exact (s.code j pp q b ps h1 h2 h3).mono hc
/-- the last cells are forgotten -/
theorem Sr.take (s : Sr K F ρ H M) (n : Nat) : Sr K F (ρ.take n) H (M.take n) := by
  refine ⟨s.sub, by simp [s.len], s.nd.sublist (List.take_sublist _ _), fun a ha => s.occ a (List.mem_of_mem_take ha), fun i c a h1 h2 => ?_, s.nt, fun i pp q a ps h1 h2 h3 => ?_⟩
  rw [List.getElem?_take] at h1 h2
  split at h1
  · rename_i hi
    rw [if_pos hi] at h2
    exact s.cell i c a h1 h2
  · cases h1
  · rw [List.getElem?_take] at h1 h2
    split at h1
    · rename_i hi
      rw [if_pos hi] at h2
      exact (s.code i pp q a ps h1 h2 h3).mono fun c q e n => ⟨e, fun z => n (List.mem_of_mem_take z)⟩
    · cases h1
/-- a cell becomes what is read only -/
theorem Sr.freeze (s : Sr K F ρ H M) {i : Nat} {a : Addr} {d : C} {o : HO} (hi : M[i]? = some d) (hd : d ≠ .dead) (ha : ρ[i]? = some a) (ho : H a = some o) (hot : ∀ ps, o ≠ .tbl ps := by exact fun _ z => by cases z) : Sr K (upd F a o) ρ H (M.set i .dead) ∧ Same F (upd F a o) := by
  have hf := ((s.cell i d a hi ha).free hd).1
  have sm : Same F (upd F a o) := Rt.Same.newp hf
  have hnx := s.cell i d a hi ha
  rw [ho] at hnx
  refine ⟨⟨fun b u e => ?_, by simp [s.len], s.nd, s.occ, fun j e b h1 h2 => ?_, fun b ps => ?_, fun j pp q b ps h1 h2 h3 => ?_⟩, sm⟩
  · by_cases h : b = a
    · subst h; rw [upd_same] at e; cases e; exact ho
    · rw [upd_ne h] at e; exact s.sub _ _ e
  · by_cases hj : i = j
    · subst hj
      rw [List.getElem?_set_self (List.getElem?_eq_some_iff.mp hi).1] at h1
      cases h1
      rw [ha] at h2
      cases h2
      exact ⟨o, ho, hnx.nx, hot⟩
    · rw [List.getElem?_set_ne hj] at h1
      have hne : b ≠ a := fun z => by
        subst z
        exact hj (nodup_at s.nd ha h2)
      have r := s.cell j e b h1 h2
      exact r.mono sm fun he => by rw [upd_ne hne]; exact (r.free he).1
  · by_cases h : b = a
    · subst h; rw [upd_same]; exact fun z => hot ps (Option.some.inj z)
    · rw [upd_ne h]; exact s.nt b ps
  · by_cases hj : i = j
    · subst hj
      rw [List.getElem?_set_self (List.getElem?_eq_some_iff.mp hi).1] at h1
      cases h1
    · rw [List.getElem?_set_ne hj] at h1
      exact s.code j pp q b ps h1 h2 h3
end
end Pz
/-! ### the mirrors' judgements -/
namespace Pz
open PySem PySem.Spec PyProof.Rows L2 Rt He
/-- no table of code objects -/
def NT (o : HO) : Prop := ∀ ps, o ≠ .tbl ps
/-- how the state may go on: what is read only stays, cells come, what is neither stays; tables that are no cells are not looked at -/
structure Go (F : Hp) (ρ : List Addr) (H : Hp) (F' : Hp) (ρ' : List Addr) (H' : Hp) : Prop where
  sf : Same F F'
  pre : ρ <+: ρ'
  new : ∀ a ∈ ρ', a ∉ ρ → ∀ o, H a = some o → ¬ NT o
  kp : ∀ a o, a ∉ ρ → H a = some o → NT o → H' a = some o
  fr : ∀ a o, a ∉ ρ → F a = none → H a = some o → NT o → F' a = none
section
variable {K : PySem.W.Frag} {F F1 F2 H H1 H2 : Hp} {ρ ρ1 ρ2 : List Addr} {M : Mm}
theorem Go.refl : Go F ρ H F ρ H := ⟨Same.refl _, List.prefix_refl _, fun _ h n => absurd h n, fun _ _ _ e _ => e, fun _ _ _ e _ _ => e⟩
theorem Go.out (a : Go F ρ H F1 ρ1 H1) {x : Addr} {o : HO} (n : x ∉ ρ) (h : H x = some o) (t : NT o) : x ∉ ρ1 := fun z => a.new x z n o h t
theorem Go.trans (a : Go F ρ H F1 ρ1 H1) (b : Go F1 ρ1 H1 F2 ρ2 H2) : Go F ρ H F2 ρ2 H2 := by
  refine ⟨a.sf.trans b.sf, a.pre.trans b.pre, fun x h n o e t => ?_, fun x o n e t => b.kp x o (a.out n e t) (a.kp x o n e t) t, fun x o n f e t => b.fr x o (a.out n e t) (a.fr x o n f e t) (a.kp x o n e t) t⟩
  by_cases h1 : x ∈ ρ1
  · exact a.new x h1 n o e t
  · exact b.new x h h1 o (a.kp x o n e t) t
/-- a new object that is read only -/
theorem Sr.goF (s : Sr K F ρ H M) {p : Addr} {o : HO} (hp : H p = none) : Go F ρ H (upd F p o) ρ (upd H p o) :=
  ⟨Rt.Same.newp (s.fnone hp), List.prefix_refl _, fun _ h n => absurd h n, fun _ _ _ e _ => Rt.Same.newp hp _ _ e, fun a _ _ e h _ => by
    have h : a ≠ p := fun z => by rw [z, hp] at h; cases h
    rw [upd_ne h]; exact e⟩
theorem Go.hp {p : Addr} {o : HO} (hp : H p = none) : Go F ρ H F ρ (upd H p o) := ⟨Same.refl _, List.prefix_refl _, fun _ h n => absurd h n, fun _ _ _ e _ => Rt.Same.newp hp _ _ e, fun _ _ _ e _ _ => e⟩
theorem Sr.goC {p : Addr} {o : HO} (hp : H p = none) : Go F ρ H F (ρ ++ [p]) (upd H p o) :=
  ⟨Same.refl _, List.prefix_append _ _, fun a h n o e => (List.mem_append.mp h).elim (fun z => absurd z n) (fun z => by simp at z; rw [z, hp] at e; cases e), fun _ _ _ e _ => Rt.Same.newp hp _ _ e, fun _ _ _ e _ _ => e⟩
theorem Go.write {a : Addr} {o : HO} (ha : a ∈ ρ) : Go F ρ H F ρ (upd H a o) :=
  ⟨Same.refl _, List.prefix_refl _, fun _ h n => absurd h n, fun b u n e _ => by
    have h : b ≠ a := fun z => n (by rw [z]; exact ha)
    rw [upd_ne h]; exact e, fun _ _ _ e _ _ => e⟩
theorem Go.frz {a : Addr} {o : HO} (ha : a ∈ ρ) (h : F a = none) : Go F ρ H (upd F a o) ρ H := ⟨Rt.Same.newp h, List.prefix_refl _, fun _ h n => absurd h n, fun _ _ _ e _ => e, fun b _ n e _ _ => by
    have h : b ≠ a := fun z => n (by rw [z]; exact ha)
    rw [upd_ne h]; exact e⟩
/-- what came since the start is written, or read only from now on -/
theorem Go.updNew (g : Go F ρ H F1 ρ1 H1) {a : Addr} {o : HO} (h : H a = none) : Go F ρ H F1 ρ1 (upd H1 a o) :=
  ⟨g.sf, g.pre, g.new, fun b u n e t => by
    have hb : b ≠ a := fun z => by rw [z, h] at e; cases e
    rw [upd_ne hb]; exact g.kp b u n e t, g.fr⟩
theorem Go.frzNew (g : Go F ρ H F1 ρ1 H1) {a : Addr} {o : HO} (h : H a = none) (hf : F1 a = none) : Go F ρ H (upd F1 a o) ρ1 H1 :=
  ⟨g.sf.trans (Rt.Same.newp hf), g.pre, g.new, g.kp, fun b u n e hb t => by
    have hb' : b ≠ a := fun z => by rw [z, h] at hb; cases hb
    rw [upd_ne hb']; exact g.fr b u n e hb t⟩
/-- the cells since the start are forgotten -/
theorem Go.back (g : Go F ρ H F1 ρ1 H1) : Go F ρ H F1 (ρ1.take ρ.length) H1 := by
  obtain ⟨t, e⟩ := g.pre
  have e2 : ρ1.take ρ.length = ρ := by rw [← e]; simp
  rw [e2]
  exact ⟨g.sf, List.prefix_refl _, fun _ h n => absurd h n, g.kp, g.fr⟩
/-- an object that is neither -/
theorem Sr.updX (s : Sr K F ρ H M) {a : Addr} {o : HO} (h : a ∉ ρ) (hf : F a = none) (hx : ∀ φ, H a ≠ some (.ext φ) := by first | exact fun _ z => by simp_all | assumption) : Sr K F ρ (upd H a o) M := by
  have hn : ∀ b ∈ ρ, b ≠ a := fun b hb z => h (z ▸ hb)
  refine ⟨fun b u e => ?_, s.len, s.nd, fun b hb => ?_, fun i c b h1 h2 => ?_, s.nt, fun i pp q b ps h1 h2 h3 => ?_⟩
  · have hb : b ≠ a := fun z => by rw [z, hf] at e; cases e
    rw [upd_ne hb]; exact s.sub _ _ e
  · rw [upd_ne (hn b hb)]; exact s.occ b hb
  · rw [upd_ne (hn b (List.mem_of_getElem? h2))]; exact s.cell i c b h1 h2
  · rw [upd_ne (hn b (List.mem_of_getElem? h2))] at h3
    exact (s.code i pp q b ps h1 h2 h3).mono fun c q e n => ⟨by
      rw [upd_ne fun z => hx _ (z ▸ e)]
      exact e, n⟩
theorem Sr.frzX (s : Sr K F ρ H M) {a : Addr} {o : HO} (h : a ∉ ρ) (hf : F a = none) (ho : H a = some o) (hot : ∀ ps, o ≠ .tbl ps := by exact fun _ z => by cases z) : Sr K (upd F a o) ρ H M := by
  have hn : ∀ b ∈ ρ, b ≠ a := fun b hb z => h (z ▸ hb)
  refine ⟨fun b u e => ?_, s.len, s.nd, s.occ, fun i c b h1 h2 => ?_, fun b ps => ?_, s.code⟩
  · by_cases hb : b = a
    · subst hb; rw [upd_same] at e; cases e; exact ho
    · rw [upd_ne hb] at e; exact s.sub _ _ e
  · have r := s.cell i c b h1 h2
    exact r.mono (Rt.Same.newp hf) fun hd => by rw [upd_ne (hn b (List.mem_of_getElem? h2))]; exact (r.free hd).1
  · by_cases hb : b = a
    · subst hb; rw [upd_same]; exact fun z => hot ps (Option.some.inj z)
    · rw [upd_ne hb]; exact s.nt b ps
end
/-! ### the mirrors' types, the readings -/
abbrev E := Sl → Mm → Option (U × Mm)
abbrev T := Sl → Mm → Option (Bool × Mm)
abbrev As := Sl → Mm → Option (List U × Mm)
inductive Fl where
  | nx | ret (u : U) | brk | ct
abbrev S := Sl → Mm → Option (Fl × Sl × Mm)
abbrev Tg := U → Sl → Mm → Option (Sl × Mm)
abbrev Tgs := List U → Sl → Mm → Option (Sl × Mm)
section
variable (K : PySem.W.Frag)
def tW (m : E) : TE := fun σ H Q => ∃ F ρ us M u M', Sr K F ρ H M ∧ Sv K F ρ us σ ∧ m us M = some (u, M') ∧ ∀ F' ρ' H' v, Go F ρ H F' ρ' H' → Sr K F' ρ' H' M' → RU K F' ρ' u v → Q v H'
def tWT (m : T) : TT := fun σ H Q => ∃ F ρ us M b M', Sr K F ρ H M ∧ Sv K F ρ us σ ∧ m us M = some (b, M') ∧ ∀ F' ρ' H', Go F ρ H F' ρ' H' → Sr K F' ρ' H' M' → Q b H'
def tWA (m : As) : TA := fun σ H Q => ∃ F ρ us M u M', Sr K F ρ H M ∧ Sv K F ρ us σ ∧ m us M = some (u, M') ∧ ∀ F' ρ' H' v, Go F ρ H F' ρ' H' → Sr K F' ρ' H' M' → RUs K F' ρ' u v → Q v H'
def FlQ (F : Hp) (ρ : List Addr) (D : Ends) (us : Sl) (σ : L2.St) (H : Hp) : Fl → Prop
  | .nx => Sv K F ρ us σ → D.nx σ H
  | .ret u => ∀ v, RU K F ρ u v → D.rt v H
  | .brk => Sv K F ρ us σ → D.bk σ H
  | .ct => Sv K F ρ us σ → D.ct σ H
def tWS (m : S) : TS := fun D σ H => ∃ F ρ us M fl us' M', Sr K F ρ H M ∧ Sv K F ρ us σ ∧ m us M = some (fl, us', M') ∧ ∀ F' ρ' H' σ', Go F ρ H F' ρ' H' → Sr K F' ρ' H' M' → FlQ K F' ρ' D us' σ' H' fl
def tWG (g : Tg) : TG := fun v σ H Q => ∃ F ρ u us M us' M', Sr K F ρ H M ∧ Sv K F ρ us σ ∧ RU K F ρ u v ∧ g u us M = some (us', M') ∧ ∀ F' ρ' H' σ', Go F ρ H F' ρ' H' → Sr K F' ρ' H' M' → Sv K F' ρ' us' σ' → Q σ' H'
def tWGs (g : Tgs) : TGs := fun v σ H Q => ∃ F ρ u us M us' M', Sr K F ρ H M ∧ Sv K F ρ us σ ∧ RUs K F ρ u v ∧ g u us M = some (us', M') ∧ ∀ F' ρ' H' σ', Go F ρ H F' ρ' H' → Sr K F' ρ' H' M' → Sv K F' ρ' us' σ' → Q σ' H'
/-- what an iterator yields -/
structure Yld (J : It) (F : Hp) (ρ : List Addr) (its : List U) : Prop where
  go : ∀ (i : Nat) F2 ρ2 H2 M2, Same F F2 → ρ <+: ρ2 → Sr K F2 ρ2 H2 M2 → i < its.length → J.go i H2
  stop : ∀ (i : Nat) F2 ρ2 H2 M2, Same F F2 → ρ <+: ρ2 → Sr K F2 ρ2 H2 M2 → its.length ≤ i → J.stop i H2
  yld : ∀ (i : Nat) F2 ρ2 H2 M2 x H3, Same F F2 → ρ <+: ρ2 → Sr K F2 ρ2 H2 M2 → J.yld i H2 x H3 → ∀ u, its[i]? = some u → ∃ F3, Go F2 ρ2 H2 F3 ρ2 H3 ∧ Sr K F3 ρ2 H3 M2 ∧ RU K F3 ρ2 u x
def tWI (m : As) : TI := fun σ H R => ∃ F ρ us M its M', Sr K F ρ H M ∧ Sv K F ρ us σ ∧ m us M = some (its, M') ∧ ∀ F' ρ' H' J, Go F ρ H F' ρ' H' → Sr K F' ρ' H' M' → Yld K J F' ρ' its → R J H'
end
section
variable (X : Cx) (K : PySem.W.Frag)
def EW (e : Expr) (m : E) : Prop := PE X e (tW K m)
def TW (e : Expr) (m : T) : Prop := PT X e (tWT K m)
def WW (e : Expr) (m : T) : Prop := PW X e (tWT K m)
def AW (es : List Expr) (m : As) : Prop := PA X es (tWA K m)
def KW (es : List Keyword) (m : As) : Prop := PK X es (tWA K m)
def SW (st : Stmt) (m : S) : Prop := PS X st (tWS K m)
def SsW (st : List Stmt) (m : S) : Prop := PSs X st (tWS K m)
def GW (tg : Expr) (g : Tg) : Prop := PG X tg (tWG K g)
def GsW (tgs : List Expr) (g : Tgs) : Prop := PGs X tgs (tWGs K g)
def IW (tg it : Expr) (m : As) : Prop := PI X tg it (tWI K m)
end
section
variable {X : Cx}
theorem _root_.L2.PE.weak {e : Expr} {t t' : TE} (h : PE X e t) (k : ∀ σ H Q, t' σ H Q → t σ H Q) : PE X e t' := ⟨fun pins s σ H Q I q => h.run pins s σ H Q I (k _ _ _ q)⟩
theorem _root_.L2.PT.weak {e : Expr} {t t' : TT} (h : PT X e t) (k : ∀ σ H Q, t' σ H Q → t σ H Q) : PT X e t' := ⟨fun pins s σ H Q I q => h.run pins s σ H Q I (k _ _ _ q)⟩
theorem _root_.L2.PW.weak {e : Expr} {t t' : TT} (h : PW X e t) (k : ∀ σ H Q, t' σ H Q → t σ H Q) : PW X e t' := ⟨fun wh pins s σ H Q I q => h.run wh pins s σ H Q I (k _ _ _ q)⟩
theorem _root_.L2.PA.weak {e : List Expr} {t t' : TA} (h : PA X e t) (k : ∀ σ H Q, t' σ H Q → t σ H Q) : PA X e t' := ⟨fun pos pins s σ H Q I q => h.run pos pins s σ H Q I (k _ _ _ q)⟩
theorem _root_.L2.PK.weak {e : List Keyword} {t t' : TA} (h : PK X e t) (k : ∀ σ H Q, t' σ H Q → t σ H Q) : PK X e t' := ⟨fun pos pins s σ H Q I q => h.run pos pins s σ H Q I (k _ _ _ q)⟩
theorem _root_.L2.PS.weak {e : Stmt} {t t' : TS} (h : PS X e t) (k : ∀ D σ H, t' D σ H → t D σ H) : PS X e t' := ⟨fun pins s σ H D I q => h.run pins s σ H D I (k _ _ _ q)⟩
theorem _root_.L2.PSs.weak {e : List Stmt} {t t' : TS} (h : PSs X e t) (k : ∀ D σ H, t' D σ H → t D σ H) : PSs X e t' := ⟨fun pins s σ H D I q => h.run pins s σ H D I (k _ _ _ q)⟩
theorem _root_.L2.PG.weak {e : Expr} {t t' : TG} (h : PG X e t) (k : ∀ v σ H Q, t' v σ H Q → t v σ H Q) : PG X e t' := ⟨fun pins s σ H v u Q I r q => h.run pins s σ H v u Q I r (k _ _ _ _ q)⟩
theorem _root_.L2.PGs.weak {e : List Expr} {t t' : TGs} (h : PGs X e t) (k : ∀ v σ H Q, t' v σ H Q → t v σ H Q) : PGs X e t' := ⟨fun pins s σ H v u Q I r q => h.run pins s σ H v u Q I r (k _ _ _ _ q)⟩
theorem _root_.L2.PI.weak {e i : Expr} {t t' : TI} (h : PI X e i t) (k : ∀ σ H Q, t' σ H Q → t σ H Q) : PI X e i t' := ⟨fun pins s σ H Q I q => h.run pins s σ H Q I (k _ _ _ q)⟩
end
theorem bind2 {α β : Type} {a : Option α} {f : α → Option β} {b : β} (h : a.bind f = some b) : ∃ x, a = some x ∧ f x = some b := by
  cases a with
  | none => cases h
  | some x => exact ⟨x, rfl, h⟩
/-! ### names, constants -/
def mVar (i : Nat) : E := fun us M => us[i]?.join.map (·, M)
def mC (w : W) : E := fun _ M => some (.p w, M)
section
variable {X : Cx} {K : PySem.W.Frag} {pos : Pos}
theorem ew_var {i : Nat} {x : Str} (hN : X.N[i]? = some x) (hv : Vis X.env.scope x) (hd : (x == ("__debug__" : Str)) = false := by decide) (hcd : (x == ("__classdict__" : Str)) = false := by decide) : EW X K (.Name x pos) (mVar i) := by
  refine (pe_var hN hv hd hcd).weak fun σ H Q ⟨F, ρ, us, M, u, M', sr, sv, hm, k⟩ => ?_
  unfold mVar at hm
  cases e : us[i]? with
  | none => rw [e] at hm; cases hm
  | some o =>
    rw [e] at hm
    cases o with
    | none => cases hm
    | some w =>
      cases hm
      obtain ⟨v, e1, r⟩ := sv.at_ i _ e
      exact ⟨v, e1, k _ _ _ v Go.refl sr r⟩
theorem ev (i : Nat) {x : Str} (hN : X.N[i]? = some x := by rfl) (hv : Vis X.env.scope x := by first | exact Or.inl rfl | exact Or.inr (Or.inl rfl) | exact Or.inr (Or.inr rfl)) (hd : (x == ("__debug__" : Str)) = false := by decide) (hcd : (x == ("__classdict__" : Str)) = false := by decide) : EW X K (.Name x pos) (mVar i) := ew_var hN hv hd hcd
theorem tc_w {w : W} {v : V} (h : ∀ F, Rp K F w v) {σ : L2.St} {H : Hp} {Q : VK} (q : tW K (mC w) σ H Q) : tC v σ H Q := by
  obtain ⟨F, ρ, us, M, u, M', sr, sv, hm, k⟩ := q
  cases hm
  exact k _ _ _ v Go.refl sr (h F)
theorem ew_int {i j} : EW X K (.Constant (.int i) j pos) (mC (.int i)) := pe_int.weak fun σ H Q q => tc_w (w := .int i) (v := .int i) (fun _ => rfl) q
theorem ew_bl {i j} : EW X K (.Constant (.bool i) j pos) (mC (.bl i)) := pe_bl.weak fun σ H Q q => tc_w (w := .bl i) (v := .bl i) (fun _ => rfl) q
theorem ew_non {j} : EW X K (.Constant .none j pos) (mC .non) := pe_non.weak fun σ H Q q => tc_w (w := .non) (v := .non) (fun _ => rfl) q
theorem ew_str {x j} : EW X K (.Constant (.str x) j pos) (mC (.str x)) := pe_str.weak fun σ H Q q => tc_w (w := .str x) (v := .str x) (fun _ => rfl) q
/-- a global of the module, whose value is known -/
theorem ew_glob {x : Str} {w : W} {v : V} {u : Value} (hg : Gl X x) (hm : X.mg x = some u) (r : RelV v u) (h : ∀ F, Rp K F w v) (hd : (x == ("__debug__" : Str)) = false := by decide) : EW X K (.Name x pos) (mC w) := (pe_glob hg hm r hd).weak fun σ H Q q => tc_w h q
theorem ew_bltn {x : Str} {w : W} {v : V} {u : Value} (hg : Gl X x) (hm : X.mg x = none) (hv : bootBuiltins x = some u) (r : RelV v u) (h : ∀ F, Rp K F w v) (hn : x ≠ "__name__" := by decide) (hd : (x == ("__debug__" : Str)) = false := by decide) : EW X K (.Name x pos) (mC w) :=
  (pe_bltn hg hm hv r hn hd).weak fun σ H Q q => tc_w h q
end
/-! ### two-place, one-place operations -/
abbrev F1 := U → Mm → Option (U × Mm)
abbrev F2 := U → U → Mm → Option (U × Mm)
abbrev FA := List U → Mm → Option (U × Mm)
section
variable (K : PySem.W.Frag)
/-- a relation of values is served by the mirror -/
def VR1 (r : V → Hp → VK → Prop) (f : F1) : Prop := ∀ F ρ H M x u c M' Q, Sr K F ρ H M → RU K F ρ u x → f u M = some (c, M') → (∀ F' ρ' H' v, Go F ρ H F' ρ' H' → Sr K F' ρ' H' M' → RU K F' ρ' c v → Q v H') → r x H Q
def VR2 (r : R2) (f : F2) : Prop := ∀ F ρ H M x y u w c M' Q, Sr K F ρ H M → RU K F ρ u x → RU K F ρ w y → f u w M = some (c, M') → (∀ F' ρ' H' v, Go F ρ H F' ρ' H' → Sr K F' ρ' H' M' → RU K F' ρ' c v → Q v H') → r x y H Q
def VRA (r : List V → Hp → VK → Prop) (f : FA) : Prop := ∀ F ρ H M x u c M' Q, Sr K F ρ H M → RUs K F ρ u x → f u M = some (c, M') → (∀ F' ρ' H' v, Go F ρ H F' ρ' H' → Sr K F' ρ' H' M' → RU K F' ρ' c v → Q v H') → r x H Q
end
def mUn (f : F1) (a : E) : E := fun us M => (a us M).bind fun x => f x.1 x.2
def mBin (f : F2) (a b : E) : E := fun us M => (a us M).bind fun x => (b us x.2).bind fun y => f x.1 y.1 y.2
def mCall (f : FA) (a : As) : E := fun us M => (a us M).bind fun x => f x.1 x.2
section
variable {X : Cx} {K : PySem.W.Frag} {pos : Pos} {a b c : Expr} {ma mb mc : E}
theorem w_un {r : V → Hp → VK → Prop} {f : F1} (hf : VR1 K r f) {σ : L2.St} {H : Hp} {Q : VK} (q : tW K (mUn f ma) σ H Q) : tUn r (tW K ma) σ H Q := by
  obtain ⟨F, ρ, us, M, u, M', sr, sv, hm, k⟩ := q
  obtain ⟨⟨x, M1⟩, e1, e2⟩ := bind2 hm
  exact ⟨F, ρ, us, M, x, M1, sr, sv, e1, fun F1 ρ1 H1 v g1 sr1 r1 => hf F1 ρ1 H1 M1 v x u M' Q sr1 r1 e2 fun F' ρ' H' v' g2 => k F' ρ' H' v' (g1.trans g2)⟩
theorem w_op {r : R2} {f : F2} (hf : VR2 K r f) {σ : L2.St} {H : Hp} {Q : VK} (q : tW K (mBin f ma mb) σ H Q) : tOp r (tW K ma) (tW K mb) σ H Q := by
  obtain ⟨F, ρ, us, M, u, M', sr, sv, hm, k⟩ := q
  obtain ⟨⟨x, M1⟩, e1, hm⟩ := bind2 hm
  obtain ⟨⟨y, M2⟩, e2, e3⟩ := bind2 hm
  refine ⟨F, ρ, us, M, x, M1, sr, sv, e1, fun F1 ρ1 H1 v g1 sr1 r1 => ⟨F1, ρ1, us, M1, y, M2, sr1, sv.mono g1.sf g1.pre, e2, fun F2 ρ2 H2 v2 g2 sr2 r2 => ?_⟩⟩
  exact hf F2 ρ2 H2 M2 v v2 x y u M' Q sr2 (r1.mono g2.sf g2.pre) r2 e3 fun F' ρ' H' v' g3 => k F' ρ' H' v' ((g1.trans g2).trans g3)
theorem ew_op {op : Operator} {r : R2} {f : F2} (ho : OpR X (binaryOp op) r) (hf : VR2 K r f) (ha : EW X K a ma) (hb : EW X K b mb) : EW X K (.BinOp a op b pos) (mBin f ma mb) :=
  (pe_op ho ha hb).weak fun _ _ _ q => w_op hf q
theorem ew_cmp {op : CmpOp} {r : R2} {f : F2} (ho : OpR X (compareOp op) r) (hf : VR2 K r f) (ha : EW X K a ma) (hb : EW X K b mb) (hm : behindInMarks op b = false) : EW X K (.Compare a [op] [b] pos) (mBin f ma mb) :=
  (pe_cmpR ho ha hb hm).weak fun _ _ _ q => w_op hf q
theorem ew_un {op : UnaryOp} {r : V → Hp → VK → Prop} {f : F1} (ho : UnR X (unaryOp op) r) (hf : VR1 K r f) (ha : EW X K a ma) : EW X K (.UnaryOp op a pos) (mUn f ma) :=
  (pe_un ho ha).weak fun _ _ _ q => w_un hf q
/-- a op b op' c -/
def mChain (f g : F2) (a b c : E) : E := fun us M => (a us M).bind fun x => (b us x.2).bind fun y => (f x.1 y.1 y.2).bind fun z => match z with
  | (.p (.bl true), M3) => (c us M3).bind fun t => g y.1 t.1 t.2
  | (.p (.bl false), M3) => some (.p (.bl false), M3)
  | _ => none
theorem ew_chain {op op' : CmpOp} {r r' : R2} {f g : F2} (ho : OpR X (compareOp op) r) (ho' : OpR X (compareOp op') r') (hf : VR2 K r f) (hg : VR2 K r' g) (ha : EW X K a ma) (hb : EW X K b mb) (hc : EW X K c mc)
    (hm : lastMarks [op, op'] [b, c] = false := by with_unfolding_all rfl) : EW X K (.Compare a [op, op'] [b, c] pos) (mChain f g ma mb mc) := by
  refine (pe_chain ho ho' ha hb hc hm).weak fun σ H Q ⟨F, ρ, us, M, u, M', sr, sv, hm, k⟩ => ?_
  obtain ⟨⟨x, M1⟩, e1, hm⟩ := bind2 hm
  obtain ⟨⟨y, M2⟩, e2, hm⟩ := bind2 hm
  obtain ⟨⟨z, M3⟩, e3, hm⟩ := bind2 hm
  refine ⟨F, ρ, us, M, x, M1, sr, sv, e1, fun F1 ρ1 H1 v g1 sr1 r1 => ⟨F1, ρ1, us, M1, y, M2, sr1, sv.mono g1.sf g1.pre, e2, fun F2 ρ2 H2 v2 g2 sr2 r2 => ?_⟩⟩
  refine hf F2 ρ2 H2 M2 v v2 x y z M3 _ sr2 (r1.mono g2.sf g2.pre) r2 e3 fun F3 ρ3 H3 v3 g3 sr3 r3 => ?_
  have g13 := (g1.trans g2).trans g3
  dsimp only at hm
  split at hm
  · rename_i h
    cases h
    cases r3
    obtain ⟨⟨t, M4⟩, e4, e5⟩ := bind2 hm
    refine ⟨true, rfl, ?_⟩
    rw [if_pos rfl]
    exact ⟨F3, ρ3, us, _, t, M4, sr3, sv.mono g13.sf g13.pre, e4, fun F4 ρ4 H4 v4 g4 sr4 r4 => hg F4 ρ4 H4 M4 v2 v4 y t u M' Q sr4 ((r2.mono g3.sf g3.pre).mono g4.sf g4.pre) r4 e5 fun F' ρ' H' v' g5 => k F' ρ' H' v' ((g13.trans g4).trans g5)⟩
  · rename_i h
    cases h
    cases hm
    cases r3
    exact ⟨false, rfl, k _ _ _ _ g13 sr3 rfl⟩
  · cases hm
end
/-! ### arguments -/
def mNil : As := fun _ M => some ([], M)
def mCons (a : E) (r : As) : As := fun us M => (a us M).bind fun x => (r us x.2).map fun y => (x.1 :: y.1, y.2)
section
variable {X : Cx} {K : PySem.W.Frag} {pos : Pos} {e : Expr} {es : List Expr} {ma : E} {mr : As}
theorem w_nil {σ : L2.St} {H : Hp} {Q : List V → Hp → Prop} (q : tWA K mNil σ H Q) : tNil σ H Q := by
  obtain ⟨F, ρ, us, M, u, M', sr, sv, hm, k⟩ := q
  cases hm
  exact k _ _ _ [] Go.refl sr rfl
theorem w_cons {σ : L2.St} {H : Hp} {Q : List V → Hp → Prop} (q : tWA K (mCons ma mr) σ H Q) : tCons (tW K ma) (tWA K mr) σ H Q := by
  obtain ⟨F, ρ, us, M, u, M', sr, sv, hm, k⟩ := q
  obtain ⟨⟨x, M1⟩, e1, hm⟩ := bind2 hm
  obtain ⟨⟨y, M2⟩, e2, e3⟩ := Option.map_eq_some_iff.mp hm
  cases e3
  refine ⟨F, ρ, us, M, x, M1, sr, sv, e1, fun F1 ρ1 H1 v g1 sr1 r1 => ⟨F1, ρ1, us, M1, y, M2, sr1, sv.mono g1.sf g1.pre, e2, fun F2 ρ2 H2 v2 g2 sr2 r2 => ?_⟩⟩
  exact k F2 ρ2 H2 (v :: v2) (g1.trans g2) sr2 ⟨v, v2, rfl, r1.mono g2.sf g2.pre, r2⟩
theorem aw_nil : AW X K [] mNil := pa_nil.weak fun _ _ _ q => w_nil q
theorem aw_cons (ha : EW X K e ma) (hr : AW X K es mr) (hs : starEach (e :: es) X.env = (false, eval e X.env) :: starEach es X.env := by rfl) : AW X K (e :: es) (mCons ma mr) := (pa_cons ha hr hs).weak fun _ _ _ q => w_cons q
theorem kw_nil : KW X K [] mNil := pk_nil.weak fun _ _ _ q => w_nil q
theorem kw_cons {nm : Option Str} {kws : List Keyword} {kpos : Pos} (ha : EW X K e ma) (hr : KW X K kws mr) : KW X K (⟨nm, e, kpos⟩ :: kws) (mCons ma mr) := (pk_cons ha hr).weak fun _ _ _ q => w_cons q
theorem w_call {r : List V → Hp → VK → Prop} {f : FA} (hf : VRA K r f) {σ : L2.St} {H : Hp} {Q : VK} (q : tW K (mCall f mr) σ H Q) : tWA K mr σ H (fun vs H1 => r vs H1 Q) := by
  obtain ⟨F, ρ, us, M, u, M', sr, sv, hm, k⟩ := q
  obtain ⟨⟨x, M1⟩, e1, e2⟩ := bind2 hm
  exact ⟨F, ρ, us, M, x, M1, sr, sv, e1, fun F1 ρ1 H1 v g1 sr1 r1 => hf F1 ρ1 H1 M1 v x u M' Q sr1 r1 e2 fun F' ρ' H' v' g2 => k F' ρ' H' v' (g1.trans g2)⟩
/-- displays -/
def pures : List U → Option (List W)
  | [] => some []
  | .p w :: r => (pures r).map (w :: ·)
  | _ :: _ => none
theorem pures_rp {F : Hp} {ρ : List Addr} : ∀ {us : List U} {ws : List W} {vs : List V}, pures us = some ws → RUs K F ρ us vs → RpL K F ws vs
  | [], _, _, h, r => by cases h; exact r
  | .p w :: us, _, _, h, r => by
    obtain ⟨ws, e, e2⟩ := Option.map_eq_some_iff.mp (show (pures us).map (w :: ·) = some _ from h)
    cases e2
    obtain ⟨v, rs, rfl, q, t⟩ := r
    exact ⟨v, rs, rfl, q, pures_rp e t⟩
  | .m _ :: _, _, _, h, _ => by cases h
  | .ts _ :: _, _, _, h, _ => by cases h
def dTup : FA := fun us M => match us with
  | [.m i] => match M[i]? with
    | some (.ins _ _) => some (.ts i, M)
    | _ => none
  | us => (pures us).map fun ws => (.p (.tup ws), M)
def dLst : FA := fun us M => (pures us).map fun ws => (.p (.lst ws), M)
def dCell : FA := fun us M => (pures us).map fun ws => (.m M.length, M ++ [.lst ws])
def rNewT (es : List Expr) : List V → Hp → VK → Prop := fun xs H Q => xs.length ≤ sizeLine ∧ ∀ p, H p = none → Q (.ref p) (upd H p (.tup xs))
def rNewL (es : List Expr) : List V → Hp → VK → Prop := fun xs H Q => xs.length ≤ sizeLine ∧ ∀ p, H p = none → Q (.ref p) (upd H p (.lst xs))
def smallA (n : Nat) (m : As) : As := fun us M => (m us M).bind fun x => if x.1.length ≤ 1000000 then some x else none
theorem sz_ok {n : Nat} (h : n ≤ 1000000) : n ≤ sizeLine := by rw [sz_line]; omega
def mDisp (f : FA) (m : As) : E := fun us M => (m us M).bind fun x => if x.1.length ≤ 1000000 then f x.1 x.2 else none
theorem w_disp {r : List V → Hp → VK → Prop} {f : FA} (hf : ∀ F ρ H M x u c M' Q, u.length ≤ 1000000 → Sr K F ρ H M → RUs K F ρ u x → f u M = some (c, M') → (∀ F' ρ' H' v, Go F ρ H F' ρ' H' → Sr K F' ρ' H' M' → RU K F' ρ' c v → Q v H') → r x H Q)
    {σ : L2.St} {H : Hp} {Q : VK} (q : tW K (mDisp f mr) σ H Q) : tWA K mr σ H (fun vs H1 => r vs H1 Q) := by
  obtain ⟨F, ρ, us, M, u, M', sr, sv, hm, k⟩ := q
  obtain ⟨⟨x, M1⟩, e1, e2⟩ := bind2 hm
  dsimp only at e2
  split at e2
  · rename_i hl
    exact ⟨F, ρ, us, M, x, M1, sr, sv, e1, fun F1 ρ1 H1 v g1 sr1 r1 => hf F1 ρ1 H1 M1 v x u M' Q hl sr1 r1 e2 fun F' ρ' H' v' g2 => k F' ρ' H' v' (g1.trans g2)⟩
  · cases e2
theorem ew_tup {x1} (h : AW X K es mr) : EW X K (.Tuple es x1 pos) (mDisp dTup mr) := by
  refine (pe_tup h).weak fun σ H Q q => ?_
  refine w_disp (r := rNewT es) (fun F ρ H M x u c M' Q hl sr r hm k => ⟨by rw [← r.length]; exact sz_ok hl, fun p hp => ?_⟩) q
  have go : ∀ u : List U, RUs K F ρ u x → (pures u).map (fun ws => (U.p (.tup ws), M)) = some (c, M') → Q (.ref p) (upd H p (.tup x)) := fun u r hm => by
    obtain ⟨ws, e1, e2⟩ := Option.map_eq_some_iff.mp hm
    cases e2
    obtain ⟨s1, s2⟩ := sr.newF (o := .tup x) hp
    exact k _ _ _ _ (sr.goF hp) s1 ⟨p, x, rfl, upd_same, (pures_rp e1 r).mono s2⟩
  unfold dTup at hm
  split at hm
  · rename_i i
    split at hm
    · cases hm
      obtain ⟨v, rs, rfl, ⟨a, ha, rfl⟩, rfl⟩ := r
      obtain ⟨s1, s2⟩ := sr.newF (o := .tup [.ref a]) hp
      exact k _ _ _ _ (sr.goF hp) s1 ⟨a, p, ha, rfl, upd_same⟩
    · cases hm
  · exact go _ r hm
theorem ew_lst (h : AW X K es mr) : EW X K (.List es pos) (mDisp dLst mr) := by
  refine (pe_lst h).weak fun σ H Q q => ?_
  refine w_disp (r := rNewL es) (fun F ρ H M x u c M' Q hl sr r hm k => ⟨by rw [← r.length]; exact sz_ok hl, fun p hp => ?_⟩) q
  obtain ⟨ws, e1, e2⟩ := Option.map_eq_some_iff.mp hm
  cases e2
  obtain ⟨s1, s2⟩ := sr.newF (o := .lst x) hp
  exact k _ _ _ _ (sr.goF hp) s1 ⟨p, x, rfl, upd_same, (pures_rp e1 r).mono s2⟩
/-- a list that will change: a cell -/
theorem ew_cell (h : AW X K es mr) : EW X K (.List es pos) (mDisp dCell mr) := by
  refine (pe_lst h).weak fun σ H Q q => ?_
  refine w_disp (r := rNewL es) (fun F ρ H M x u c M' Q hl sr r hm k => ⟨by rw [← r.length]; exact sz_ok hl, fun p hp => ?_⟩) q
  obtain ⟨ws, e1, e2⟩ := Option.map_eq_some_iff.mp hm
  cases e2
  have rl := pures_rp e1 r
  refine k _ _ _ _ (Sr.goC hp) (sr.newC (o := .lst x) hp ⟨sr.fnone hp, x, rfl, rl⟩) ⟨p, ?_, rfl⟩
  rw [← sr.len]
  simp
end
end Pz
/-! ### tests, choices -/
namespace Pz
open PySem PySem.Spec PyProof.Rows L2 Rt He
section
variable {K : PySem.W.Frag} {F F' H : Hp} {ρ : List Addr} {M : Mm}
theorem RpL.isEmpty : ∀ {ws : List W} {vs : List V}, RpL K F ws vs → ws.isEmpty = vs.isEmpty
  | [], _, r => by cases r; rfl
  | _ :: _, _, r => by obtain ⟨u, us, rfl, _, l⟩ := r; rfl
theorem RpD.isEmpty : ∀ {ws : List (Key × W)} {vs : List (Key × V)}, RpD K F ws vs → ws.isEmpty = vs.isEmpty
  | [], _, r => by cases r; rfl
  | (_, _) :: _, _, r => by obtain ⟨u, us, rfl, _, l⟩ := r; rfl
/-- a list that is read: its items -/
def seqL (M : Mm) : U → Option (List W)
  | .p (.lst ws) => some ws
  | .p (.frz ws) => some ws
  | .m i => match M[i]? with
    | some (.lst ws) => some ws
    | _ => none
  | _ => none
def seqT : U → Option (List W)
  | .p (.tup ws) => some ws
  | .p (.kt ws) => some ws
  | _ => none
theorem Sr.cellL (s : Sr K F ρ H M) {i : Nat} {a : Addr} {ws : List W} (hi : M[i]? = some (.lst ws)) (ha : ρ[i]? = some a) : ∃ vs, H a = some (.lst vs) ∧ RpL K F ws vs := by
  obtain ⟨_, vs, e, r⟩ := s.cell i _ a hi ha
  exact ⟨vs, e, r⟩
theorem Sr.seqL (s : Sr K F ρ H M) {u : U} {ws : List W} {v : V} (h : Pz.seqL M u = some ws) (r : RU K F ρ u v) : ∃ a vs, v = .ref a ∧ SqL K H a vs ∧ RpL K F ws vs := by
  unfold Pz.seqL at h
  split at h
  · cases h
    obtain ⟨a, vs, e, f, q⟩ := r
    exact ⟨a, vs, e, SqL.of (s.sub _ _ f), q⟩
  · cases h
    obtain ⟨a, vs, e, f, q⟩ := r
    exact ⟨a, vs, e, SqL.same s.sub f, q⟩
  · split at h
    · rename_i e
      cases h
      obtain ⟨a, ha, e2⟩ := r
      obtain ⟨vs, e3, q⟩ := s.cellL e ha
      exact ⟨a, vs, e2, SqL.of e3, q⟩
    · cases h
  · cases h
theorem seqT_ok (s : Sr K F ρ H M) {u : U} {ws : List W} {v : V} (h : seqT u = some ws) (r : RU K F ρ u v) : ∃ a vs, v = .ref a ∧ SqT K H a vs ∧ RpL K F ws vs := by
  unfold seqT at h
  split at h
  · cases h
    obtain ⟨a, vs, e, f, q⟩ := r
    exact ⟨a, vs, e, SqT.of (s.sub _ _ f), q⟩
  · cases h
    obtain ⟨a, vs, e, f, q⟩ := r
    exact ⟨a, vs, e, SqT.same s.sub f, q⟩
  · cases h
/-- truth -/
def truU (M : Mm) : U → Option Bool
  | .p .non => some false
  | .p (.bl b) => some b
  | .p (.int i) => some (i != 0)
  | .p (.str y) => if y.length ≤ 1000000 then some ((y.length : Int) != 0) else none
  | .p (.tup ws) => some (!ws.isEmpty)
  | .p (.lst ws) => some (!ws.isEmpty)
  | .p (.dic ws) => some (!ws.isEmpty)
  | .m i => match M[i]? with
    | some (.lst ws) => some (!ws.isEmpty)
    | _ => none
  | _ => none
theorem truU_ok (s : Sr K F ρ H M) {u : U} {b : Bool} {v : V} (h : truU M u = some b) (r : RU K F ρ u v) : TruV K v H b := by
  unfold truU at h
  split at h
  · cases h; cases r; rfl
  · cases h; cases r; rfl
  · cases h; cases r; rfl
  · split at h
    · rename_i y hl; cases h; cases r; exact ⟨sz_ok hl, rfl⟩
    · cases h
  · cases h
    obtain ⟨a, vs, rfl, f, q⟩ := r
    exact .inr (.inl ⟨vs, SqT.of (s.sub _ _ f), by rw [q.isEmpty]⟩)
  · cases h
    obtain ⟨a, vs, rfl, f, q⟩ := r
    exact .inl ⟨vs, SqL.of (s.sub _ _ f), by rw [q.isEmpty]⟩
  · cases h
    obtain ⟨a, vs, rfl, f, q⟩ := r
    exact .inr (.inr ⟨vs, s.sub _ _ f, by rw [q.isEmpty]⟩)
  · split at h
    · rename_i e
      cases h
      obtain ⟨a, ha, rfl⟩ := r
      obtain ⟨vs, e3, q⟩ := s.cellL e ha
      exact .inl ⟨vs, SqL.of e3, by rw [q.isEmpty]⟩
    · cases h
  · cases h
end
def isB : U × Mm → Option (Bool × Mm)
  | (.p (.bl b), M) => some (b, M)
  | _ => none
/-- a value that is a bool, as a test -/
def mB (m : E) : T := fun us M => (m us M).bind isB
def mTru (m : E) : T := fun us M => (m us M).bind fun x => (truU x.2 x.1).map (·, x.2)
def mNot (m : T) : T := fun us M => (m us M).map fun x => (!x.1, x.2)
def mAnd (a b : T) : T := fun us M => (a us M).bind fun x => if x.1 then b us x.2 else some (false, x.2)
def mOr (a b : T) : T := fun us M => (a us M).bind fun x => if x.1 then some (true, x.2) else b us x.2
def mIfE (t : T) (a b : E) : E := fun us M => (t us M).bind fun x => if x.1 then a us x.2 else b us x.2
/-- .. as values -/
def mBV (m : T) : E := fun us M => (m us M).map fun x => (.p (.bl x.1), x.2)
theorem isB_ok {x : U × Mm} {b : Bool} {M : Mm} (h : isB x = some (b, M)) : x = (.p (.bl b), M) := by
  obtain ⟨u, M1⟩ := x
  unfold isB at h
  split at h
  · rename_i e; cases h; exact e
  · cases h
section
variable {X : Cx} {K : PySem.W.Frag} {pos : Pos} {e a b c : Expr} {rest : List Expr} {m ma mb : E} {t u : T}
theorem w_b {σ : L2.St} {H : Hp} {Q : Bool → Hp → Prop} (q : tWT K (mB m) σ H Q) : tB (tW K m) σ H Q := by
  obtain ⟨F, ρ, us, M, b, M', sr, sv, hm, k⟩ := q
  obtain ⟨x, e1, e2⟩ := bind2 hm
  have e3 := isB_ok e2
  subst e3
  exact ⟨F, ρ, us, M, _, M', sr, sv, e1, fun F1 ρ1 H1 v g1 sr1 r1 => ⟨b, r1, k _ _ _ g1 sr1⟩⟩
theorem tw_cmp {op : CmpOp} {r : R2} {f : F2} (ho : OpR X (compareOp op) r) (hf : VR2 K r f) (ha : EW X K a ma) (hb : EW X K b mb) (hm : behindInMarks op b = false) : TW X K (.Compare a [op] [b] pos) (mB (mBin f ma mb)) := by
  refine (pt_cmpR ho ha hb hm).weak fun σ H Q q => ?_
  obtain ⟨F, ρ, us, M, b, M', sr, sv, hm, k⟩ := w_b q
  exact w_op hf ⟨F, ρ, us, M, b, M', sr, sv, hm, k⟩
theorem tw_chain {mc : E} {op op' : CmpOp} {r r' : R2} {f g : F2} (ho : OpR X (compareOp op) r) (ho' : OpR X (compareOp op') r') (hf : VR2 K r f) (hg : VR2 K r' g) (ha : EW X K a ma) (hb : EW X K b mb) (hc : EW X K c mc)
    (hm : lastMarks [op, op'] [b, c] = false := by with_unfolding_all rfl) : TW X K (.Compare a [op, op'] [b, c] pos) (mB (mChain f g ma mb mc)) := by
  refine (pt_chain ho ho' ha hb hc hm).weak fun σ H Q q => ?_
  obtain ⟨F, ρ, us, M, u, M', sr, sv, hm, k⟩ := w_b q
  obtain ⟨⟨x, M1⟩, e1, hm⟩ := bind2 hm
  obtain ⟨⟨y, M2⟩, e2, hm⟩ := bind2 hm
  obtain ⟨⟨z, M3⟩, e3, hm⟩ := bind2 hm
  refine ⟨F, ρ, us, M, x, M1, sr, sv, e1, fun F1 ρ1 H1 v g1 sr1 r1 => ⟨F1, ρ1, us, M1, y, M2, sr1, sv.mono g1.sf g1.pre, e2, fun F2 ρ2 H2 v2 g2 sr2 r2 => ?_⟩⟩
  refine hf F2 ρ2 H2 M2 v v2 x y z M3 _ sr2 (r1.mono g2.sf g2.pre) r2 e3 fun F3 ρ3 H3 v3 g3 sr3 r3 => ?_
  have g13 := (g1.trans g2).trans g3
  dsimp only at hm
  split at hm
  · rename_i h
    cases h
    cases r3
    obtain ⟨⟨t, M4⟩, e4, e5⟩ := bind2 hm
    refine ⟨true, rfl, ?_⟩
    rw [if_pos rfl]
    exact ⟨F3, ρ3, us, _, t, M4, sr3, sv.mono g13.sf g13.pre, e4, fun F4 ρ4 H4 v4 g4 sr4 r4 => hg F4 ρ4 H4 M4 v2 v4 y t _ M' _ sr4 ((r2.mono g3.sf g3.pre).mono g4.sf g4.pre) r4 e5 fun F' ρ' H' v' g5 => k F' ρ' H' v' ((g13.trans g4).trans g5)⟩
  · rename_i h
    cases h
    cases hm
    cases r3
    exact ⟨false, rfl, k _ _ _ _ g13 sr3 rfl⟩
  · cases hm
theorem tw_val (h : EW X K e m) (he : ∀ whole, isTrue e X.env whole = (do let v ← whole; standAt e.pos; holding [v] (truthy v)) := by intro _; rfl) : TW X K e (mB m) := (pt_val h he).weak fun _ _ _ q => w_b q
theorem tw_tru (h : EW X K e m) (hK : X.K = K := by rfl) (he : ∀ whole, isTrue e X.env whole = (do let v ← whole; standAt e.pos; holding [v] (truthy v)) := by intro _; rfl) : TW X K e (mTru m) := by
  subst hK
  refine (pt_truth h he).weak fun σ H Q ⟨F, ρ, us, M, b, M', sr, sv, hm, k⟩ => ?_
  obtain ⟨⟨x, M1⟩, e1, e2⟩ := bind2 hm
  obtain ⟨b', e3, e4⟩ := Option.map_eq_some_iff.mp e2
  cases e4
  exact ⟨F, ρ, us, M, x, _, sr, sv, e1, fun F1 ρ1 H1 v g1 sr1 r1 => ⟨b, truU_ok sr1 e3 r1, k _ _ _ g1 sr1⟩⟩
theorem tw_not (h : TW X K a t) : TW X K (.UnaryOp .Not a pos) (mNot t) := by
  refine (pt_not h).weak fun σ H Q ⟨F, ρ, us, M, b, M', sr, sv, hm, k⟩ => ?_
  obtain ⟨⟨c, M1⟩, e3, e4⟩ := Option.map_eq_some_iff.mp hm
  cases e4
  exact ⟨F, ρ, us, M, c, _, sr, sv, e3, k⟩
theorem ww_and1 (h : TW X K a t) : WW X K (.BoolOp .And [a] pos) t := pw_and1 h
theorem ww_or1 (h : TW X K a t) : WW X K (.BoolOp .Or [a] pos) t := pw_or1 h
theorem ww_and (h : TW X K a t) (g : WW X K (.BoolOp .And (b :: rest) pos) u) : WW X K (.BoolOp .And (a :: b :: rest) pos) (mAnd t u) := by
  refine (pw_and h g).weak fun σ H Q ⟨F, ρ, us, M, b, M', sr, sv, hm, k⟩ => ?_
  obtain ⟨⟨c, M1⟩, e1, e2⟩ := bind2 hm
  refine ⟨F, ρ, us, M, c, M1, sr, sv, e1, fun F1 ρ1 H1 g1 sr1 => ?_⟩
  cases c with
  | true => rw [if_pos rfl]; exact ⟨F1, ρ1, us, M1, b, M', sr1, sv.mono g1.sf g1.pre, e2, fun F' ρ' H' g2 => k F' ρ' H' (g1.trans g2)⟩
  | false => rw [if_neg Bool.false_ne_true]; cases e2; exact k _ _ _ g1 sr1
theorem ww_or (h : TW X K a t) (g : WW X K (.BoolOp .Or (b :: rest) pos) u) : WW X K (.BoolOp .Or (a :: b :: rest) pos) (mOr t u) := by
  refine (pw_or h g).weak fun σ H Q ⟨F, ρ, us, M, b, M', sr, sv, hm, k⟩ => ?_
  obtain ⟨⟨c, M1⟩, e1, e2⟩ := bind2 hm
  refine ⟨F, ρ, us, M, c, M1, sr, sv, e1, fun F1 ρ1 H1 g1 sr1 => ?_⟩
  cases c with
  | false => rw [if_neg Bool.false_ne_true]; exact ⟨F1, ρ1, us, M1, b, M', sr1, sv.mono g1.sf g1.pre, e2, fun F' ρ' H' g2 => k F' ρ' H' (g1.trans g2)⟩
  | true => rw [if_pos rfl]; cases e2; exact k _ _ _ g1 sr1
theorem tw_ww (h : WW X K e t) : TW X K e t := PW.pt h
/-- and, or, not as values: each part a bool -/
theorem ew_one {op} (h : EW X K a m) : EW X K (.BoolOp op [a] pos) m := pe_one h
def mAndV (a b : E) : E := fun us M => ((a us M).bind isB).bind fun x => if x.1 then b us x.2 else some (.p (.bl false), x.2)
def mOrV (a b : E) : E := fun us M => ((a us M).bind isB).bind fun x => if x.1 then some (.p (.bl true), x.2) else b us x.2
def mNotV (a : E) : E := fun us M => ((a us M).bind isB).map fun x => (.p (.bl (!x.1)), x.2)
theorem ew_and (h : EW X K a ma) (g : EW X K (.BoolOp .And (b :: rest) pos) mb) : EW X K (.BoolOp .And (a :: b :: rest) pos) (mAndV ma mb) := by
  refine (pe_and h g).weak fun σ H Q ⟨F, ρ, us, M, r, M', sr, sv, hm, k⟩ => ?_
  obtain ⟨⟨c, M1⟩, e1, e2⟩ := bind2 hm
  obtain ⟨x, e0, e3⟩ := bind2 e1
  have e4 := isB_ok e3
  subst e4
  refine ⟨F, ρ, us, M, _, M1, sr, sv, e0, fun F1 ρ1 H1 v g1 sr1 r1 => ⟨c, r1, ?_⟩⟩
  cases c with
  | true => rw [if_pos rfl]; exact ⟨F1, ρ1, us, M1, r, M', sr1, sv.mono g1.sf g1.pre, e2, fun F' ρ' H' v g2 => k F' ρ' H' v (g1.trans g2)⟩
  | false => rw [if_neg Bool.false_ne_true]; cases e2; exact k _ _ _ _ g1 sr1 rfl
theorem ew_or (h : EW X K a ma) (g : EW X K (.BoolOp .Or (b :: rest) pos) mb) : EW X K (.BoolOp .Or (a :: b :: rest) pos) (mOrV ma mb) := by
  refine (pe_or h g).weak fun σ H Q ⟨F, ρ, us, M, r, M', sr, sv, hm, k⟩ => ?_
  obtain ⟨⟨c, M1⟩, e1, e2⟩ := bind2 hm
  obtain ⟨x, e0, e3⟩ := bind2 e1
  have e4 := isB_ok e3
  subst e4
  refine ⟨F, ρ, us, M, _, M1, sr, sv, e0, fun F1 ρ1 H1 v g1 sr1 r1 => ⟨c, r1, ?_⟩⟩
  cases c with
  | false => rw [if_neg Bool.false_ne_true]; exact ⟨F1, ρ1, us, M1, r, M', sr1, sv.mono g1.sf g1.pre, e2, fun F' ρ' H' v g2 => k F' ρ' H' v (g1.trans g2)⟩
  | true => rw [if_pos rfl]; cases e2; exact k _ _ _ _ g1 sr1 rfl
theorem ew_not (h : EW X K a ma) : EW X K (.UnaryOp .Not a pos) (mNotV ma) := by
  refine (pe_not h).weak fun σ H Q ⟨F, ρ, us, M, r, M', sr, sv, hm, k⟩ => ?_
  obtain ⟨⟨c, M1⟩, e1, e2⟩ := Option.map_eq_some_iff.mp hm
  cases e2
  obtain ⟨x, e0, e3⟩ := bind2 e1
  have e4 := isB_ok e3
  subst e4
  exact ⟨F, ρ, us, M, _, _, sr, sv, e0, fun F1 ρ1 H1 v g1 sr1 r1 => ⟨c, r1, k _ _ _ _ g1 sr1 rfl⟩⟩
theorem ew_ifE (h : TW X K c t) (ha : EW X K a ma) (hb : EW X K b mb) : EW X K (.IfExp c a b pos) (mIfE t ma mb) := by
  refine (pe_ifExp h ha hb).weak fun σ H Q ⟨F, ρ, us, M, r, M', sr, sv, hm, k⟩ => ?_
  obtain ⟨⟨c, M1⟩, e1, e2⟩ := bind2 hm
  refine ⟨F, ρ, us, M, c, M1, sr, sv, e1, fun F1 ρ1 H1 g1 sr1 => ?_⟩
  cases c with
  | true => rw [if_pos rfl]; exact ⟨F1, ρ1, us, M1, r, M', sr1, sv.mono g1.sf g1.pre, e2, fun F' ρ' H' v g2 => k F' ρ' H' v (g1.trans g2)⟩
  | false => rw [if_neg Bool.false_ne_true]; exact ⟨F1, ρ1, us, M1, r, M', sr1, sv.mono g1.sf g1.pre, e2, fun F' ρ' H' v g2 => k F' ρ' H' v (g1.trans g2)⟩
end
/-! ### statements -/
def mNext : S := fun us M => some (.nx, us, M)
def mNever : S := fun _ _ => none
def mSeq (a b : S) : S := fun us M => (a us M).bind fun x => match x with
  | (.nx, us1, M1) => b us1 M1
  | r => some r
def mIf (t : T) (a b : S) : S := fun us M => (t us M).bind fun x => if x.1 then a us x.2 else b us x.2
def mRet (a : E) : S := fun us M => (a us M).map fun x => (.ret x.1, us, x.2)
def mRetN : S := fun us M => some (.ret (.p .non), us, M)
def mExpr (a : E) : S := fun us M => (a us M).map fun x => (.nx, us, x.2)
def mBrk : S := fun us M => some (.brk, us, M)
def mCnt : S := fun us M => some (.ct, us, M)
def mAsg (a : E) (g : Tg) : S := fun us M => (a us M).bind fun x => (g x.1 us x.2).map fun y => (.nx, y.1, y.2)
def gNm (i : Nat) : Tg := fun u us M => some (us.set i (some u), M)
def gNone : Tgs := fun us sl M => match us with
  | [] => some (sl, M)
  | _ => none
def gMore (g : Tg) (r : Tgs) : Tgs := fun us sl M => match us with
  | u :: t => (g u sl M).bind fun x => r t x.1 x.2
  | [] => none
def gTp (n : Nat) (g : Tgs) : Tg := fun u sl M => (seqT u).bind fun ws => if ws.length = n then g (ws.map .p) sl M else none
def mPar (i j : Nat) (m : As) : S := fun us M => (m us M).bind fun x => match x with
  | ([u, w], M1) => some (.nx, (us.set i (some u)).set j (some w), M1)
  | _ => none
section
variable {X : Cx} {K : PySem.W.Frag} {pos : Pos} {e : Expr} {st : Stmt} {rest : List Stmt} {m : E} {ms mr : S} {t : T}
theorem w_seq {D : Ends} {σ : L2.St} {H : Hp} (q : tWS K (mSeq ms mr) D σ H) : tSeq (tWS K ms) (tWS K mr) D σ H := by
  obtain ⟨F, ρ, us, M, fl, us', M', sr, sv, hm, k⟩ := q
  obtain ⟨⟨f1, us1, M1⟩, e1, e2⟩ := bind2 hm
  refine ⟨F, ρ, us, M, f1, us1, M1, sr, sv, e1, fun F1 ρ1 H1 σ1 g1 sr1 => ?_⟩
  cases f1 with
  | nx => exact fun sv1 => ⟨F1, ρ1, us1, M1, fl, us', M', sr1, sv1, e2, fun F2 ρ2 H2 σ2 g2 => k F2 ρ2 H2 σ2 (g1.trans g2)⟩
  | ret u => cases e2; exact k F1 ρ1 H1 σ1 g1 sr1
  | brk => cases e2; exact k F1 ρ1 H1 σ1 g1 sr1
  | ct => cases e2; exact k F1 ρ1 H1 σ1 g1 sr1
theorem sw_nil : SsW X K [] mNext := pss_nil.weak fun D σ H ⟨F, ρ, us, M, fl, us', M', sr, sv, hm, k⟩ => by
  cases hm
  exact k F ρ H σ Go.refl sr sv
theorem sw_one (h : SW X K st ms) : SsW X K [st] ms := pss_one h
theorem sw_cons (h : SW X K st ms) (g : SsW X K rest mr) : SsW X K (st :: rest) (mSeq ms mr) := (pss_cons h g).weak fun _ _ _ q => w_seq q
theorem sw_never : SW X K st mNever := ps_never.weak fun D σ H ⟨F, ρ, us, M, fl, us', M', sr, sv, hm, k⟩ => by cases hm
theorem sw_pass : SW X K (.Pass pos) mNext := ps_pass.weak fun D σ H ⟨F, ρ, us, M, fl, us', M', sr, sv, hm, k⟩ => by
  cases hm
  exact k F ρ H σ Go.refl sr sv
theorem sw_brk : SW X K (.Break pos) mBrk := ps_break.weak fun D σ H ⟨F, ρ, us, M, fl, us', M', sr, sv, hm, k⟩ => by
  cases hm
  exact k F ρ H σ Go.refl sr sv
theorem sw_cnt : SW X K (.Continue pos) mCnt := ps_continue.weak fun D σ H ⟨F, ρ, us, M, fl, us', M', sr, sv, hm, k⟩ => by
  cases hm
  exact k F ρ H σ Go.refl sr sv
theorem sw_doc {x j pos pos'} : SW X K (.Expr (.Constant (.str x) j pos) pos') mNext := ps_doc.weak fun D σ H ⟨F, ρ, us, M, fl, us', M', sr, sv, hm, k⟩ => by
  cases hm
  exact k F ρ H σ Go.refl sr sv
theorem sw_expr (h : EW X K e m) (hs : swapsWith e none pos.line X.env = pure false := by rfl) : SW X K (.Expr e pos) (mExpr m) := (ps_expr h hs).weak fun D σ H ⟨F, ρ, us, M, fl, us', M', sr, sv, hm, k⟩ => by
  obtain ⟨⟨x, M1⟩, e1, e2⟩ := Option.map_eq_some_iff.mp hm
  cases e2
  exact ⟨F, ρ, us, M, x, _, sr, sv, e1, fun F1 ρ1 H1 v g1 sr1 r1 => k F1 ρ1 H1 σ g1 sr1 (sv.mono g1.sf g1.pre)⟩
theorem sw_ret (h : EW X K e m) : SW X K (.Return (some e) pos) (mRet m) := (ps_ret h).weak fun D σ H ⟨F, ρ, us, M, fl, us', M', sr, sv, hm, k⟩ => by
  obtain ⟨⟨x, M1⟩, e1, e2⟩ := Option.map_eq_some_iff.mp hm
  cases e2
  exact ⟨F, ρ, us, M, x, _, sr, sv, e1, fun F1 ρ1 H1 v g1 sr1 r1 => k F1 ρ1 H1 σ g1 sr1 v r1⟩
theorem sw_retN : SW X K (.Return none pos) mRetN := ps_retN.weak fun D σ H ⟨F, ρ, us, M, fl, us', M', sr, sv, hm, k⟩ => by
  cases hm
  exact k F ρ H σ Go.refl sr .non rfl
theorem w_if {tc : T} {D : Ends} {σ : L2.St} {H : Hp} (q : tWS K (mIf tc ms mr) D σ H) : tIfS (tWT K tc) (tWS K ms) (tWS K mr) D σ H := by
  obtain ⟨F, ρ, us, M, fl, us', M', sr, sv, hm, k⟩ := q
  obtain ⟨⟨c, M1⟩, e1, e2⟩ := bind2 hm
  refine ⟨F, ρ, us, M, c, M1, sr, sv, e1, fun F1 ρ1 H1 g1 sr1 => ?_⟩
  cases c with
  | true => rw [if_pos rfl]; exact ⟨F1, ρ1, us, M1, fl, us', M', sr1, sv.mono g1.sf g1.pre, e2, fun F' ρ' H' σ' g2 => k F' ρ' H' σ' (g1.trans g2)⟩
  | false => rw [if_neg Bool.false_ne_true]; exact ⟨F1, ρ1, us, M1, fl, us', M', sr1, sv.mono g1.sf g1.pre, e2, fun F' ρ' H' σ' g2 => k F' ρ' H' σ' (g1.trans g2)⟩
theorem sw_if {c : Expr} {a b : List Stmt} (hc : TW X K c t) (ha : SsW X K a ms) (hb : SsW X K b mr) : SW X K (.If c a b pos) (mIf t ms mr) := (ps_if hc ha hb).weak fun _ _ _ q => w_if q
/-! targets -/
theorem gw_name {i : Nat} {x : Str} (hN : X.N.Nodup) (hi : X.N[i]? = some x) (hx : Loc X.env.scope x) (hf : X.fn x = true ∨ X.env.scope.names.lookup x = some .local := by first | exact .inl rfl | exact .inr rfl | assumption) : GW X K (.Name x pos) (gNm i) :=
  (pg_name hN hi hx hf).weak fun v σ H Q ⟨F, ρ, u, us, M, us', M', sr, sv, r, hm, k⟩ => by
    cases hm
    exact k F ρ H _ Go.refl sr (sv.set i r)
theorem gsw_nil : GsW X K [] gNone := pgs_nil.weak fun v σ H Q ⟨F, ρ, u, us, M, us', M', sr, sv, r, hm, k⟩ => by
  unfold gNone at hm
  split at hm
  · cases hm
    cases r
    exact ⟨rfl, k F ρ H σ Go.refl sr sv⟩
  · cases hm
theorem gsw_cons {es : List Expr} {g : Tg} {gs : Tgs} (h1 : GW X K e g) (h2 : GsW X K es gs) (hs : (assignEach (e :: es) X.env).map (·.2) = assign e X.env :: (assignEach es X.env).map (·.2) := by rfl) : GsW X K (e :: es) (gMore g gs) :=
  (pgs_cons h1 h2 hs).weak fun v σ H Q ⟨F, ρ, u, us, M, us', M', sr, sv, r, hm, k⟩ => by
    unfold gMore at hm
    split at hm
    · rename_i u0 ut
      obtain ⟨⟨s1, M1⟩, e1, e2⟩ := bind2 hm
      obtain ⟨v0, vt, rfl, r0, rt⟩ := r
      exact ⟨v0, vt, rfl, F, ρ, u0, us, M, s1, M1, sr, sv, r0, e1, fun F1 ρ1 H1 σ1 g1 sr1 sv1 => ⟨F1, ρ1, ut, s1, M1, us', M', sr1, sv1, rt.mono g1.sf g1.pre, e2, fun F' ρ' H' σ' g2 => k F' ρ' H' σ' (g1.trans g2)⟩⟩
    · cases hm
theorem rus_p {F : Hp} {ρ : List Addr} : ∀ {ws : List W} {vs : List V}, RpL K F ws vs → RUs K F ρ (ws.map .p) vs
  | [], _, r => r
  | _ :: _, _, r => by
    obtain ⟨u, us, rfl, h, t⟩ := r
    exact ⟨u, us, rfl, h, rus_p t⟩
theorem gw_tup {es : List Expr} {kk n : Nat} {g : Tgs} (hc : X.calm = true) (h : GsW X K es g) (hn : (assignEach es X.env).length = n := by rfl) (hst : (assignEach es X.env).findIdx? (·.1) = none := by rfl) (hK : X.K = K := by rfl) : GW X K (.Tuple es kk pos) (gTp n g) := by
  subst hK
  refine (pg_tup (n := n) hc h hn hst).weak fun v σ H Q ⟨F, ρ, u, us, M, us', M', sr, sv, r, hm, k⟩ => ?_
  obtain ⟨ws, e1, e2⟩ := bind2 hm
  split at e2
  · rename_i hl
    obtain ⟨a, vs, rfl, hq, rl⟩ := seqT_ok sr e1 r
    exact ⟨a, vs, rfl, hq, by rw [← rl.length]; exact hl, F, ρ, _, us, M, us', M', sr, sv, rus_p rl, e2, k⟩
  · cases e2
theorem sw_asg {tg : Expr} {g : Tg} (he : EW X K e m) (hg : GW X K tg g) (hs : swapsWithSole [tg] e pos.line X.env = pure false := by rfl) (hw : swappedStores [tg] e X.env = pure none := by rfl)
    (h1 : (assignEach [tg] X.env).map (·.2) = [assign tg X.env] := by rfl) : SW X K (.Assign [tg] e pos) (mAsg m g) :=
  (ps_asg he hg hs hw h1).weak fun D σ H ⟨F, ρ, us, M, fl, us', M', sr, sv, hm, k⟩ => by
    obtain ⟨⟨x, M1⟩, e1, hm⟩ := bind2 hm
    obtain ⟨⟨s1, M2⟩, e2, e3⟩ := Option.map_eq_some_iff.mp hm
    cases e3
    exact ⟨F, ρ, us, M, x, M1, sr, sv, e1, fun F1 ρ1 H1 v g1 sr1 r1 => ⟨F1, ρ1, x, us, M1, _, _, sr1, sv.mono g1.sf g1.pre, r1, e2, fun F' ρ' H' σ' g2 s2 => k F' ρ' H' σ' (g1.trans g2) s2⟩⟩
theorem sw_set {i : Nat} {x : Str} {pos' : Pos} (hN : X.N.Nodup) (hi : X.N[i]? = some x) (hx : Loc X.env.scope x) (he : EW X K e m) (hs : swapsWith e (some (.Name x pos')) pos.line X.env = pure false := by rfl) (hf : X.fn x = true ∨ X.env.scope.names.lookup x = some .local := by first | exact .inl rfl | exact .inr rfl | assumption) :
    SW X K (.Assign [.Name x pos'] e pos) (mAsg m (gNm i)) :=
  (ps_set hN hi hx he hs hf).weak fun D σ H ⟨F, ρ, us, M, fl, us', M', sr, sv, hm, k⟩ => by
    obtain ⟨⟨x, M1⟩, e1, hm⟩ := bind2 hm
    obtain ⟨⟨s1, M2⟩, e2, e3⟩ := Option.map_eq_some_iff.mp hm
    cases e3
    cases e2
    exact ⟨F, ρ, us, M, x, _, sr, sv, e1, fun F1 ρ1 H1 v g1 sr1 r1 => k F1 ρ1 H1 _ g1 sr1 ((sv.mono g1.sf g1.pre).set i r1)⟩
theorem sw_par {i j : Nat} {x y : Str} {a b : Expr} {ma : As} {px py pt : Pos} {kt k2 pt2} (hc : X.calm = true) (hN : X.N.Nodup) (hi : X.N[i]? = some x) (hj : X.N[j]? = some y) (hij : i ≠ j)
    (hx : X.env.scope.names.lookup x = some .local) (hy : X.env.scope.names.lookup y = some .local) (ha : AW X K [a, b] ma)
    (hw : swappedStores [.Tuple [.Name x px, .Name y py] kt pt] (.Tuple [a, b] k2 pt2) X.env = pure (some [x, y]))
    (hs : swapsWithSole [.Tuple [.Name x px, .Name y py] kt pt] (.Tuple [a, b] k2 pt2) pos.line X.env = pure false := by rfl) :
    SW X K (.Assign [.Tuple [.Name x px, .Name y py] kt pt] (.Tuple [a, b] k2 pt2) pos) (mPar i j ma) :=
  (ps_par hc hN hi hj hij hx hy ha hw hs).weak fun D σ H ⟨F, ρ, us, M, fl, us', M', sr, sv, hm, k⟩ => by
    obtain ⟨⟨xs, M1⟩, e1, hm⟩ := bind2 hm
    split at hm
    · rename_i h
      cases h
      cases hm
      refine ⟨F, ρ, us, M, _, _, sr, sv, e1, fun F1 ρ1 H1 vs g1 sr1 r1 => ?_⟩
      obtain ⟨v, r, rfl, q1, w, r2, rfl, q2, rfl⟩ := r1
      exact ⟨v, w, rfl, k F1 ρ1 H1 _ g1 sr1 (((sv.mono g1.sf g1.pre).set i q1).set j q2)⟩
    · cases hm
end
end Pz
/-! ### loops -/
namespace Pz
open PySem PySem.Spec PyProof.Rows L2 Rt He
/-! what is walked -/
def iSeq (m : E) : As := fun us M => (m us M).bind fun x => match x.1 with
  | .p (.lst ws) => some (ws.map .p, x.2)
  | .p (.frz ws) => some (ws.map .p, x.2)
  | _ => none
def iTp (m : E) : As := fun us M => (m us M).bind fun x => (seqT x.1).map fun ws => (ws.map .p, x.2)
def chW (c : Nat) : W := .str ⟨#[c]⟩
def iSt (m : E) : As := fun us M => (m us M).bind fun x => match x.1 with
  | .p (.str z) => some (z.cps.toList.map fun c => .p (chW c), x.2)
  | _ => none
def intsW (lo : Int) (n : Nat) : List U := (List.range n).map fun (i : Nat) => U.p (.int (lo + (i : Int)))
def iRg1 (m : As) : As := fun us M => (m us M).bind fun x => match x.1 with
  | [.p (.int j)] => if -1000000000 ≤ j ∧ j ≤ 1000000000 then some (intsW 0 j.toNat, x.2) else none
  | _ => none
def iRg2 (m : As) : As := fun us M => (m us M).bind fun x => match x.1 with
  | [.p (.int i), .p (.int j)] => if (-1000000000 ≤ i ∧ i ≤ 1000000000) ∧ -1000000000 ≤ j ∧ j ≤ 1000000000 then some (intsW i (j - i).toNat, x.2) else none
  | _ => none
def pureL : U → Option (List W)
  | .p (.lst ws) => some ws
  | .p (.frz ws) => some ws
  | _ => none
def iZp (m : As) : As := fun us M => (m us M).bind fun x => match x.1 with
  | [a, b] => (pureL a).bind fun xs => (pureL b).map fun ys => ((xs.zip ys).map fun p => .p (.tup [p.1, p.2]), x.2)
  | _ => none
def iEn (m : As) : As := fun us M => (m us M).bind fun x => match x.1 with
  | [a] => (pureL a).map fun xs => ((List.range xs.length).zip xs |>.map fun p => .p (.tup [.int p.1, p.2]), x.2)
  | _ => none
section
variable {X : Cx} {K : PySem.W.Frag} {pos : Pos} {tg e : Expr} {m : E} {ma : As}
theorem pureL_ok {F : Hp} {ρ : List Addr} {u : U} {ws : List W} {v : V} (h : pureL u = some ws) (r : RU K F ρ u v) : ∃ a vs, v = .ref a ∧ (∀ F2 H2 M2 ρ2, Same F F2 → Sr K F2 ρ2 H2 M2 → SqL K H2 a vs) ∧ RpL K F ws vs := by
  unfold pureL at h
  split at h
  · cases h
    obtain ⟨a, vs, e, f, q⟩ := r
    exact ⟨a, vs, e, fun F2 H2 M2 ρ2 s sr => SqL.of (sr.sub _ _ (s _ _ f)), q⟩
  · cases h
    obtain ⟨a, vs, e, f, q⟩ := r
    exact ⟨a, vs, e, fun F2 H2 M2 ρ2 s sr => SqL.same sr.sub (SqL.same s f), q⟩
  · cases h
theorem sql_inj {F H : Hp} {ρ : List Addr} {M : Mm} {a : Addr} {vs : List V} : True := trivial
theorem get_p {ws : List W} {i : Nat} {u : U} (h : (ws.map U.p)[i]? = some u) : ∃ w, u = .p w ∧ ws[i]? = some w := by
  rw [List.getElem?_map, Option.map_eq_some_iff] at h
  obtain ⟨w, e, rfl⟩ := h
  exact ⟨w, rfl, e⟩
theorem yld_list {F : Hp} {ρ : List Addr} {a : Addr} {vs : List V} {ws : List W} (ha : ∀ F2 H2 M2 ρ2, Same F F2 → Sr K F2 ρ2 H2 M2 → SqL K H2 a vs) (r : RpL K F ws vs) : Yld K (Itl K a) F ρ (ws.map .p) := by
  have hl := r.length
  refine ⟨fun i F2 ρ2 H2 M2 s p sr hi => ?_, fun i F2 ρ2 H2 M2 s p sr hi => ⟨vs, ha _ _ _ _ s sr, by simp at hi; omega⟩, fun i F2 ρ2 H2 M2 x H3 s p sr y u hu => ?_⟩
  · simp at hi
    exact ⟨vs, vs[i]'(by omega), ha _ _ _ _ s sr, by simp⟩
  · obtain ⟨rfl, y⟩ := y
    obtain ⟨w, rfl, e⟩ := get_p hu
    obtain ⟨v, e2, q⟩ := r.get e
    have e3 := y vs (ha _ _ _ _ s sr)
    rw [e2] at e3
    cases e3
    exact ⟨F2, Go.refl, sr, q.mono s⟩
theorem iw_list (h : EW X K e m) (hK : X.K = K := by rfl) : IW X K tg e (iSeq m) := by
  subst hK
  refine (pi_list h).weak fun σ H R ⟨F, ρ, us, M, its, M', sr, sv, hm, k⟩ => ?_
  obtain ⟨⟨x, M1⟩, e1, e2⟩ := bind2 hm
  refine ⟨F, ρ, us, M, x, M1, sr, sv, e1, fun F1 ρ1 H1 v g1 sr1 r1 => ?_⟩
  have go : ∀ ws, pureL x = some ws → its = ws.map .p → M1 = M' → ∃ a, v = .ref a ∧ (∃ xs, SqL X.K H1 a xs) ∧ R (Itl X.K a) H1 := fun ws h1 h2 h3 => by
    subst h2 h3
    obtain ⟨a, vs, rfl, ha, q⟩ := pureL_ok h1 r1
    exact ⟨a, rfl, ⟨vs, ha _ _ _ _ (Same.refl _) sr1⟩, k F1 ρ1 H1 _ g1 sr1 (yld_list ha q)⟩
  dsimp only at e2
  split at e2
  · cases e2; exact go _ rfl rfl rfl
  · cases e2; exact go _ rfl rfl rfl
  · cases e2
theorem yld_tup {F : Hp} {ρ : List Addr} {a : Addr} {vs : List V} {ws : List W} (ha : ∀ F2 H2 M2 ρ2, Same F F2 → Sr K F2 ρ2 H2 M2 → SqT K H2 a vs) (r : RpL K F ws vs) : Yld K (Itt K a) F ρ (ws.map .p) := by
  have hl := r.length
  refine ⟨fun i F2 ρ2 H2 M2 s p sr hi => ?_, fun i F2 ρ2 H2 M2 s p sr hi => ⟨vs, ha _ _ _ _ s sr, by simp at hi; omega⟩, fun i F2 ρ2 H2 M2 x H3 s p sr y u hu => ?_⟩
  · simp at hi
    exact ⟨vs, vs[i]'(by omega), ha _ _ _ _ s sr, by simp⟩
  · obtain ⟨rfl, y⟩ := y
    obtain ⟨w, rfl, e⟩ := get_p hu
    obtain ⟨v, e2, q⟩ := r.get e
    have e3 := y vs (ha _ _ _ _ s sr)
    rw [e2] at e3
    cases e3
    exact ⟨F2, Go.refl, sr, q.mono s⟩
theorem seqT_frz {F : Hp} {ρ : List Addr} {u : U} {ws : List W} {v : V} (h : seqT u = some ws) (r : RU K F ρ u v) : ∃ a vs, v = .ref a ∧ (∀ F2 H2 M2 ρ2, Same F F2 → Sr K F2 ρ2 H2 M2 → SqT K H2 a vs) ∧ RpL K F ws vs := by
  unfold seqT at h
  split at h
  · cases h
    obtain ⟨a, vs, e, f, q⟩ := r
    exact ⟨a, vs, e, fun F2 H2 M2 ρ2 s sr => SqT.of (sr.sub _ _ (s _ _ f)), q⟩
  · cases h
    obtain ⟨a, vs, e, f, q⟩ := r
    exact ⟨a, vs, e, fun F2 H2 M2 ρ2 s sr => SqT.same sr.sub (SqT.same s f), q⟩
  · cases h
theorem iw_tup (h : EW X K e m) (hK : X.K = K := by rfl) : IW X K tg e (iTp m) := by
  subst hK
  refine (pi_tup h).weak fun σ H R ⟨F, ρ, us, M, its, M', sr, sv, hm, k⟩ => ?_
  obtain ⟨⟨x, M1⟩, e1, e2⟩ := bind2 hm
  obtain ⟨ws, e3, e4⟩ := Option.map_eq_some_iff.mp e2
  cases e4
  refine ⟨F, ρ, us, M, x, _, sr, sv, e1, fun F1 ρ1 H1 v g1 sr1 r1 => ?_⟩
  obtain ⟨a, vs, rfl, ha, q⟩ := seqT_frz e3 r1
  exact ⟨a, rfl, ⟨vs, ha _ _ _ _ (Same.refl _) sr1⟩, k F1 ρ1 H1 _ g1 sr1 (yld_tup ha q)⟩
theorem iw_str (h : EW X K e m) : IW X K tg e (iSt m) := by
  refine (pi_str h).weak fun σ H R ⟨F, ρ, us, M, its, M', sr, sv, hm, k⟩ => ?_
  obtain ⟨⟨x, M1⟩, e1, e2⟩ := bind2 hm
  refine ⟨F, ρ, us, M, x, M1, sr, sv, e1, fun F1 ρ1 H1 v g1 sr1 r1 => ?_⟩
  dsimp only at e2
  split at e2
  · rename_i _ z
    cases e2
    cases r1
    refine ⟨z, rfl, k F1 ρ1 H1 _ g1 sr1 ⟨fun i F2 ρ2 H2 M2 s p sr hi => ?_, fun i F2 ρ2 H2 M2 s p sr hi => ?_, fun i F2 ρ2 H2 M2 x H3 s p sr y u hu => ?_⟩⟩
    · show i < z.cps.size
      simpa using hi
    · show z.cps.size ≤ i
      simpa using hi
    · obtain ⟨rfl, c, ec, rfl⟩ := y
      rw [List.getElem?_map, Option.map_eq_some_iff] at hu
      obtain ⟨d, ed, rfl⟩ := hu
      rw [Array.getElem?_toList, ec] at ed
      cases ed
      exact ⟨F2, Go.refl, sr, rfl⟩
  · cases e2
theorem yld_rng {F : Hp} {ρ : List Addr} (lo : Int) (n : Nat) : Yld K (Itr lo n) F ρ (intsW lo n) := by
  have hl : (intsW lo n).length = n := by unfold intsW; simp
  refine ⟨fun i F2 ρ2 H2 M2 s p sr hi => ?_, fun i F2 ρ2 H2 M2 s p sr hi => ?_, fun i F2 ρ2 H2 M2 x H3 s p sr y u hu => ?_⟩
  · rw [hl] at hi; exact hi
  · rw [hl] at hi; exact hi
  · obtain ⟨rfl, rfl⟩ := y
    unfold intsW at hu
    rw [List.getElem?_map, Option.map_eq_some_iff] at hu
    obtain ⟨j, ej, rfl⟩ := hu
    rw [List.getElem?_range] at ej
    · cases ej
      exact ⟨F2, Go.refl, sr, rfl⟩
    · have := (List.getElem?_eq_some_iff.mp ej).1
      simpa using this
theorem iw_rng1 {a : Expr} {p : Pos} (hg : Gl X "range") (hm : X.mg "range" = none) (ha : AW X K [a] ma) (hs : starEach [a] X.env = [(false, eval a X.env)] := by rfl) : IW X K tg (.Call (.Name "range" p) [a] [] pos) (iRg1 ma) := by
  refine (pi_range1 hg hm ha hs).weak fun σ H R ⟨F, ρ, us, M, its, M', sr, sv, hm, k⟩ => ?_
  obtain ⟨⟨x, M1⟩, e1, e2⟩ := bind2 hm
  refine ⟨F, ρ, us, M, x, M1, sr, sv, e1, fun F1 ρ1 H1 v g1 sr1 r1 => ?_⟩
  dsimp only at e2
  split at e2
  · split at e2
    · rename_i j hj
      cases e2
      obtain ⟨v0, vt, rfl, r0, rfl⟩ := r1
      cases r0
      refine ⟨j, rfl, by omega, by omega, k F1 ρ1 H1 _ g1 sr1 (yld_rng 0 j.toNat)⟩
    · cases e2
  · cases e2
theorem iw_rng2 {a b : Expr} {p : Pos} (hg : Gl X "range") (hm : X.mg "range" = none) (ha : AW X K [a, b] ma) (hs : starEach [a, b] X.env = [(false, eval a X.env), (false, eval b X.env)] := by rfl) (hs2 : starEach [b] X.env = [(false, eval b X.env)] := by rfl) : IW X K tg (.Call (.Name "range" p) [a, b] [] pos) (iRg2 ma) := by
  refine (pi_range2 hg hm ha hs hs2).weak fun σ H R ⟨F, ρ, us, M, its, M', sr, sv, hm, k⟩ => ?_
  obtain ⟨⟨x, M1⟩, e1, e2⟩ := bind2 hm
  refine ⟨F, ρ, us, M, x, M1, sr, sv, e1, fun F1 ρ1 H1 v g1 sr1 r1 => ?_⟩
  dsimp only at e2
  split at e2
  · split at e2
    · rename_i i j hj
      cases e2
      obtain ⟨v0, vt, rfl, r0, v1, vt1, rfl, r2, rfl⟩ := r1
      cases r0
      cases r2
      refine ⟨i, j, rfl, by omega, k F1 ρ1 H1 _ g1 sr1 (yld_rng i (j - i).toNat)⟩
    · cases e2
  · cases e2
theorem sql_len {X : Cx} : True := trivial
/-- a new tuple of two -/
theorem pair_new {F2 H2 : Hp} {ρ2 : List Addr} {M2 : Mm} {T : Addr} {x y : V} {a b : W} (sr : Sr K F2 ρ2 H2 M2) (hT : H2 T = none) (ra : Rp K F2 a x) (rb : Rp K F2 b y) :
    ∃ F3, Go F2 ρ2 H2 F3 ρ2 (upd H2 T (.tup [x, y])) ∧ Sr K F3 ρ2 (upd H2 T (.tup [x, y])) M2 ∧ RU K F3 ρ2 (.p (.tup [a, b])) (.ref T) := by
  obtain ⟨s1, s2⟩ := sr.newF (o := .tup [x, y]) hT
  exact ⟨_, sr.goF hT, s1, T, _, rfl, upd_same, x, [y], rfl, ra.mono s2, y, [], rfl, rb.mono s2, rfl⟩
theorem iw_enum {p tpos : Pos} {elts : List Expr} {kk : Nat} (hg : Gl X "enumerate") (hm : X.mg "enumerate" = none) (ha : AW X K [e] ma) (hK : X.K = K := by rfl) (hs : starEach [e] X.env = [(false, eval e X.env)] := by rfl) : IW X K (.Tuple elts kk tpos) (.Call (.Name "enumerate" p) [e] [] pos) (iEn ma) := by
  subst hK
  refine (pi_enum hg hm ha hs).weak fun σ H R ⟨F, ρ, us, M, its, M', sr, sv, hm, k⟩ => ?_
  obtain ⟨⟨x, M1⟩, e1, e2⟩ := bind2 hm
  refine ⟨F, ρ, us, M, x, M1, sr, sv, e1, fun F1 ρ1 H1 v g1 sr1 r1 => ?_⟩
  dsimp only at e2
  split at e2
  · rename_i u hx
    obtain ⟨ws, e3, e4⟩ := Option.map_eq_some_iff.mp e2
    cases e4
    obtain ⟨v0, vt, rfl, r0, rfl⟩ := r1
    obtain ⟨a, vs, rfl, hsq, q⟩ := pureL_ok e3 r0
    have hl := q.length
    refine ⟨a, vs, rfl, hsq _ _ _ _ (Same.refl _) sr1, k F1 ρ1 H1 _ g1 sr1 ⟨fun i F2 ρ2 H2 M2 s p sr hi => ?_, fun i F2 ρ2 H2 M2 s p sr hi => ⟨vs, hsq _ _ _ _ s sr, by simp at hi; omega⟩, fun i F2 ρ2 H2 M2 x H3 s p sr y u hu => ?_⟩⟩
    · simp at hi
      exact ⟨vs, vs[i]'(by omega), hsq _ _ _ _ s sr, by simp⟩
    · obtain ⟨T, x0, rfl, hT, rfl, y⟩ := y
      rw [List.getElem?_map, Option.map_eq_some_iff] at hu
      obtain ⟨⟨j, w⟩, ej, rfl⟩ := hu
      rw [List.getElem?_zip_eq_some] at ej
      obtain ⟨e5, e6⟩ := ej
      have hj : j = i := by
        rw [List.getElem?_range] at e5
        · cases e5; rfl
        · have := (List.getElem?_eq_some_iff.mp e5).1
          simpa using this
      subst hj
      obtain ⟨v2, e7, r2⟩ := q.get e6
      have e8 := y vs (hsq _ _ _ _ s sr)
      rw [e7] at e8
      cases e8
      exact pair_new (a := .int j) sr hT rfl (r2.mono s)
  · cases e2
theorem iw_zip {e2 : Expr} {p tpos : Pos} {elts : List Expr} {kk : Nat} (hg : Gl X "zip") (hm : X.mg "zip" = none) (ha : AW X K [e, e2] ma) (hK : X.K = K := by rfl)
    (hs : starEach [e, e2] X.env = (false, eval e X.env) :: starEach [e2] X.env := by rfl) (hpl : (backTo pos (starEach [e2] X.env)).any (·.1) = false := by rfl) : IW X K (.Tuple elts kk tpos) (.Call (.Name "zip" p) [e, e2] [] pos) (iZp ma) := by
  subst hK
  refine (pi_zip hg hm ha hs hpl).weak fun σ H R ⟨F, ρ, us, M, its, M', sr, sv, hm, k⟩ => ?_
  obtain ⟨⟨x, M1⟩, e1, e2⟩ := bind2 hm
  refine ⟨F, ρ, us, M, x, M1, sr, sv, e1, fun F1 ρ1 H1 v g1 sr1 r1 => ?_⟩
  dsimp only at e2
  split at e2
  · rename_i u w hx
    obtain ⟨xs, e3, e4⟩ := bind2 e2
    obtain ⟨ys, e5, e6⟩ := Option.map_eq_some_iff.mp e4
    cases e6
    obtain ⟨v0, vt, rfl, r0, v1, vt1, rfl, r2, rfl⟩ := r1
    obtain ⟨a, vs, rfl, ha1, q⟩ := pureL_ok e3 r0
    obtain ⟨b, zs, rfl, hb1, q2⟩ := pureL_ok e5 r2
    have hl := q.length
    have hl2 := q2.length
    refine ⟨a, b, vs, zs, rfl, ha1 _ _ _ _ (Same.refl _) sr1, hb1 _ _ _ _ (Same.refl _) sr1, k F1 ρ1 H1 _ g1 sr1 ⟨fun i F2 ρ2 H2 M2 s p sr hi => ?_, fun i F2 ρ2 H2 M2 s p sr hi => ⟨vs, zs, ha1 _ _ _ _ s sr, hb1 _ _ _ _ s sr, ?_⟩, fun i F2 ρ2 H2 M2 x H3 s p sr y u hu => ?_⟩⟩
    · simp at hi
      exact ⟨vs, zs, vs[i]'(by omega), zs[i]'(by omega), ha1 _ _ _ _ s sr, hb1 _ _ _ _ s sr, by simp, by simp⟩
    · simp at hi
      omega
    · obtain ⟨T, x0, y0, rfl, hT, rfl, y1, y2⟩ := y
      rw [List.getElem?_map, Option.map_eq_some_iff] at hu
      obtain ⟨⟨j, w⟩, ej, rfl⟩ := hu
      rw [List.getElem?_zip_eq_some] at ej
      obtain ⟨e5, e6⟩ := ej
      obtain ⟨v2, e7, r2⟩ := q.get e5
      obtain ⟨v3, e8, r3⟩ := q2.get e6
      have e9 := y1 vs (ha1 _ _ _ _ s sr)
      have e10 := y2 zs (hb1 _ _ _ _ s sr)
      rw [e7] at e9
      rw [e8] at e10
      cases e9
      cases e10
      exact pair_new sr hT (r2.mono s) (r3.mono s)
  · cases e2
end
/-! for -/
def mLoop (g : Tg) (b : S) : List U → S
  | [], us, M => some (.nx, us, M)
  | u :: its, us, M => (g u us M).bind fun x => (b x.1 x.2).bind fun y => match y with
    | (.nx, us2, M2) => mLoop g b its us2 M2
    | (.ct, us2, M2) => mLoop g b its us2 M2
    | (.brk, us2, M2) => some (.nx, us2, M2)
    | (.ret v, us2, M2) => some (.ret v, us2, M2)
def mFor (i : As) (g : Tg) (b : S) : S := fun us M => (i us M).bind fun x => mLoop g b x.1 us x.2
def mWhile (t : T) (b : S) : Nat → S
  | 0, _, _ => none
  | n + 1, us, M => (t us M).bind fun x => if x.1 then (b us x.2).bind fun y => match y with
      | (.nx, us2, M2) => mWhile t b n us2 M2
      | (.ct, us2, M2) => mWhile t b n us2 M2
      | (.brk, us2, M2) => some (.nx, us2, M2)
      | (.ret v, us2, M2) => some (.ret v, us2, M2)
    else some (.nx, us, x.2)
section
variable {X : Cx} {K : PySem.W.Frag} {pos : Pos} {tg iter : Expr} {body : List Stmt} {mi : As} {g : Tg} {mb : S} {t : T}
theorem w_for {D : Ends} {σ : L2.St} {H : Hp} (q : tWS K (mFor mi g mb) D σ H) : tFor (tWI K mi) (tWG K g) (tWS K mb) D σ H := by
  obtain ⟨F, ρ, us, M, fl, us', M', sr, sv, hm, k⟩ := q
  obtain ⟨⟨its, M1⟩, e1, e2⟩ := bind2 hm
  refine ⟨F, ρ, us, M, its, M1, sr, sv, e1, fun F1 ρ1 H1 J g1 sr1 Y => ?_⟩
  refine ⟨fun i m σ H2 => m = its.length - i ∧ i ≤ its.length ∧ ∃ F2 ρ2 us2 M2, Go F1 ρ1 H1 F2 ρ2 H2 ∧ Sr K F2 ρ2 H2 M2 ∧ Sv K F2 ρ2 us2 σ ∧ mLoop g mb (its.drop i) us2 M2 = some (fl, us', M'),
    ⟨_, rfl, Nat.zero_le _, F1, ρ1, us, M1, Go.refl, sr1, sv.mono g1.sf g1.pre, e2⟩, ?_⟩
  rintro i m σ2 H2 ⟨rfl, hi, F2, ρ2, us2, M2, g2, sr2, sv2, e3⟩
  by_cases hlt : i < its.length
  · obtain ⟨u, hu⟩ : ∃ u, its[i]? = some u := ⟨its[i], by simp [hlt]⟩
    have hd : its.drop i = u :: its.drop (i + 1) := by
      rw [List.drop_eq_getElem_cons hlt]
      have : its[i] = u := by
        rw [List.getElem?_eq_getElem hlt] at hu
        exact Option.some.inj hu
      rw [this]
    rw [hd] at e3
    obtain ⟨⟨s3, M3⟩, e4, e5⟩ := bind2 e3
    obtain ⟨⟨fl4, s4, M4⟩, e6, e7⟩ := bind2 e5
    refine .inr ⟨Y.go i F2 ρ2 H2 M2 g2.sf g2.pre sr2 hlt, _, fun σ' H' n => ⟨its.length - (i + 1), by omega, n⟩, fun x H3 y => ?_⟩
    obtain ⟨F3, g3, sr3, r3⟩ := Y.yld i F2 ρ2 H2 M2 x H3 g2.sf g2.pre sr2 y u hu
    refine ⟨F3, ρ2, u, us2, M2, s3, M3, sr3, sv2.mono g3.sf g3.pre, r3, e4, fun F4 ρ4 H4 σ4 g4 sr4 sv4 => ?_⟩
    refine ⟨F4, ρ4, s3, M3, fl4, s4, M4, sr4, sv4, e6, fun F5 ρ5 H5 σ5 g5 sr5 => ?_⟩
    have gg := ((g2.trans g3).trans g4).trans g5
    cases fl4 with
    | nx => exact fun sv5 => ⟨rfl, hlt, F5, ρ5, s4, M4, gg, sr5, sv5, e7⟩
    | ct => exact fun sv5 => ⟨rfl, hlt, F5, ρ5, s4, M4, gg, sr5, sv5, e7⟩
    | brk => cases e7; exact fun sv5 => k F5 ρ5 H5 σ5 (g1.trans gg) sr5 sv5
    | ret u => cases e7; exact k F5 ρ5 H5 σ5 (g1.trans gg) sr5
  · have e : i = its.length := by omega
    subst e
    rw [List.drop_length] at e3
    cases e3
    exact .inl ⟨Y.stop _ F2 ρ2 H2 _ g2.sf g2.pre sr2 (Nat.le_refl _), k F2 ρ2 H2 σ2 (g1.trans g2) sr2 sv2⟩
theorem sw_for (hp : PassesOwn (model X.prog X.w) X.A X.env X.xe) (hc : X.calm = true) (hi : IW X K tg iter mi) (hg : GW X K tg g) (hb : SsW X K body mb) (hs : ∀ x, foldedSetIterable iter X.env x = pure x := by intro _; rfl) :
    SW X K (.For tg iter body [] pos) (mFor mi g mb) := (ps_for hp hc hi hg hb hs).weak fun _ _ _ q => w_for q
theorem w_while {n : Nat} {D : Ends} {σ : L2.St} {H : Hp} (q : tWS K (mWhile t mb n) D σ H) : tWhile (tWT K t) (tWS K mb) D σ H := by
  obtain ⟨F, ρ, us, M, fl, us', M', sr, sv, hm, k⟩ := q
  refine ⟨fun m σ2 H2 => ∃ F2 ρ2 us2 M2, Go F ρ H F2 ρ2 H2 ∧ Sr K F2 ρ2 H2 M2 ∧ Sv K F2 ρ2 us2 σ2 ∧ mWhile t mb m us2 M2 = some (fl, us', M'), ⟨n, F, ρ, us, M, Go.refl, sr, sv, hm⟩, ?_⟩
  rintro m σ2 H2 ⟨F2, ρ2, us2, M2, g2, sr2, sv2, e2⟩
  cases m with
  | zero => cases e2
  | succ m =>
    obtain ⟨⟨c, M3⟩, e3, e4⟩ := bind2 e2
    refine ⟨F2, ρ2, us2, M2, c, M3, sr2, sv2, e3, fun F3 ρ3 H3 g3 sr3 => ?_⟩
    cases c with
    | true =>
      rw [if_pos rfl]
      obtain ⟨⟨fl4, s4, M4⟩, e5, e6⟩ := bind2 e4
      refine ⟨_, fun σ' H' n => ⟨m, Nat.lt_succ_self _, n⟩, F3, ρ3, us2, M3, fl4, s4, M4, sr3, sv2.mono g3.sf g3.pre, e5, fun F5 ρ5 H5 σ5 g5 sr5 => ?_⟩
      have gg := (g2.trans g3).trans g5
      cases fl4 with
      | nx => exact fun sv5 => ⟨F5, ρ5, s4, M4, gg, sr5, sv5, e6⟩
      | ct => exact fun sv5 => ⟨F5, ρ5, s4, M4, gg, sr5, sv5, e6⟩
      | brk => cases e6; exact fun sv5 => k F5 ρ5 H5 σ5 gg sr5 sv5
      | ret u => cases e6; exact k F5 ρ5 H5 σ5 gg sr5
    | false =>
      rw [if_neg Bool.false_ne_true]
      cases e4
      exact k F3 ρ3 H3 σ2 (g2.trans g3) sr3 (sv2.mono g3.sf g3.pre)
theorem sw_while {c : Expr} {n : Nat} (hp : PassesOwn (model X.prog X.w) X.A X.env X.xe) (hc : TW X K c t) (hb : SsW X K body mb) : SW X K (.While c body [] pos) (mWhile t mb n) := (ps_while hp hc hb).weak fun _ _ _ q => w_while q
end
/-! comprehensions -/
def wipeU (us : Sl) : List Nat → Sl
  | [] => us
  | v :: vs => (wipeU us vs).set v none
def pureU : U → Option W
  | .p w => some w
  | _ => none
def mCl (g : Tg) (t : T) (e : E) (vs : List Nat) (us : Sl) : List U → Mm → Option (List W × Mm)
  | [], M => some ([], M)
  | u :: its, M => (g u (wipeU us vs) M).bind fun x => (t x.1 x.2).bind fun b => if b.1 then
      (e x.1 b.2).bind fun y => (pureU y.1).bind fun w => (mCl g t e vs us its y.2).map fun r => (w :: r.1, r.2)
    else mCl g t e vs us its b.2
def mComp (i : As) (g : Tg) (t : T) (e : E) (vs : List Nat) : E := fun us M => (i us M).bind fun x => if x.1.length ≤ 1000000 then (mCl g t e vs us x.1 x.2).map fun r => (.p (.lst r.1), r.2) else none
def mYes : T := fun _ M => some (true, M)
section
variable {K : PySem.W.Frag} {F F' H : Hp} {ρ ρ' : List Addr} {M : Mm}
theorem Sv.wipe1 {us : Sl} {σ : L2.St} (r : Sv K F ρ us σ) (i : Nat) : Sv K F ρ (us.set i none) (σ.set i none) := by
  refine ⟨by simp [r.len], fun j w e => ?_⟩
  by_cases hj : i = j
  · subst hj
    by_cases hi : i < us.length
    · rw [List.getElem?_set_self hi] at e; cases e
    · rw [List.getElem?_eq_none_iff.mpr (by simpa using hi)] at e; cases e
  · rw [List.getElem?_set_ne hj] at e ⊢
    exact r.at_ j w e
theorem Sv.wipe {us : Sl} {σ : L2.St} (r : Sv K F ρ us σ) : ∀ vs, Sv K F ρ (wipeU us vs) (L2.wipe σ vs)
  | [] => r
  | v :: vs => (Sv.wipe r vs).wipe1 v
theorem wipe_set {σ : L2.St} {i : Nat} {x y : Option V} : ∀ vs, (L2.wipe (σ.set i x) vs).set i y = (L2.wipe σ vs).set i y
  | [] => by simp [L2.wipe, List.set_set]
  | v :: vs => by
    unfold L2.wipe
    by_cases h : v = i
    · subst h
      rw [List.set_set, List.set_set]
      exact wipe_set vs
    · rw [List.set_comm _ _ h, List.set_comm _ _ h, wipe_set vs]
theorem wipe_own {σ : L2.St} {i : Nat} {x : Option V} : ∀ {vs : List Nat}, i ∈ vs → L2.wipe (σ.set i x) vs = L2.wipe σ vs
  | v :: vs, h => by
    unfold L2.wipe
    by_cases hv : v = i
    · subst hv; exact wipe_set vs
    · have : i ∈ vs := by
        rcases List.mem_cons.mp h with e | e
        · exact absurd e.symm hv
        · exact e
      rw [wipe_own this]
theorem wipe_wipe {σ : L2.St} : ∀ {us vs : List Nat}, (∀ i ∈ us, i ∈ vs) → L2.wipe (L2.wipe σ us) vs = L2.wipe σ vs
  | [], _, _ => rfl
  | u :: us, vs, h => by
    show L2.wipe ((L2.wipe σ us).set u none) vs = _
    rw [wipe_own (h u (by simp)), wipe_wipe fun i hi => h i (List.mem_cons_of_mem _ hi)]
/-- a target that stores into the block's own names -/
def PatR (K : PySem.W.Frag) (vs : List Nat) (g : TG) (gm : Tg) : Prop := ∀ F ρ H M u x us us2 M2 σ Q, Sr K F ρ H M → Sv K F ρ us σ → RU K F ρ u x → gm u us M = some (us2, M2) → (∀ σ2, M2 = M → Sv K F ρ us2 σ2 → L2.wipe σ2 vs = L2.wipe σ vs → Q σ2 H) → g x σ H Q
def PatRs (K : PySem.W.Frag) (vs : List Nat) (g : TGs) (gm : Tgs) : Prop := ∀ F ρ H M u x us us2 M2 σ Q, Sr K F ρ H M → Sv K F ρ us σ → RUs K F ρ u x → gm u us M = some (us2, M2) → (∀ σ2, M2 = M → Sv K F ρ us2 σ2 → L2.wipe σ2 vs = L2.wipe σ vs → Q σ2 H) → g x σ H Q
theorem pat_nm {vs : List Nat} {i : Nat} (h : i ∈ vs) : PatR K vs (gName i) (gNm i) := by
  intro F ρ H M u x us us2 M2 σ Q sr sv r hm k
  cases hm
  exact k _ rfl (sv.set i r) (wipe_own h)
theorem pat_nil {vs : List Nat} : PatRs K vs gNil gNone := by
  intro F ρ H M u x us us2 M2 σ Q sr sv r hm k
  unfold gNone at hm
  split at hm
  · cases hm; cases r; exact ⟨rfl, k _ rfl sv rfl⟩
  · cases hm
theorem pat_cons {vs : List Nat} {g : TG} {gm : Tg} {gs : TGs} {gms : Tgs} (h1 : PatR K vs g gm) (h2 : PatRs K vs gs gms) : PatRs K vs (gCons g gs) (gMore gm gms) := by
  intro F ρ H M u x us us2 M2 σ Q sr sv r hm k
  unfold gMore at hm
  split at hm
  · obtain ⟨⟨s1, M1⟩, e1, e2⟩ := bind2 hm
    obtain ⟨v0, vt, rfl, r0, rt⟩ := r
    refine ⟨v0, vt, rfl, h1 F ρ H M _ _ us s1 M1 σ _ sr sv r0 e1 fun σ2 em sv2 hw => ?_⟩
    subst em
    exact h2 F ρ H _ _ _ s1 us2 M2 σ2 _ sr sv2 rt e2 fun σ3 em3 sv3 hw3 => k σ3 em3 sv3 (hw3.trans hw)
  · cases hm
theorem pat_tup {vs : List Nat} {n : Nat} {gs : TGs} {gms : Tgs} (h : PatRs K vs gs gms) : PatR K vs (gTup K n gs) (gTp n gms) := by
  intro F ρ H M u x us us2 M2 σ Q sr sv r hm k
  obtain ⟨ws, e1, e2⟩ := bind2 hm
  split at e2
  · rename_i hl
    obtain ⟨a, xs, rfl, hq, rl⟩ := seqT_ok sr e1 r
    exact ⟨a, xs, rfl, hq, by rw [← rl.length]; exact hl, h F ρ H M _ _ us us2 M2 σ Q sr sv (rus_p rl) e2 k⟩
  · cases e2
theorem mCl_len {g : Tg} {t : T} {e : E} {vs : List Nat} {us : Sl} : ∀ {its : List U} {M M' : Mm} {ws : List W}, mCl g t e vs us its M = some (ws, M') → ws.length ≤ its.length
  | [], _, _, _, h => by cases h; exact Nat.le_refl _
  | u :: its, M, M', ws, h => by
    unfold mCl at h
    obtain ⟨x, _, h⟩ := bind2 h
    obtain ⟨b, _, h⟩ := bind2 h
    split at h
    · obtain ⟨y, _, h⟩ := bind2 h
      obtain ⟨w, _, h⟩ := bind2 h
      obtain ⟨r, h1, h2⟩ := Option.map_eq_some_iff.mp h
      cases h2
      have := mCl_len (its := its) (ws := r.1) (M' := r.2) h1
      simp; omega
    · have := mCl_len h
      simp; omega
theorem w_lc {mi : As} {g : TG} {gm : Tg} {t : T} {e : E} {vs : List Nat} (hg : PatR K vs g gm) {σ : L2.St} {H : Hp} {Q : VK} (q : tW K (mComp mi gm t e vs) σ H Q) : tLc (tWI K mi) g (tWT K t) (tW K e) vs σ H Q := by
  obtain ⟨F, ρ, us, M, r, M', sr, sv, hm, k⟩ := q
  obtain ⟨⟨its, M1⟩, e1, e2⟩ := bind2 hm
  dsimp only at e2
  split at e2
  · rename_i hsz
    obtain ⟨⟨ws, M9⟩, e3, e4⟩ := Option.map_eq_some_iff.mp e2
    cases e4
    refine ⟨F, ρ, us, M, its, M1, sr, sv, e1, fun F1 ρ1 H1 J g1 sr1 Y D hD => ?_⟩
    have fD := sr1.fnone hD
    have nD : D ∉ ρ1 := fun z => sr1.occ D z hD
    refine ⟨fun i m H2 => m = its.length - i ∧ i ≤ its.length ∧ ∃ F2 ρ2 M2 acc av rest, Go F1 ρ1 H1 F2 ρ2 H2 ∧ Sr K F2 ρ2 H2 M2 ∧ D ∉ ρ2 ∧ F2 D = none ∧ H2 D = some (.lst av) ∧ RpL K F2 acc av ∧ mCl gm t e vs us (its.drop i) M2 = some (rest, M9) ∧ ws = acc ++ rest,
      ⟨_, rfl, Nat.zero_le _, F1, ρ1, M1, [], [], ws, Go.hp hD, sr1.updX nD fD (fun _ z => by rw [hD] at z; cases z), nD, fD, upd_same, rfl, e3, rfl⟩, ?_⟩
    rintro i m H2 ⟨rfl, hi, F2, ρ2, M2, acc, av, rest, g2, sr2, n2, f2, d2, ra, e5, ew⟩
    have hlen : ws.length ≤ its.length := mCl_len e3
    by_cases hlt : i < its.length
    · obtain ⟨u, hu⟩ : ∃ u, its[i]? = some u := ⟨its[i], by simp [hlt]⟩
      have hd : its.drop i = u :: its.drop (i + 1) := by
        rw [List.drop_eq_getElem_cons hlt]
        have : its[i] = u := by
          rw [List.getElem?_eq_getElem hlt] at hu
          exact Option.some.inj hu
        rw [this]
      rw [hd] at e5
      unfold mCl at e5
      obtain ⟨⟨s3, M3⟩, e6, e7⟩ := bind2 e5
      obtain ⟨⟨b, M4⟩, e8, e9⟩ := bind2 e7
      refine .inr ⟨Y.go i F2 ρ2 H2 M2 g2.sf g2.pre sr2 hlt, _, fun H' n => ⟨its.length - (i + 1), by omega, n⟩, fun x H3 y => ?_⟩
      obtain ⟨F3, g3, sr3, r3⟩ := Y.yld i F2 ρ2 H2 M2 x H3 g2.sf g2.pre sr2 y u hu
      have d2' : H2 D ≠ none := by rw [d2]; exact fun z => by cases z
      have d3 := g3.kp D _ n2 d2 (fun _ z => by cases z)
      have f3 := g3.fr D _ n2 f2 d2 (fun _ z => by cases z)
      refine hg F3 ρ2 H3 M2 u x _ s3 M3 (L2.wipe σ vs) _ sr3 (((sv.wipe vs).mono g1.sf g1.pre).mono (g2.trans g3).sf (g2.trans g3).pre) r3 e6 fun σ4 em sv4 hw => ⟨hw.trans (wipe_wipe fun _ h => h), ?_⟩
      subst em
      refine ⟨F3, ρ2, s3, _, b, M4, sr3, sv4, e8, fun F5 ρ5 H5 g5 sr5 => ?_⟩
      have d3' : H3 D ≠ none := by rw [d3]; exact fun z => by cases z
      have d5 := g5.kp D _ n2 d3 (fun _ z => by cases z)
      have n5 := g5.out n2 d3 (fun _ z => by cases z)
      have f5 := g5.fr D _ n2 f3 d3 (fun _ z => by cases z)
      have gg := (g2.trans g3).trans g5
      dsimp only at e9 ⊢
      cases b with
      | true =>
        rw [if_pos rfl] at e9 ⊢
        obtain ⟨⟨y6, M6⟩, e10, e11⟩ := bind2 e9
        obtain ⟨w, e12, e13⟩ := bind2 e11
        obtain ⟨⟨rest2, M7⟩, e14, e15⟩ := Option.map_eq_some_iff.mp e13
        cases e15
        refine ⟨F5, ρ5, s3, M4, y6, M6, sr5, sv4.mono g5.sf g5.pre, e10, fun F6 ρ6 H6 v g6 sr6 r6 => ?_⟩
        have d5' : H5 D ≠ none := by rw [d5]; exact fun z => by cases z
        have d6 := g6.kp D _ n5 d5 (fun _ z => by cases z)
        have n6 := g6.out n5 d5 (fun _ z => by cases z)
        have f6 := g6.fr D _ n5 f5 d5 (fun _ z => by cases z)
        have ggg := gg.trans g6
        have hav : acc.length = av.length := ra.length
        have hz : av.length < sizeLine := by
          rw [ew] at hlen
          simp at hlen
          rw [sz_line]
          omega
        have rw6 : Rp K F6 w v := by
          cases y6 with
          | p w' => cases e12; exact r6
          | m _ => cases e12
          | ts _ => cases e12
        refine ⟨av, d6, hz, rfl, hlt, F6, ρ6, M6, acc ++ [w], av ++ [v], rest2, ggg.updNew hD, sr6.updX n6 f6 (fun _ z => by rw [d6] at z; cases z), n6, f6, upd_same, ?_, e14, by rw [ew]; simp⟩
        exact (ra.mono ((g3.trans g5).trans g6).sf).append ⟨v, [], rfl, rw6, rfl⟩
      | false =>
        rw [if_neg Bool.false_ne_true] at e9 ⊢
        exact ⟨rfl, hlt, F5, ρ5, M4, acc, av, rest, gg, sr5, n5, f5, d5, ra.mono (g3.trans g5).sf, e9, ew⟩
    · have e : i = its.length := by omega
      subst e
      rw [List.drop_length] at e5
      cases e5
      refine .inl ⟨Y.stop _ F2 ρ2 H2 _ g2.sf g2.pre sr2 (Nat.le_refl _), ?_⟩
      have sm : Same F2 (upd F2 D (.lst av)) := Rt.Same.newp f2
      refine k (upd F2 D (.lst av)) ρ2 H2 _ (g1.trans (g2.frzNew hD f2)) (sr2.frzX n2 f2 d2) ⟨D, av, rfl, upd_same, ?_⟩
      rw [ew, List.append_nil]
      exact ra.mono sm
  · cases e2
end
section
variable {X : Cx} {K : PySem.W.Frag}
def TsW (X : Cx) (K : PySem.W.Frag) (ifs : List Expr) (t : T) : Prop := PTs X ifs (tWT K t)
theorem tsw_nil : TsW X K [] mYes := ⟨fun pins s σ H Q I q => by
  obtain ⟨F, ρ, us, M, b, M', sr, sv, hm, k⟩ := q
  cases hm
  exact pts_nil.run pins s σ H Q I (k F ρ H Go.refl sr)⟩
theorem tsw_one {c : Expr} {t : T} (h : TW X K c t) : TsW X K [c] t := pts_one h
theorem ew_lc {elt tg iter : Expr} {ifs : List Expr} {scope : Scope} {own : List (Str × Nat)} {pos : Pos} {mi : As} {g : TG} {gm : Tg} {t : T} {m : E} (hc : X.calm = true) (hN : X.N.Nodup) (hi : IW X K tg iter mi) (ok : BlkOk X.N X.env.scope scope own) (hp : PatR K (own.map (·.2)) g gm)
    (hg : ∀ (s : Shared) (H : Hp) (C : Addr) (cl : List (Str × Addr)) (fp : List Addr), PG (X.blk s H scope (compEnvC scope cl C X.env) fp) tg g) (ht : ∀ (s : Shared) (H : Hp) (C : Addr) (cl : List (Str × Addr)) (fp : List Addr), TsW (X.blk s H scope (compEnvC scope cl C X.env) fp) K ifs t)
    (he : ∀ (s : Shared) (H : Hp) (C : Addr) (cl : List (Str × Addr)) (fp : List Addr), EW (X.blk s H scope (compEnvC scope cl C X.env) fp) K elt m) (hs : ∀ x, foldedSetIterable iter X.env x = pure x := by intro _; rfl) :
    EW X K (.ListComp elt [⟨tg, iter, ifs, 0⟩] scope pos) (mComp mi gm t m (own.map (·.2))) := (pe_lc hc hN hi ok hg ht he hs).weak fun _ _ _ q => w_lc hp q
theorem sw_setLc {i : Nat} {y : Str} {py : Pos} {elt tg iter : Expr} {ifs : List Expr} {scope : Scope} {own : List (Str × Nat)} {pos spos : Pos} {mi : As} {g : TG} {gm : Tg} {t : T} {m : E} (hc : X.calm = true) (hN : X.N.Nodup) (hy : X.N[i]? = some y) (hyl : X.env.scope.names.lookup y = some .local)
    (hsw : swapsWith (.ListComp elt [⟨tg, iter, ifs, 0⟩] scope pos) (some (.Name y py)) spos.line X.env = pure true) (hi : IW X K tg iter mi) (ok : BlkOk X.N X.env.scope scope own) (hp : PatR K (own.map (·.2)) g gm)
    (hg : ∀ (s : Shared) (H : Hp) (C : Addr) (cl : List (Str × Addr)) (fp : List Addr), PG (X.blk s H scope (compEnvC scope cl C X.env) fp) tg g) (ht : ∀ (s : Shared) (H : Hp) (C : Addr) (cl : List (Str × Addr)) (fp : List Addr), TsW (X.blk s H scope (compEnvC scope cl C X.env) fp) K ifs t)
    (he : ∀ (s : Shared) (H : Hp) (C : Addr) (cl : List (Str × Addr)) (fp : List Addr), EW (X.blk s H scope (compEnvC scope cl C X.env) fp) K elt m) (hs : ∀ x, foldedSetIterable iter X.env x = pure x := by intro _; rfl) :
    SW X K (.Assign [.Name y py] (.ListComp elt [⟨tg, iter, ifs, 0⟩] scope pos) spos) (mAsg (mComp mi gm t m (own.map (·.2))) (gNm i)) := by
  refine (ps_setLc hc hN hy hyl hsw hi ok hg ht he hs).weak fun D σ H ⟨F, ρ, us, M, fl, us', M', sr, sv, hm, k⟩ => ?_
  obtain ⟨⟨x, M1⟩, e1, hm⟩ := bind2 hm
  obtain ⟨⟨s1, M2⟩, e2, e3⟩ := Option.map_eq_some_iff.mp hm
  cases e3
  cases e2
  exact w_lc hp ⟨F, ρ, us, M, x, _, sr, sv, e1, fun F1 ρ1 H1 v g1 sr1 r1 => k F1 ρ1 H1 _ g1 sr1 ((sv.mono g1.sf g1.pre).set i r1)⟩
end
end Pz
/-! ### operations on values -/
namespace Pz
open PySem PySem.Spec PyProof.Rows L2 Rt He
section
variable {K : PySem.W.Frag}
theorem VR2.or {r r' : R2} {f : F2} (h : ∀ F ρ H M x y u w c M' Q, Sr K F ρ H M → RU K F ρ u x → RU K F ρ w y → f u w M = some (c, M') → (∀ F' ρ' H' v, Go F ρ H F' ρ' H' → Sr K F' ρ' H' M' → RU K F' ρ' c v → Q v H') → r x y H Q ∨ r' x y H Q) : VR2 K (fun x y H Q => r x y H Q ∨ r' x y H Q) f := h
end
/-- a list that is read, but no locked one -/
def lstW (M : Mm) : U → Option (List W)
  | .p (.lst ws) => some ws
  | .m i => match M[i]? with
    | some (.lst ws) => some ws
    | _ => none
  | _ => none
theorem lstW_ok {K : PySem.W.Frag} {F H : Hp} {ρ : List Addr} {M : Mm} (s : Sr K F ρ H M) {u : U} {ws : List W} {v : V} (h : lstW M u = some ws) (r : RU K F ρ u v) : ∃ a vs, v = .ref a ∧ H a = some (.lst vs) ∧ RpL K F ws vs := by
  unfold lstW at h
  split at h
  · cases h
    obtain ⟨a, vs, e, f, q⟩ := r
    exact ⟨a, vs, e, s.sub _ _ f, q⟩
  · split at h
    · rename_i e
      cases h
      obtain ⟨a, ha, e2⟩ := r
      obtain ⟨vs, e3, q⟩ := s.cellL e ha
      exact ⟨a, vs, e2, e3, q⟩
    · cases h
  · cases h
abbrev I2 (g : Int → Int → U) (c : Int → Int → Bool) : F2 := fun a b M => match a, b with
  | .p (.int i), .p (.int j) => if c i j = true then some (g i j, M) else none
  | _, _ => none
theorem vr_int {K : PySem.W.Frag} {Cn : Int → Int → Prop} {g : Int → Int → W} {h : Int → Int → V} {c : Int → Int → Bool} (hc : ∀ i j, c i j = true → Cn i j) (hg : ∀ i j F, Rp K F (g i j) (h i j)) : VR2 K (rI Cn h) (I2 (fun i j => .p (g i j)) c) := by
  intro F ρ H M x y u w r M' Q sr ru rw' hm k
  unfold I2 at hm
  split at hm
  · rename_i i j
    split at hm
    · rename_i hcc
      cases hm
      cases ru
      cases rw'
      exact ⟨i, j, rfl, rfl, hc i j hcc, k _ _ _ _ Go.refl sr (hg i j F)⟩
    · cases hm
  · cases hm
theorem vr_int0 {K : PySem.W.Frag} {g : Int → Int → W} {h : Int → Int → V} (hg : ∀ i j F, Rp K F (g i j) (h i j)) : VR2 K (rI0 h) (I2 (fun i j => .p (g i j)) fun _ _ => true) := by
  intro F ρ H M x y u w r M' Q sr ru rw' hm k
  unfold I2 at hm
  split at hm
  · rename_i i j
    cases hm
    cases ru
    cases rw'
    exact ⟨i, j, rfl, rfl, k _ _ _ _ Go.refl sr (hg i j F)⟩
  · cases hm
/-! + - * // % ** -/
def addU : F2 := fun a b M => match a, b with
  | .p (.int i), .p (.int j) => some (.p (.int (i + j)), M)
  | .p (.str x), .p (.str y) => if x.length + y.length ≤ 1000000 then some (.p (.str (x ++ y)), M) else none
  | .p (.tup xs), .p (.tup ys) => if xs.length + ys.length ≤ 1000000 then some (.p (.tup (xs ++ ys)), M) else none
  | a, b => (lstW M a).bind fun xs => (lstW M b).bind fun ys => if xs.length + ys.length ≤ 1000000 then some (.p (.lst (xs ++ ys)), M) else none
def rAddS : R2 := fun x y H Q => ∃ i j, x = .str i ∧ y = .str j ∧ i.length + j.length ≤ sizeLine ∧ Q (.str (i ++ j)) H
def rAddU (K : PySem.W.Frag) : R2 := fun x y H Q => (rI0 (fun i j => .int (i + j)) x y H Q ∨ rAddS x y H Q) ∨ (rCatA K x y H Q ∨ rCat x y H Q)
section
variable {X : Cx} {K : PySem.W.Frag}
theorem op_addU (hK : X.K = K := by rfl) : OpR X (binaryOp .Add) (rAddU K) := by
  subst hK
  exact OpR.or (OpR.or op_add op_add_str) (OpR.or op_catA op_cat)
theorem nil_iff {F : Hp} {ws : List W} {vs : List V} (r : RpL K F ws vs) : ws = [] ↔ vs = [] := by
  have h := r.length
  constructor
  · intro e; subst e; exact List.length_eq_zero_iff.mp h.symm
  · intro e; subst e; exact List.length_eq_zero_iff.mp h
theorem new_lst {F H : Hp} {ρ : List Addr} {M : Mm} {p : Addr} {ws : List W} {vs : List V} {Q : VK} (sr : Sr K F ρ H M) (r : RpL K F ws vs) (k : ∀ F' ρ' H' v, Go F ρ H F' ρ' H' → Sr K F' ρ' H' M → RU K F' ρ' (.p (.lst ws)) v → Q v H') (hp : H p = none) : Q (.ref p) (upd H p (.lst vs)) := by
  obtain ⟨s1, s2⟩ := sr.newF (o := .lst vs) hp
  exact k _ _ _ _ (sr.goF hp) s1 ⟨p, vs, rfl, upd_same, r.mono s2⟩
theorem new_tup {F H : Hp} {ρ : List Addr} {M : Mm} {p : Addr} {ws : List W} {vs : List V} {Q : VK} (sr : Sr K F ρ H M) (r : RpL K F ws vs) (k : ∀ F' ρ' H' v, Go F ρ H F' ρ' H' → Sr K F' ρ' H' M → RU K F' ρ' (.p (.tup ws)) v → Q v H') (hp : H p = none) : Q (.ref p) (upd H p (.tup vs)) := by
  obtain ⟨s1, s2⟩ := sr.newF (o := .tup vs) hp
  exact k _ _ _ _ (sr.goF hp) s1 ⟨p, vs, rfl, upd_same, r.mono s2⟩
theorem vr_add : VR2 K (rAddU K) addU := by
  intro F ρ H M x y u w c M' Q sr ru rw' hm k
  unfold addU at hm
  split at hm
  · rename_i i j
    cases hm; cases ru; cases rw'
    exact .inl (.inl ⟨i, j, rfl, rfl, k _ _ _ _ Go.refl sr rfl⟩)
  · rename_i a b
    split at hm
    · rename_i hl
      cases hm; cases ru; cases rw'
      exact .inl (.inr ⟨a, b, rfl, rfl, sz_ok hl, k _ _ _ _ Go.refl sr rfl⟩)
    · cases hm
  · rename_i xs ys
    split at hm
    · rename_i hl
      cases hm
      obtain ⟨a, vs, rfl, fa, qa⟩ := ru
      obtain ⟨b, zs, rfl, fb, qb⟩ := rw'
      have la := qa.length
      have lb := qb.length
      refine .inr (.inl ⟨a, b, vs, zs, rfl, rfl, SqT.of (sr.sub _ _ fa), SqT.of (sr.sub _ _ fb), by rw [← la, ← lb]; exact sz_ok hl, fun e => ?_, fun e1 e2 => ?_, fun _ _ p hp => ?_⟩)
      · have e' := (nil_iff qa).mpr e
        subst e'
        exact k _ _ _ _ Go.refl sr ⟨b, zs, rfl, fb, qb⟩
      · have e' := (nil_iff qb).mpr e2
        subst e'
        exact k _ _ _ _ Go.refl sr ⟨a, vs, rfl, fa, by rw [List.append_nil]; exact qa⟩
      · exact new_tup sr (qa.append qb) k hp
    · cases hm
  · obtain ⟨xs, e1, hm⟩ := bind2 hm
    obtain ⟨ys, e2, hm⟩ := bind2 hm
    split at hm
    · rename_i hl
      cases hm
      obtain ⟨a, vs, rfl, fa, qa⟩ := lstW_ok sr e1 ru
      obtain ⟨b, zs, rfl, fb, qb⟩ := lstW_ok sr e2 rw'
      exact .inr (.inr ⟨a, b, vs, zs, rfl, rfl, fa, fb, by rw [← qa.length, ← qb.length]; exact sz_ok hl, fun p hp => new_lst sr (qa.append qb) k hp⟩)
    · cases hm
def subU : F2 := I2 (fun i j => .p (.int (i - j))) fun _ _ => true
theorem vr_sub : VR2 K (rI0 fun i j => .int (i - j)) subU := vr_int0 fun _ _ _ => rfl
def mulC (i j : Int) : Bool := decide ((i.natAbs < 2 ^ 64 ∨ j.natAbs < 2 ^ 64) ∨ i.natAbs.log2 + j.natAbs.log2 < 1000000)
theorem mulC_ok {i j : Int} (h : mulC i j = true) : IntMulOk i j := by
  rcases of_decide_eq_true (p := (i.natAbs < 2 ^ 64 ∨ j.natAbs < 2 ^ 64) ∨ i.natAbs.log2 + j.natAbs.log2 < 1000000) h with (c | c) | c
  · exact CMul.ok (.inl ⟨by omega, by omega⟩)
  · exact CMul.ok (.inr ⟨by omega, by omega⟩)
  · exact CMulW.ok c
theorem op_mulI {X : Cx} : OpR X (binaryOp .Mult) (rI IntMulOk fun i j => .int (i * j)) := opI fun _ _ _ _ _ _ _ hc q => mul_int q hc
def mulI : F2 := I2 (fun i j => .p (.int (i * j))) mulC
def mulU : F2 := fun a b M => match a, b with
  | .p (.int i), .p (.int j) => if mulC i j = true then some (.p (.int (i * j)), M) else none
  | a, .p (.int k) => (lstW M a).bind fun xs => if -1000000 ≤ k ∧ k ≤ 1000000 ∧ xs.length * k.toNat ≤ 1000000 then some (.p (.lst (List.replicate k.toNat xs).flatten), M) else none
  | _, _ => none
def rMulU : R2 := fun x y H Q => rI IntMulOk (fun i j => .int (i * j)) x y H Q ∨ rRep x y H Q
theorem op_mulU : OpR X (binaryOp .Mult) rMulU := OpR.or op_mulI op_rep
theorem rep_rp {F : Hp} {ws : List W} {vs : List V} (r : RpL K F ws vs) : ∀ n, RpL K F (List.replicate n ws).flatten (List.replicate n vs).flatten
  | 0 => rfl
  | n + 1 => by
    rw [List.replicate_succ, List.replicate_succ, List.flatten_cons, List.flatten_cons]
    exact r.append (rep_rp r n)
theorem vr_mul : VR2 K rMulU mulU := by
  intro F ρ H M x y u w c M' Q sr ru rw' hm k
  unfold mulU at hm
  split at hm
  · rename_i i j
    split at hm
    · rename_i hc
      cases hm; cases ru; cases rw'
      exact .inl ⟨i, j, rfl, rfl, mulC_ok hc, k _ _ _ _ Go.refl sr rfl⟩
    · cases hm
  · rename_i a j hn
    obtain ⟨xs, e1, hm⟩ := bind2 hm
    split at hm
    · rename_i hl
      cases hm
      cases rw'
      obtain ⟨a, vs, rfl, fa, qa⟩ := lstW_ok sr e1 ru
      exact .inr ⟨a, _, vs, rfl, rfl, fa, by omega, by omega, by rw [← qa.length]; exact sz_ok hl.2.2, fun p hp => new_lst sr (rep_rp qa _) k hp⟩
    · cases hm
  · cases hm
def fdC (_ j : Int) : Bool := decide (j ≠ 0 ∧ j.natAbs.log2 < 9000)
def fdU : F2 := I2 (fun i j => .p (.int (i.fdiv j))) fdC
theorem vr_fd : VR2 K (rI CFd fun i j => .int (i.fdiv j)) fdU := vr_int (fun i j h => of_decide_eq_true (p := j ≠ 0 ∧ j.natAbs.log2 < 9000) h) fun _ _ _ => rfl
def mdC (_ j : Int) : Bool := decide (j ≠ 0)
def mdU : F2 := I2 (fun i j => .p (.int (i.fmod j))) mdC
theorem vr_md : VR2 K (rI (fun _ j => j ≠ 0) fun i j => .int (i.fmod j)) mdU := vr_int (fun i j h => of_decide_eq_true (p := j ≠ 0) h) fun _ _ _ => rfl
def pwC (i j : Int) : Bool := decide (0 ≤ j ∧ j ≤ 1000000 ∧ i.natAbs < 2 ^ 64)
def pwU : F2 := I2 (fun i j => .p (.int (i ^ j.toNat))) pwC
theorem vr_pw : VR2 K (rI CPow fun i j => .int (i ^ j.toNat)) pwU := vr_int (fun i j h => of_decide_eq_true (p := 0 ≤ j ∧ j ≤ 1000000 ∧ i.natAbs < 2 ^ 64) h) fun _ _ _ => rfl
def ngU : F1 := fun a M => match a with
  | .p (.int i) => some (.p (.int (-i)), M)
  | _ => none
theorem vr_ng : VR1 K (rU fun i => .int (-i)) ngU := by
  intro F ρ H M x u c M' Q sr ru hm k
  unfold ngU at hm
  split at hm
  · rename_i i
    cases hm; cases ru
    exact ⟨i, rfl, k _ _ _ _ Go.refl sr rfl⟩
  · cases hm
/-! order of ints, of texts -/
def ltU : F2 := I2 (fun i j => .p (.bl (decide (i < j)))) fun _ _ => true
def leU : F2 := I2 (fun i j => .p (.bl (decide (i ≤ j)))) fun _ _ => true
def gtU : F2 := I2 (fun i j => .p (.bl (decide (j < i)))) fun _ _ => true
def geU : F2 := I2 (fun i j => .p (.bl (decide (j ≤ i)))) fun _ _ => true
theorem vr_lt : VR2 K (rI0 fun i j => .bl (decide (i < j))) ltU := vr_int0 fun _ _ _ => rfl
theorem vr_le : VR2 K (rI0 fun i j => .bl (decide (i ≤ j))) leU := vr_int0 fun _ _ _ => rfl
theorem vr_gt : VR2 K (rI0 fun i j => .bl (decide (j < i))) gtU := vr_int0 fun _ _ _ => rfl
theorem vr_ge : VR2 K (rI0 fun i j => .bl (decide (j ≤ i))) geU := vr_int0 fun _ _ _ => rfl
def strLt (x y : Str) : Bool := decide (x.cps.toList < y.cps.toList)
def ltS : F2 := fun a b M => match a, b with
  | .p (.str i), .p (.str j) => some (.p (.bl (strLt i j)), M)
  | _, _ => none
theorem vr_ltS : VR2 K (fun x y H Q => ∃ i j, x = .str i ∧ y = .str j ∧ Q (.bl (decide (i.cps.toList < j.cps.toList))) H) ltS := by
  intro F ρ H M x y u w c M' Q sr ru rw' hm k
  unfold ltS at hm
  split at hm
  · rename_i i j
    cases hm; cases ru; cases rw'
    exact ⟨i, j, rfl, rfl, k _ _ _ _ Go.refl sr rfl⟩
  · cases hm
/-! == -/
mutual
def datW : W → Option PyData
  | .non => some .none
  | .bl b => some (.bool b)
  | .int i => some (.int i)
  | .str x => some (.str x)
  | .tup ws => (datL ws).map .tuple
  | .lst ws => (datL ws).map .list
  | _ => none
def datL : List W → Option (List PyData)
  | [] => some []
  | w :: ws => (datW w).bind fun d => (datL ws).map fun ds => d :: ds
end
mutual
theorem datW_ok {F H : Hp} (s : Same F H) : ∀ {w : W} {d : PyData} {v : V}, datW w = some d → Rp K F w v → Dp K H v d
  | .non, _, _, h, r => by cases h; cases r; exact .non
  | .bl b, _, _, h, r => by cases h; cases r; exact .bl b
  | .int i, _, _, h, r => by cases h; cases r; exact .int i
  | .str x, _, _, h, r => by cases h; cases r; exact .str x
  | .tup ws, _, _, h, r => by
    obtain ⟨ds, e, rfl⟩ := Option.map_eq_some_iff.mp (show (datL ws).map PyData.tuple = _ from h)
    obtain ⟨a, vs, rfl, f, q⟩ := r
    exact .tup (SqT.of (s _ _ f)) (datL_ok s e q)
  | .lst ws, _, _, h, r => by
    obtain ⟨ds, e, rfl⟩ := Option.map_eq_some_iff.mp (show (datL ws).map PyData.list = _ from h)
    obtain ⟨a, vs, rfl, f, q⟩ := r
    exact .lst (SqL.of (s _ _ f)) (datL_ok s e q)
  | .ty _, _, _, h, _ => by cases h
  | .cls _, _, _, h, _ => by cases h
  | .frz _, _, _, h, _ => by cases h
  | .kt _, _, _, h, _ => by cases h
  | .dic _, _, _, h, _ => by cases h
  | .ins _ _, _, _, h, _ => by cases h
  | .tself, _, _, h, _ => by cases h
theorem datL_ok {F H : Hp} (s : Same F H) : ∀ {ws : List W} {ds : List PyData} {vs : List V}, datL ws = some ds → RpL K F ws vs → DpAll K H vs ds
  | [], _, _, h, r => by cases h; cases r; exact .nil
  | w :: ws, _, _, h, r => by
    obtain ⟨d, e1, h⟩ := bind2 (show (datW w).bind (fun d => (datL ws).map fun ds => d :: ds) = _ from h)
    obtain ⟨ds, e2, rfl⟩ := Option.map_eq_some_iff.mp h
    obtain ⟨u, us, rfl, q, t⟩ := r
    exact .cons (datW_ok s e1 q) (datL_ok s e2 t)
end
def datU (M : Mm) : U → Option PyData
  | .p w => datW w
  | .m i => match M[i]? with
    | some (.lst ws) => (datL ws).map .list
    | _ => none
  | _ => none
theorem datU_ok {F H : Hp} {ρ : List Addr} {M : Mm} (s : Sr K F ρ H M) {u : U} {d : PyData} {v : V} (h : datU M u = some d) (r : RU K F ρ u v) : Dp K H v d := by
  unfold datU at h
  split at h
  · exact datW_ok s.sub h r
  · split at h
    · rename_i e
      obtain ⟨ds, e2, rfl⟩ := Option.map_eq_some_iff.mp h
      obtain ⟨a, ha, rfl⟩ := r
      obtain ⟨vs, e3, q⟩ := s.cellL e ha
      exact .lst (SqL.of e3) (datL_ok s.sub e2 q)
    · cases h
  · cases h
/-- == of data: the answer -/
def eqA (M : Mm) (a b : U) : Option Bool := match a, b with
  | .p (.int i), .p (.int j) => some (decide (i = j))
  | .p (.str x), .p (.str y) => some (decide (x = y))
  | .p (.bl x), .p (.bl y) => some (decide (x = y))
  | a, b => (datU M a).bind fun d => (datU M b).bind fun e => if (SeqAt.shaped d && SeqAt.shaped e) = true then some (PyData.eqv d e) else none
def eqU : F2 := fun a b M => (eqA M a b).map fun c => (.p (.bl c), M)
def neU : F2 := fun a b M => (eqA M a b).map fun c => (.p (.bl (!c)), M)
def rEqU (K : PySem.W.Frag) : R2 := fun x y H Q => rEq x y H Q ∨ rEqD K x y H Q
def rNeU (K : PySem.W.Frag) : R2 := fun x y H Q => rNe x y H Q ∨ rNeD K x y H Q
theorem op_eqU (hu : X.A.units + 64 < cLine) (hK : X.K = K := by rfl) : OpR X (compareOp .Eq) (rEqU K) := by
  subst hK
  exact OpR.or op_eq (op_eqD hu)
theorem op_neU (hu : X.A.units + 64 < cLine) (hK : X.K = K := by rfl) : OpR X (compareOp .NotEq) (rNeU K) := by
  subst hK
  exact OpR.or op_ne (op_neD hu)
theorem eqA_ok {F H : Hp} {ρ : List Addr} {M : Mm} {u w : U} {x y : V} {b : Bool} (s : Sr K F ρ H M) (ru : RU K F ρ u x) (rw' : RU K F ρ w y) (h : eqA M u w = some b) :
    (scal x y = true ∧ decide (x = y) = b) ∨ ∃ d e, Dp K H x d ∧ Dp K H y e ∧ SeqAt.shaped d = true ∧ SeqAt.shaped e = true ∧ PyData.eqv d e = b := by
  unfold eqA at h
  split at h
  · cases h; cases ru; cases rw'; exact .inl ⟨rfl, by simp⟩
  · cases h; cases ru; cases rw'; exact .inl ⟨rfl, by simp⟩
  · cases h; cases ru; cases rw'; exact .inl ⟨rfl, by simp⟩
  · obtain ⟨d, e1, h⟩ := bind2 h
    obtain ⟨e, e2, h⟩ := bind2 h
    split at h
    · rename_i hs
      cases h
      rw [Bool.and_eq_true] at hs
      exact .inr ⟨d, e, datU_ok s e1 ru, datU_ok s e2 rw', hs.1, hs.2, rfl⟩
    · cases h
theorem vr_eq : VR2 K (rEqU K) eqU := by
  intro F ρ H M x y u w c M' Q sr ru rw' hm k
  obtain ⟨b, e1, e2⟩ := Option.map_eq_some_iff.mp hm
  cases e2
  rcases eqA_ok sr ru rw' e1 with ⟨h1, rfl⟩ | ⟨d, e, h1, h2, h3, h4, rfl⟩
  · exact .inl ⟨h1, k _ _ _ _ Go.refl sr rfl⟩
  · exact .inr ⟨d, e, h1, h2, h3, h4, k _ _ _ _ Go.refl sr rfl⟩
theorem vr_ne : VR2 K (rNeU K) neU := by
  intro F ρ H M x y u w c M' Q sr ru rw' hm k
  obtain ⟨b, e1, e2⟩ := Option.map_eq_some_iff.mp hm
  cases e2
  rcases eqA_ok sr ru rw' e1 with ⟨h1, rfl⟩ | ⟨d, e, h1, h2, h3, h4, rfl⟩
  · exact .inl ⟨h1, k _ _ _ _ Go.refl sr rfl⟩
  · exact .inr ⟨d, e, h1, h2, h3, h4, k _ _ _ _ Go.refl sr rfl⟩
/-! is None -/
def isN : U → Bool
  | .p .non => true
  | _ => false
def isU : F2 := fun a b M => match b with
  | .p .non => some (.p (.bl (isN a)), M)
  | _ => none
def isNotU : F2 := fun a b M => match b with
  | .p .non => some (.p (.bl (!isN a)), M)
  | _ => none
theorem isN_ok {F : Hp} {ρ : List Addr} {u : U} {x : V} (r : RU K F ρ u x) : decide (x = .non) = isN u := by
  cases u with
  | m i => obtain ⟨a, _, rfl⟩ := r; rfl
  | ts i => obtain ⟨a, t, _, rfl, _⟩ := r; rfl
  | p w =>
    cases w with
    | non => cases r; rfl
    | bl b => cases r; rfl
    | int b => cases r; rfl
    | str b => cases r; rfl
    | ty b => cases r; rfl
    | cls b => cases r; rfl
    | tup b => obtain ⟨a, vs, rfl, _⟩ := r; rfl
    | lst b => obtain ⟨a, vs, rfl, _⟩ := r; rfl
    | kt b => obtain ⟨a, vs, rfl, _⟩ := r; rfl
    | dic b => obtain ⟨a, vs, rfl, _⟩ := r; rfl
    | frz b => obtain ⟨a, vs, rfl, _⟩ := r; rfl
    | ins b fs => obtain ⟨a, o, vs, rfl, _⟩ := r; rfl
    | tself => exact r.elim
    | exc c fs => obtain ⟨a, rfl, _⟩ := r; rfl
theorem vr_is : VR2 K (fun x y H Q => y = .non ∧ Q (.bl (decide (x = .non))) H) isU := by
  intro F ρ H M x y u w c M' Q sr ru rw' hm k
  unfold isU at hm
  split at hm
  · cases hm; cases rw'
    exact ⟨rfl, k _ _ _ _ Go.refl sr (by rw [isN_ok ru]; exact rfl)⟩
  · cases hm
theorem vr_isNot : VR2 K (fun x y H Q => y = .non ∧ Q (.bl (!decide (x = .non))) H) isNotU := by
  intro F ρ H M x y u w c M' Q sr ru rw' hm k
  unfold isNotU at hm
  split at hm
  · cases hm; cases rw'
    exact ⟨rfl, k _ _ _ _ Go.refl sr (by rw [isN_ok ru]; exact rfl)⟩
  · cases hm
/-! in -/
/-- a flat item -/
def flW : W → Bool
  | .non => true
  | .bl _ => true
  | .int _ => true
  | .str _ => true
  | _ => false
def eqF : W → W → Bool
  | .non, .non => true
  | .bl a, .bl b => a == b
  | .bl a, .int j => (if a then 1 else 0) == j
  | .int i, .bl b => i == (if b then 1 else 0)
  | .int i, .int j => i == j
  | .str x, .str y => x == y
  | _, _ => false
def inW (w : W) (ws : List W) : Bool := ws.any fun y => eqF y w
def inA (M : Mm) (a b : U) : Option Bool := match a, b with
  | .p (.str x), .p (.str z) => match x.cps.toList with
    | [c] => some (decide (c ∈ z.cps.toList))
    | _ => none
  | .p w, b => match (seqL M b).orElse (fun _ => seqT b) with
    | some ws => if (flW w && ws.all flW) = true then some (inW w ws) else none
    | none => none
  | _, _ => none
def inU : F2 := fun a b M => (inA M a b).map fun c => (.p (.bl c), M)
def niU : F2 := fun a b M => (inA M a b).map fun c => (.p (.bl (!c)), M)
def rInU (K : PySem.W.Frag) (neg : Bool) : R2 := fun x y H Q => rIn K neg x y H Q ∨ ∃ (c : Nat) (z : Str), x = .str ⟨#[c]⟩ ∧ y = .str z ∧ Q (.bl (if neg then !decide (c ∈ z.cps.toList) else decide (c ∈ z.cps.toList))) H
theorem op_inU (hK : X.K = K := by rfl) : OpR X (compareOp .In) (rInU K false) := by
  subst hK
  exact OpR.or op_in_seq op_in_sign
theorem op_niU (hK : X.K = K := by rfl) : OpR X (compareOp .NotIn) (rInU K true) := by
  subst hK
  exact OpR.or op_notIn_seq op_notIn_sign
theorem flW_ok {F : Hp} {w : W} {v : V} (h : flW w = true) (r : Rp K F w v) : flatV v = true := by
  cases w <;> first | (cases r; rfl) | exact absurd (show false = true from h) Bool.false_ne_true
theorem eqF_ok {F : Hp} {w z : W} {v y : V} (h : flW w = true) (h2 : flW z = true) (r : Rp K F w v) (r2 : Rp K F z y) : eqF w z = eqV v y := by
  cases w <;> first | exact absurd (show false = true from h) Bool.false_ne_true | skip
  all_goals (cases z <;> first | exact absurd (show false = true from h2) Bool.false_ne_true | (cases r; cases r2; rfl))
theorem flL_ok {F : Hp} : ∀ {ws : List W} {vs : List V}, ws.all flW = true → RpL K F ws vs → vs.all flatV = true
  | [], _, _, r => by cases r; rfl
  | w :: ws, _, h, r => by
    obtain ⟨u, us, rfl, q, t⟩ := r
    rw [List.all_cons, Bool.and_eq_true] at h ⊢
    exact ⟨flW_ok h.1 q, flL_ok h.2 t⟩
theorem inW_ok {F : Hp} {w : W} {v : V} (h : flW w = true) (r : Rp K F w v) : ∀ {ws : List W} {vs : List V}, ws.all flW = true → RpL K F ws vs → inW w ws = inV v vs
  | [], _, _, q => by cases q; rfl
  | z :: ws, _, h2, q => by
    obtain ⟨u, us, rfl, q1, t⟩ := q
    rw [List.all_cons, Bool.and_eq_true] at h2
    unfold inW inV
    rw [List.any_cons, List.any_cons, eqF_ok h2.1 h q1 r]
    have := inW_ok h r h2.2 t
    unfold inW inV at this
    rw [this]
theorem inA_ok {F H : Hp} {ρ : List Addr} {M : Mm} {u w : U} {x y : V} {b : Bool} (neg : Bool) {Q : VK} (s : Sr K F ρ H M) (ru : RU K F ρ u x) (rw' : RU K F ρ w y) (h : inA M u w = some b) (q : Q (.bl (if neg then !b else b)) H) : rInU K neg x y H Q := by
  unfold inA at h
  split at h
  · split at h
    · rename_i a z _ c hc
      cases h; cases ru; cases rw'
      have e : a = ⟨#[c]⟩ := by
        cases a with
        | mk l =>
          have : l = #[c] := by
            have h2 : l.toList = [c] := hc
            rw [← Array.toArray_toList (xs := l), h2]
          subst this
          rfl
      exact .inr ⟨c, z, by rw [e], rfl, q⟩
    · cases h
  · split at h
    · rename_i ws hs
      split at h
      · rename_i hf
        cases h
        rw [Bool.and_eq_true] at hf
        have hx : ∃ p vs, y = .ref p ∧ (SqL K H p vs ∨ SqT K H p vs) ∧ RpL K F ws vs := by
          cases e : Pz.seqL M w with
          | some ws' =>
            rw [e] at hs
            cases hs
            obtain ⟨a, vs, e1, h1, r1⟩ := s.seqL e rw'
            exact ⟨a, vs, e1, .inl h1, r1⟩
          | none =>
            rw [e] at hs
            obtain ⟨a, vs, e1, h1, r1⟩ := seqT_ok s (show seqT w = some ws from hs) rw'
            exact ⟨a, vs, e1, .inr h1, r1⟩
        obtain ⟨p, vs, rfl, h1, r1⟩ := hx
        exact .inl ⟨p, vs, rfl, h1, flW_ok hf.1 ru, flL_ok hf.2 r1, by rw [← inW_ok hf.1 ru hf.2 r1]; exact q⟩
      · cases h
    · cases h
  · cases h
theorem vr_in : VR2 K (rInU K false) inU := by
  intro F ρ H M x y u w c M' Q sr ru rw' hm k
  obtain ⟨b, e1, e2⟩ := Option.map_eq_some_iff.mp hm
  cases e2
  exact inA_ok false sr ru rw' e1 (k _ _ _ _ Go.refl sr rfl)
theorem vr_ni : VR2 K (rInU K true) niU := by
  intro F ρ H M x y u w c M' Q sr ru rw' hm k
  obtain ⟨b, e1, e2⟩ := Option.map_eq_some_iff.mp hm
  cases e2
  exact inA_ok true sr ru rw' e1 (k _ _ _ _ Go.refl sr rfl)
/-! subscripts -/
def ixU : F2 := fun a b M => match a, b with
  | .p (.str z), .p (.int i) => if z.length ≤ 1000000 then (atI z.cps.toList i).map fun c => (.p (.str ⟨#[c]⟩), M) else none
  | a, .p (.int i) => match (seqL M a).orElse (fun _ => seqT a) with
    | some ws => (atI ws i).map fun w => (.p w, M)
    | none => none
  | _, _ => none
def rIxU (K : PySem.W.Frag) : R2 := fun x y H Q => (rIxL K x y H Q ∨ rIxT K x y H Q) ∨ rIxS x y H Q
theorem ix_U (hK : X.K = K := by rfl) : IxR X (rIxU K) := by
  subst hK
  exact IxR.or (IxR.or ix_list ix_tup) ix_str
theorem ew_ix {a b : Expr} {ma mb : E} {pos : Pos} (ha : EW X K a ma) (hb : EW X K b mb) (hs : PlainIx b := by exact fun _ _ => rfl) (hK : X.K = K := by rfl) : EW X K (.Subscript a b pos) (mBin ixU ma mb) := by
  have vr : VR2 K (rIxU K) ixU := by
    intro F ρ H M x y u w c M' Q sr ru rw' hm k
    unfold ixU at hm
    split at hm
    · rename_i z i
      split at hm
      · rename_i hl
        obtain ⟨ch, e1, e2⟩ := Option.map_eq_some_iff.mp hm
        cases e2; cases ru; cases rw'
        exact .inr ⟨z, i, ch, rfl, rfl, sz_ok hl, e1, k _ _ _ _ Go.refl sr rfl⟩
      · cases hm
    · rename_i i hn
      cases rw'
      split at hm
      · rename_i ws hs
        obtain ⟨z, e1, e2⟩ := Option.map_eq_some_iff.mp hm
        cases e2
        have item : ∀ {vs : List V}, RpL K F ws vs → ∃ v, atI vs i = some v ∧ Rp K F z v := fun {vs} r => by
          have hl := r.length
          unfold atI at e1 ⊢
          rw [hl] at e1
          obtain ⟨j, e3, e4⟩ := bind2 e1
          obtain ⟨v, e5, q⟩ := r.get e4
          exact ⟨v, by rw [e3]; exact e5, q⟩
        cases e : Pz.seqL M u with
        | some ws' =>
          rw [e] at hs
          cases hs
          obtain ⟨a, vs, rfl, h1, r1⟩ := sr.seqL e ru
          obtain ⟨v, e6, q⟩ := item r1
          exact .inl (.inl ⟨a, vs, i, v, rfl, rfl, h1, e6, k _ _ _ _ Go.refl sr q⟩)
        | none =>
          rw [e] at hs
          obtain ⟨a, vs, rfl, h1, r1⟩ := seqT_ok sr (show seqT u = some ws from hs) ru
          obtain ⟨v, e6, q⟩ := item r1
          exact .inl (.inr ⟨a, vs, i, v, rfl, rfl, h1, e6, k _ _ _ _ Go.refl sr q⟩)
      · cases hm
    · cases hm
  exact (pe_ix (ix_U hK) ha hb hs).weak fun _ _ _ q => w_op vr q
end
end Pz
/-! ### slices, stores, built-ins -/
namespace Pz
open PySem PySem.Spec PyProof.Rows L2 Rt He
/-! slices -/
abbrev P := Sl → Mm → Option (Option Int × Mm)
def pNo : P := fun _ M => some (none, M)
def pSo (m : E) : P := fun us M => (m us M).bind fun x => match x.1 with
  | .p (.int i) => some (some i, x.2)
  | _ => none
def tWP (K : PySem.W.Frag) (m : P) : TO := fun σ H Q => ∃ F ρ us M u M', Sr K F ρ H M ∧ Sv K F ρ us σ ∧ m us M = some (u, M') ∧ ∀ F' ρ' H', Go F ρ H F' ρ' H' → Sr K F' ρ' H' M' → Q u H'
def PoW (X : Cx) (K : PySem.W.Frag) (e : Option Expr) (m : P) : Prop := PO X e (tWP K m)
def cutW (ws : List W) (lo hi : Option Int) : List W := (ws.drop (HT.sIx ws.length 0 lo)).take (HT.sIx ws.length ws.length hi - HT.sIx ws.length 0 lo)
def slU (M : Mm) (a : U) (lo hi : Option Int) : Option U := match a with
  | .p (.str z) => if z.length ≤ 1000000 then some (.p (.str (cutS z lo hi))) else none
  | a => match seqL M a with
    | some ws => some (.p (.lst (cutW ws lo hi)))
    | none => (seqT a).map fun ws => if HT.sIx ws.length 0 lo = 0 ∧ HT.sIx ws.length ws.length hi = ws.length then a else .p (.tup (cutW ws lo hi))
def mSlice (m : E) (lo hi : P) : E := fun us M => (m us M).bind fun x => (lo us x.2).bind fun l => (hi us l.2).bind fun h => (slU h.2 x.1 l.1 h.1).map (·, h.2)
section
variable {X : Cx} {K : PySem.W.Frag} {pos : Pos} {e : Expr} {m : E}
theorem pow_no : PoW X K none pNo := by
  refine ⟨fun pins s σ H Q I q => ?_⟩
  obtain ⟨F, ρ, us, M, u, M', sr, sv, hm, k⟩ := q
  cases hm
  exact po_none.run pins s σ H Q I (k F ρ H Go.refl sr)
theorem pow_so (h : EW X K e m) : PoW X K (some e) (pSo m) := by
  refine ⟨fun pins s σ H Q I q => ?_⟩
  obtain ⟨F, ρ, us, M, u, M', sr, sv, hm, k⟩ := q
  refine (po_some h).run pins s σ H Q I ?_
  obtain ⟨⟨x, M1⟩, e1, e2⟩ := bind2 hm
  dsimp only at e2
  split at e2
  · cases e2
    exact ⟨F, ρ, us, M, _, _, sr, sv, e1, fun F1 ρ1 H1 v g1 sr1 r1 => ⟨_, r1, k _ _ _ g1 sr1⟩⟩
  · cases e2
def rSlU (K : PySem.W.Frag) : V → Option Int → Option Int → Hp → VK → Prop := fun x lo hi H Q => (rSlL K x lo hi H Q ∨ rSlA K x lo hi H Q) ∨ rSlS x lo hi H Q
theorem sl_U (hK : X.K = K := by rfl) : L2.SlR X (rSlU K) := by
  subst hK
  exact SlR.or (SlR.or sl_list sl_tupA) sl_str
theorem cut_rp {F : Hp} {ws : List W} {vs : List V} (r : RpL K F ws vs) (lo hi : Option Int) : RpL K F (cutW ws lo hi) (cutV vs lo hi) := by
  unfold cutW cutV
  rw [r.length]
  exact (r.drop _).take _
theorem slU_ok {F H : Hp} {ρ : List Addr} {M : Mm} {a c : U} {x : V} {lo hi : Option Int} {Q : VK} (sr : Sr K F ρ H M) (r : RU K F ρ a x) (h : slU M a lo hi = some c) (k : ∀ F' ρ' H' v, Go F ρ H F' ρ' H' → Sr K F' ρ' H' M → RU K F' ρ' c v → Q v H') : rSlU K x lo hi H Q := by
  unfold slU at h
  split at h
  · split at h
    · rename_i z hl
      cases h; cases r
      exact .inr ⟨z, rfl, sz_ok hl, k _ _ _ _ Go.refl sr rfl⟩
    · cases h
  · split at h
    · rename_i ws hs
      cases h
      obtain ⟨a, vs, rfl, h1, r1⟩ := sr.seqL hs r
      exact .inl (.inl ⟨a, vs, rfl, h1, fun p hp => new_lst sr (cut_rp r1 lo hi) k hp⟩)
    · obtain ⟨ws, e1, e2⟩ := Option.map_eq_some_iff.mp h
      cases e2
      obtain ⟨a, vs, rfl, h1, r1⟩ := seqT_ok sr e1 r
      have hl := r1.length
      refine .inl (.inr ⟨a, vs, rfl, h1, fun hw => ?_, fun hw p hp => ?_⟩)
      · rw [← hl] at hw
        rw [if_pos hw] at k
        exact k _ _ _ _ Go.refl sr r
      · rw [← hl] at hw
        rw [if_neg hw] at k
        exact new_tup sr (cut_rp r1 lo hi) k hp
theorem ew_slice {lo hi : Option Expr} {pl ph : P} {p2 pos : Pos} (he : EW X K e m) (hl : PoW X K lo pl) (hh : PoW X K hi ph) (hK : X.K = K := by rfl) : EW X K (.Subscript e (.Slice lo hi none p2) pos) (mSlice m pl ph) := by
  refine (pe_slice (sl_U hK) he hl hh).weak fun σ H Q ⟨F, ρ, us, M, u, M', sr, sv, hm, k⟩ => ?_
  obtain ⟨⟨x, M1⟩, e1, hm⟩ := bind2 hm
  obtain ⟨⟨l, M2⟩, e2, hm⟩ := bind2 hm
  obtain ⟨⟨h, M3⟩, e3, hm⟩ := bind2 hm
  obtain ⟨c, e4, e5⟩ := Option.map_eq_some_iff.mp hm
  cases e5
  refine ⟨F, ρ, us, M, x, M1, sr, sv, e1, fun F1 ρ1 H1 v g1 sr1 r1 => ⟨F1, ρ1, us, M1, l, M2, sr1, sv.mono g1.sf g1.pre, e2, fun F2 ρ2 H2 g2 sr2 => ⟨F2, ρ2, us, M2, h, _, sr2, (sv.mono g1.sf g1.pre).mono g2.sf g2.pre, e3, fun F3 ρ3 H3 g3 sr3 => ?_⟩⟩⟩
  have gg := (g1.trans g2).trans g3
  exact slU_ok sr3 (r1.mono (g2.trans g3).sf (g2.trans g3).pre) e4 fun F' ρ' H' v' g4 => k F' ρ' H' v' (gg.trans g4)
end
/-! o[i] = v, o.append(v), x += v -/
def setU (o i v : U) (M : Mm) : Option Mm := match o, i, v with
  | .m n, .p (.int k), .p w => match M[n]? with
    | some (.lst ws) => (ixN ws.length k).map fun j => M.set n (.lst (ws.set j w))
    | _ => none
  | _, _, _ => none
def gSb (o i : E) : Tg := fun u us M => (o us M).bind fun x => (i us x.2).bind fun y => (setU x.1 y.1 u y.2).map fun M3 => (us, M3)
section
variable {X : Cx} {K : PySem.W.Frag} {pos : Pos} {e o i : Expr} {m mo mi : E}
theorem setU_ok {F H : Hp} {ρ : List Addr} {M M' : Mm} {a b c : U} {x y z : V} {Q : Hp → Prop} (sr : Sr K F ρ H M) (ra : RU K F ρ a x) (rb : RU K F ρ b y) (rc : RU K F ρ c z) (h : setU a b c M = some M') (k : ∀ F' ρ' H', Go F ρ H F' ρ' H' → Sr K F' ρ' H' M' → Q H') : rSetL x y z H Q := by
  unfold setU at h
  split at h
  · rename_i n kk w
    split at h
    · rename_i ws hc
      obtain ⟨j, e1, e2⟩ := Option.map_eq_some_iff.mp h
      cases e2
      obtain ⟨p, hp, rfl⟩ := ra
      cases rb
      obtain ⟨vs, e3, q⟩ := sr.cellL hc hp
      have hl := q.length
      obtain ⟨f0, _⟩ := sr.cell n _ p hc hp
      exact ⟨p, vs, kk, j, rfl, rfl, e3, by rw [← hl]; exact e1, k _ _ _ (Go.write (List.mem_of_getElem? hp)) (sr.write hc (fun z => by cases z) hp ⟨f0, _, rfl, q.set rc j⟩)⟩
    · cases h
  · cases h
theorem gw_sub (ho : EW X K o mo) (hi : EW X K i mi) (ha : ∀ v, assign (.Subscript o i pos) X.env v = (do
      let ov ← holding [v] (eval o X.env)
      let iv ← holding [v, ov] (eval i X.env)
      standAt pos
      holding [v, ov, iv] (setItem ov iv v)
      release [v, ov, iv] []) := by intro _; rfl) : GW X K (.Subscript o i pos) (gSb mo mi) := by
  refine (pg_sub ho hi set_list ha).weak fun v σ H Q ⟨F, ρ, u, us, M, us', M', sr, sv, r, hm, k⟩ => ?_
  obtain ⟨⟨x, M1⟩, e1, hm⟩ := bind2 hm
  obtain ⟨⟨y, M2⟩, e2, hm⟩ := bind2 hm
  obtain ⟨M3, e3, e4⟩ := Option.map_eq_some_iff.mp hm
  cases e4
  refine ⟨F, ρ, us, M, x, M1, sr, sv, e1, fun F1 ρ1 H1 ov g1 sr1 r1 => ⟨F1, ρ1, us, M1, y, M2, sr1, sv.mono g1.sf g1.pre, e2, fun F2 ρ2 H2 iv g2 sr2 r2 => ?_⟩⟩
  have gg := g1.trans g2
  exact setU_ok sr2 (r1.mono g2.sf g2.pre) r2 (r.mono gg.sf gg.pre) e3 fun F' ρ' H' g3 sr3 => k F' ρ' H' σ (gg.trans g3) sr3 (sv.mono (gg.trans g3).sf (gg.trans g3).pre)
/-- a method of a list that changes it, as an expression: the receiver, the arguments -/
def apU : U → FA := fun o us M => match o, us with
  | .m n, [.p w] => match M[n]? with
    | some (.lst ws) => if ws.length ≤ 1000000 then some (.p .non, M.set n (.lst (ws ++ [w]))) else none
    | _ => none
  | _, _ => none
/-- a method by values is served -/
def VRM (K : PySem.W.Frag) (T : String) (r : V → List V → Hp → VK → Prop) (f : U → FA) : Prop := ∀ F ρ H M x xs u us c M' Q, Sr K F ρ H M → RU K F ρ u x → RUs K F ρ us xs → f u us M = some (c, M') → (∀ F' ρ' H' v, Go F ρ H F' ρ' H' → Sr K F' ρ' H' M' → RU K F' ρ' c v → Q v H') → r x xs H Q
/-- the receiver is of this built-in type -/
def TyM (K : PySem.W.Frag) (T : String) (ok : Mm → U → Bool) : Prop := ∀ F ρ H M u x, Sr K F ρ H M → RU K F ρ u x → ok M u = true → tyV K T x H
def isStr : Mm → U → Bool := fun _ u => match u with
  | .p (.str _) => true
  | _ => false
def isLst : Mm → U → Bool := fun M u => (lstW M u).isSome
theorem tym_str : TyM K "str" isStr := by
  intro F ρ H M u x sr r h
  unfold isStr at h
  split at h
  · cases r; rfl
  · cases h
theorem tym_lst : TyM K "list" isLst := by
  intro F ρ H M u x sr r h
  unfold isLst at h
  obtain ⟨ws, e⟩ := Option.isSome_iff_exists.mp h
  obtain ⟨a, vs, rfl, f, q⟩ := lstW_ok sr e r
  exact .inl ⟨rfl, vs, SqL.of f⟩
def mMethT (ok : Mm → U → Bool) (f : U → FA) (o : E) (a : As) : E := fun us M => (o us M).bind fun x => if ok x.2 x.1 = true then (a us x.2).bind fun y => f x.1 y.1 y.2 else none
theorem w_bm {T : String} {ok : Mm → U → Bool} {r : V → List V → Hp → VK → Prop} {f : U → FA} {ma : As} (ht : TyM K T ok) (hf : VRM K T r f) {σ : L2.St} {H : Hp} {Q : VK} (q : tW K (mMethT ok f mo ma) σ H Q) : tBM K T r (tW K mo) (tWA K ma) σ H Q := by
  obtain ⟨F, ρ, us, M, u, M', sr, sv, hm, k⟩ := q
  obtain ⟨⟨x, M1⟩, e1, hm⟩ := bind2 hm
  dsimp only at hm
  split at hm
  · rename_i hok
    obtain ⟨⟨y, M2⟩, e2, e3⟩ := bind2 hm
    refine ⟨F, ρ, us, M, x, M1, sr, sv, e1, fun F1 ρ1 H1 v g1 sr1 r1 => ⟨ht F1 ρ1 H1 M1 x v sr1 r1 hok, F1, ρ1, us, M1, y, M2, sr1, sv.mono g1.sf g1.pre, e2, fun F2 ρ2 H2 vs g2 sr2 r2 => ?_⟩⟩
    exact hf F2 ρ2 H2 M2 v vs x y u M' Q sr2 (r1.mono g2.sf g2.pre) r2 e3 fun F' ρ' H' v' g3 => k F' ρ' H' v' ((g1.trans g2).trans g3)
  · cases hm
theorem ew_bm {T id : String} {name : Str} {es : List Expr} {apos cpos : Pos} {ok : Mm → U → Bool} {r : V → List V → Hp → VK → Prop} {f : U → FA} {ma : As} (pa : PlainAttrs T) (slot : Slot T name id) (hty : typeOf (.builtin id) = pure (.type "method_descriptor")) (hm : MtR X id r) (ht : TyM K T ok) (hf : VRM K T r f) (ho : EW X K o mo) (ha : AW X K (e :: es) ma)
    (hK : X.K = K := by rfl) (hbase : attributeBase o name X.env (eval o X.env) = eval o X.env := by rfl)
    (hfew : ((backTo cpos (starEach (e :: es) X.env)).all (fun x => !x.1) && (backToKw cpos (keywordEach [] X.env)).all (fun x => x.1.isSome)
      && decide ((e :: es).length + ([] : List Keyword).length + (if ([] : List Keyword).isEmpty then 0 else 1) < 30)) = true := by rfl)
    (hline : (apos.endLine == cpos.line) = true := by rfl) (hs : starEach (e :: es) X.env = (false, eval e X.env) :: starEach es X.env := by rfl) (hplain : (backTo cpos (starEach es X.env)).any (·.1) = false := by rfl) :
    EW X K (.Call (.Attribute o name apos) (e :: es) [] cpos) (mMethT ok f mo ma) := by
  subst hK
  exact (pe_bm pa slot hty hm ho ha hbase hfew hline hs hplain).weak fun _ _ _ q => w_bm ht hf q
theorem _root_.L2.MtM.r {id : String} {r : V → List V → Hp → VK → Prop} (h : MtM X id r) : MtR X id r := h
theorem vr_app : VRM K "list" rAppend apU := by
  intro F ρ H M x xs u us c M' Q sr ru rus hm k
  unfold apU at hm
  split at hm
  · rename_i n w
    split at hm
    · rename_i ws hc
      split at hm
      · rename_i hl
        cases hm
        obtain ⟨p, hp, rfl⟩ := ru
        obtain ⟨v, vt, rfl, r0, rfl⟩ := rus
        obtain ⟨vs, e3, q⟩ := sr.cellL hc hp
        have hq := q.length
        obtain ⟨f0, _⟩ := sr.cell n _ p hc hp
        exact ⟨p, vs, v, rfl, rfl, e3, by rw [sz_line]; omega, k _ _ _ _ (Go.write (List.mem_of_getElem? hp)) (sr.write hc (fun z => by cases z) hp ⟨f0, _, rfl, q.append ⟨v, [], rfl, r0, rfl⟩⟩) rfl⟩
      · cases hm
    · cases hm
  · cases hm
/-- a method of a text, of one text -/
def strM (C : Str → Str → Bool) (g : Str → Str → W) : U → FA := fun o us M => match o, us with
  | .p (.str a), [.p (.str b)] => if C a b = true then some (.p (g a b), M) else none
  | _, _ => none
theorem vr_strM {r : Str → Str → Hp → VK → Prop} {C : Str → Str → Bool} {g : Str → Str → W} (h : ∀ F ρ H M a b (Q : VK), Sr K F ρ H M → C a b = true → (∀ F' ρ' H' v, Go F ρ H F' ρ' H' → Sr K F' ρ' H' M → RU K F' ρ' (.p (g a b)) v → Q v H') → r a b H Q) :
    VRM K "str" (fun x xs H Q => ∃ a b, x = .str a ∧ xs = [.str b] ∧ r a b H Q) (strM C g) := by
  intro F ρ H M x xs u us c M' Q sr ru rus hm k
  unfold strM at hm
  split at hm
  · rename_i a b
    split at hm
    · rename_i hc
      cases hm; cases ru
      obtain ⟨v, vt, rfl, r0, rfl⟩ := rus
      cases r0
      exact ⟨a, b, rfl, rfl, h F ρ H _ a b Q sr hc k⟩
    · cases hm
  · cases hm
def swU : U → FA := strM (fun _ _ => true) fun a b => .bl (Txt.startswith a b)
theorem vr_sw : VRM K "str" (fun x xs H Q => ∃ a b, x = .str a ∧ xs = [.str b] ∧ Q (.bl (Txt.startswith a b)) H) swU :=
  vr_strM (r := fun a b H Q => Q (.bl (Txt.startswith a b)) H) fun _ _ _ _ _ _ _ sr _ k => k _ _ _ _ Go.refl sr rfl
def ptC (a b : Str) : Bool := (b.length != 0) && decide (a.length ≤ 1000000)
def ptU : U → FA := strM ptC fun a b => .tup [.str (Txt.partition a b).1, .str (Txt.partition a b).2.1, .str (Txt.partition a b).2.2]
theorem vr_pt : VRM K "str" (fun x xs H Q => ∃ a b, x = .str a ∧ xs = [.str b] ∧ (b.length == 0) = false ∧ a.length ≤ sizeLine ∧ ∀ p, H p = none → Q (.ref p) (upd H p (.tup [.str (Txt.partition a b).1, .str (Txt.partition a b).2.1, .str (Txt.partition a b).2.2]))) ptU :=
  vr_strM (r := fun a b H Q => (b.length == 0) = false ∧ a.length ≤ sizeLine ∧ ∀ p, H p = none → Q (.ref p) (upd H p (.tup [.str (Txt.partition a b).1, .str (Txt.partition a b).2.1, .str (Txt.partition a b).2.2]))) fun F _ _ _ a b _ sr h k => by
    unfold ptC at h
    rw [Bool.and_eq_true] at h
    refine ⟨by have := h.1; simpa using this, sz_ok (of_decide_eq_true h.2), fun p hp => new_tup (ws := [.str (Txt.partition a b).1, .str (Txt.partition a b).2.1, .str (Txt.partition a b).2.2]) sr ⟨_, _, rfl, rfl, _, _, rfl, rfl, _, _, rfl, rfl, rfl⟩ k hp⟩
def strsW (ys : List Str) : List W := ys.map .str
theorem rp_strs {F : Hp} : ∀ ys : List Str, RpL K F (strsW ys) (ys.map V.str)
  | [] => rfl
  | y :: ys => ⟨_, _, rfl, rfl, rp_strs ys⟩
def spC (a b : Str) : Bool := (b.length != 0) && decide (a.length ≤ 1000000)
def spU : U → FA := strM spC fun a b => .lst (strsW (Txt.split a b))
theorem vr_sp : VRM K "str" (fun x xs H Q => ∃ a b, x = .str a ∧ xs = [.str b] ∧ (b.length == 0) = false ∧ a.length + 2 ≤ sizeLine ∧ rNewStrs (Txt.split a b) H Q) spU :=
  vr_strM (r := fun a b H Q => (b.length == 0) = false ∧ a.length + 2 ≤ sizeLine ∧ rNewStrs (Txt.split a b) H Q) fun F _ _ _ a b _ sr h k => by
    unfold spC at h
    rw [Bool.and_eq_true] at h
    have hl := of_decide_eq_true h.2
    refine ⟨by have := h.1; simpa using this, by rw [sz_line]; omega, fun p hp => new_lst sr (rp_strs _) k hp⟩
/-- join -/
def toStrs : List W → Option (List Str)
  | [] => some []
  | .str x :: r => (toStrs r).map (x :: ·)
  | _ :: _ => none
theorem toStrs_ok {F : Hp} : ∀ {ws : List W} {ys : List Str} {vs : List V}, toStrs ws = some ys → RpL K F ws vs → vs = ys.map V.str
  | [], _, _, h, r => by cases h; cases r; rfl
  | w :: ws, _, _, h, r => by
    obtain ⟨u, us, rfl, q, t⟩ := r
    unfold toStrs at h
    split at h
    · rename_i heq; cases heq
    · rename_i x r' heq
      cases heq
      obtain ⟨ys, e, rfl⟩ := Option.map_eq_some_iff.mp h
      cases q
      rw [toStrs_ok e t]
      rfl
    · cases h
def jnU : U → FA := fun o us M => match o, us with
  | .p (.str a), [u] => match (seqL M u).orElse (fun _ => seqT u) with
    | some ws => (toStrs ws).bind fun ys => if (ys.map (·.length)).sum + ys.length * a.length ≤ 1000000 then some (.p (.str (Txt.join a ys)), M) else none
    | none => none
  | _, _ => none
/-- a list or a tuple that is read -/
theorem seq_ok {F H : Hp} {ρ : List Addr} {M : Mm} {u : U} {ws : List W} {v : V} (sr : Sr K F ρ H M) (hs : (Pz.seqL M u).orElse (fun _ => seqT u) = some ws) (r0 : RU K F ρ u v) : ∃ p vs, v = .ref p ∧ (SqL K H p vs ∨ SqT K H p vs) ∧ RpL K F ws vs := by
  cases e : Pz.seqL M u with
  | some ws' =>
    rw [e] at hs
    cases hs
    obtain ⟨a, vs, e1, h1, r1⟩ := sr.seqL e r0
    exact ⟨a, vs, e1, .inl h1, r1⟩
  | none =>
    rw [e] at hs
    obtain ⟨a, vs, e1, h1, r1⟩ := seqT_ok sr (show seqT u = some ws from hs) r0
    exact ⟨a, vs, e1, .inr h1, r1⟩
theorem vr_jn : VRM K "str" (fun x xs H Q => ∃ a p, ∃ ys : List Str, x = .str a ∧ xs = [.ref p] ∧ (SqL K H p (ys.map V.str) ∨ SqT K H p (ys.map V.str)) ∧ (ys.map (·.length)).sum + ys.length * a.length ≤ 16777216 ∧ Q (.str (Txt.join a ys)) H) jnU := by
  intro F ρ H M x xs u us c M' Q sr ru rus hm k
  unfold jnU at hm
  split at hm
  · rename_i a u1
    cases ru
    obtain ⟨v, vt, rfl, r0, rfl⟩ := rus
    split at hm
    · rename_i ws hs
      obtain ⟨ys, e1, hm⟩ := bind2 hm
      split at hm
      · rename_i hl
        cases hm
        obtain ⟨p, vs, rfl, h1, r1⟩ := seq_ok sr hs r0
        have e2 := toStrs_ok e1 r1
        subst e2
        exact ⟨a, p, ys, rfl, rfl, h1, by omega, k _ _ _ _ Go.refl sr rfl⟩
      · cases hm
    · cases hm
  · cases hm
end
/-! x += v of ints and texts; names alone -/
def mAug (i : Nat) (e : E) (f : F2) : S := fun us M => (us[i]?.join).bind fun x => (e us M).bind fun y => (f x y.1 y.2).map fun z => (.nx, us.set i (some z.1), z.2)
def ipU (g : Int → Int → Int) : F2 := I2 (fun i j => .p (.int (g i j))) fun _ _ => true
section
variable {X : Cx} {K : PySem.W.Frag} {pos : Pos} {e : Expr} {m : E}
theorem sw_aug {i : Nat} {x : Str} {op : Operator} {ti : TIp} {f : F2} {pos' : Pos} (hN : X.N.Nodup) (hi : X.N[i]? = some x) (hx : Loc X.env.scope x) (he : EW X K e m) (ho : PIp X op ti) (hf : VR2 K ti f) (hl : X.fn x = true ∨ X.env.scope.names.lookup x = some .local := by first | exact .inl rfl | exact .inr rfl | assumption) :
    SW X K (.AugAssign (.Name x pos') op e pos) (mAug i m f) := by
  refine (ps_aug hN hi hx he ho hl).weak fun D σ H ⟨F, ρ, us, M, fl, us', M', sr, sv, hm, k⟩ => ?_
  obtain ⟨u0, e0, hm⟩ := bind2 hm
  obtain ⟨⟨y, M1⟩, e1, hm⟩ := bind2 hm
  obtain ⟨⟨z, M2⟩, e2, e3⟩ := Option.map_eq_some_iff.mp hm
  cases e3
  have e0' : us[i]? = some (some u0) := by
    cases h : us[i]? with
    | none => rw [h] at e0; cases e0
    | some o => rw [h] at e0; cases o with
      | none => cases e0
      | some w => cases e0; rfl
  obtain ⟨v0, e4, r4⟩ := sv.at_ i u0 e0'
  refine ⟨v0, e4, F, ρ, us, M, y, M1, sr, sv, e1, fun F1 ρ1 H1 v g1 sr1 r1 => ?_⟩
  exact hf F1 ρ1 H1 M1 v0 v u0 y z _ _ sr1 (r4.mono g1.sf g1.pre) r1 e2 fun F' ρ' H' v' g2 sr2 r2 => k F' ρ' H' _ (g1.trans g2) sr2 ((sv.mono (g1.trans g2).sf (g1.trans g2).pre).set i r2)
theorem vr_ip (g : Int → Int → Int) : VR2 K (ipI g) (ipU g) := by
  intro F ρ H M x y u w c M' Q sr ru rw' hm k
  unfold ipU I2 at hm
  split at hm
  · rename_i i j
    cases hm; cases ru; cases rw'
    exact ⟨i, j, rfl, rfl, k _ _ _ _ Go.refl sr rfl⟩
  · cases hm
end
end Pz
/-! ### built-in functions, texts put together -/
namespace Pz
open PySem PySem.Spec PyProof.Rows L2 Rt He
section
variable {X : Cx} {K : PySem.W.Frag} {pos : Pos} {e : Expr} {es : List Expr} {ma : As}
theorem ew_callB {id : String} {x : Str} {p : Pos} {r : List V → Hp → VK → Prop} {f : FA} (hc : CallR X (.builtin id) r) (hf : VRA K r f) (hg : Gl X x) (hm : X.mg x = none) (hv : bootBuiltins x = some (.builtin id)) (ha : AW X K (e :: es) ma) (hn : x ≠ "__name__" := by decide) (hdb : (x == ("__debug__" : Str)) = false := by decide)
    (he : starEach (e :: es) X.env = (false, eval e X.env) :: starEach es X.env := by rfl) (hpl : (backTo pos (starEach es X.env)).any (·.1) = false := by rfl) : EW X K (.Call (.Name x p) (e :: es) [] pos) (mCall f ma) :=
  (pe_callB hc hg hm hv ha hn hdb he hpl).weak fun _ _ _ q => w_call hf q
theorem ew_callT {T : String} {x : Str} {p : Pos} {r : List V → Hp → VK → Prop} {f : FA} (hc : CallR X (.type T) r) (hf : VRA K r f) (hg : Gl X x) (hm : X.mg x = none) (hv : bootBuiltins x = some (.type T)) (ha : AW X K (e :: es) ma) (hn : x ≠ "__name__" := by decide) (hdb : (x == ("__debug__" : Str)) = false := by decide)
    (he : starEach (e :: es) X.env = (false, eval e X.env) :: starEach es X.env := by rfl) (hpl : (backTo pos (starEach es X.env)).any (·.1) = false := by rfl) : EW X K (.Call (.Name x p) (e :: es) [] pos) (mCall f ma) :=
  (pe_callTy hc hg hm hv ha hn hdb he hpl).weak fun _ _ _ q => w_call hf q
/-- one rule, then another -/
def orA (f g : FA) : FA := fun us M => match f us M with
  | some r => some r
  | none => g us M
theorem VRA.or {r r' : List V → Hp → VK → Prop} {f g : FA} (h : VRA K r f) (h' : VRA K r' g) : VRA K (fun xs H Q => r xs H Q ∨ r' xs H Q) (orA f g) := by
  intro F ρ H M x u c M' Q sr ru hm k
  unfold orA at hm
  split at hm
  · rename_i y hy
    cases hm
    exact .inl (h F ρ H M x u c M' Q sr ru hy k)
  · exact .inr (h' F ρ H M x u c M' Q sr ru hm k)
theorem VRA.mk {r : List V → Hp → VK → Prop} {f : FA} (h : VRA K r f) : VRA K r f := h
/-! len -/
def lenU : FA := fun us M => match us with
  | [.p (.str z)] => if z.length ≤ 1000000 then some (.p (.int z.length), M) else none
  | [u] => match (seqL M u).orElse (fun _ => seqT u) with
    | some ws => some (.p (.int ws.length), M)
    | none => none
  | _ => none
theorem vr_len : VRA K (fun xs H Q => ∃ x n, xs = [x] ∧ LenV K x H n ∧ Q (.int n) H) lenU := by
  intro F ρ H M x u c M' Q sr ru hm k
  unfold lenU at hm
  split at hm
  · split at hm
    · rename_i z hl
      cases hm
      obtain ⟨v, vt, rfl, r0, rfl⟩ := ru
      cases r0
      exact ⟨_, z.length, rfl, ⟨sz_ok hl, rfl⟩, k _ _ _ _ Go.refl sr rfl⟩
    · cases hm
  · split at hm
    · rename_i hs
      cases hm
      obtain ⟨v, vt, rfl, r0, rfl⟩ := ru
      obtain ⟨p, vs, rfl, h1, r1⟩ := seq_ok sr hs r0
      refine ⟨_, vs.length, rfl, ?_, k _ _ _ _ Go.refl sr (by rw [r1.length]; exact rfl)⟩
      exact h1.imp (fun h => ⟨vs, h, rfl⟩) fun h => ⟨vs, h, rfl⟩
    · cases hm
  · cases hm
/-! int, bool, str, abs, divmod of ints -/
def int1 (g : Int → Option W) : FA := fun us M => match us with
  | [.p (.int i)] => (g i).map fun w => (.p w, M)
  | _ => none
theorem vr_int1 {r : Int → Hp → VK → Prop} {g : Int → Option W} (h : ∀ F ρ H M i w (Q : VK), Sr K F ρ H M → g i = some w → (∀ F' ρ' H' v, Go F ρ H F' ρ' H' → Sr K F' ρ' H' M → RU K F' ρ' (.p w) v → Q v H') → r i H Q) :
    VRA K (fun xs H Q => ∃ i, xs = [.int i] ∧ r i H Q) (int1 g) := by
  intro F ρ H M x u c M' Q sr ru hm k
  unfold int1 at hm
  split at hm
  · rename_i i
    obtain ⟨w, e1, e2⟩ := Option.map_eq_some_iff.mp hm
    cases e2
    obtain ⟨v, vt, rfl, r0, rfl⟩ := ru
    cases r0
    exact ⟨i, rfl, h F ρ H _ i w Q sr e1 k⟩
  · cases hm
def intI : FA := int1 fun i => some (.int i)
theorem vr_intI : VRA K rInt intI := vr_int1 (r := fun i H Q => Q (.int i) H) fun _ _ _ _ i w Q sr e k => by cases e; exact k _ _ _ _ Go.refl sr rfl
def boolI : FA := int1 fun i => some (.bl (i != 0))
theorem vr_boolI : VRA K rBoolI boolI := vr_int1 (r := fun i H Q => Q (.bl (i != 0)) H) fun _ _ _ _ i w Q sr e k => by cases e; exact k _ _ _ _ Go.refl sr rfl
def boolB : FA := fun us M => match us with
  | [.p (.bl b)] => some (.p (.bl b), M)
  | _ => none
def absI : FA := int1 fun i => some (.int (i.natAbs : Int))
theorem vr_absI : VRA K rAbs absI := vr_int1 (r := fun i H Q => Q (.int (i.natAbs : Int)) H) fun _ _ _ _ i w Q sr e k => by cases e; exact k _ _ _ _ Go.refl sr rfl
def intStr (i : Int) : Str := toString i
def strI : FA := int1 fun i => if i.natAbs.log2 < 1920 then some (.str (intStr i)) else none
theorem vr_strI : VRA K (fun xs H Q => ∃ i, xs = [.int i] ∧ i.natAbs.log2 < 1920 ∧ Q (.str (toString i)) H) strI := vr_int1 (r := fun i H Q => i.natAbs.log2 < 1920 ∧ Q (.str (toString i)) H) fun _ _ _ _ i w Q sr e k => by
  split at e
  · rename_i h
    cases e
    exact ⟨h, k _ _ _ _ Go.refl sr rfl⟩
  · cases e
def strS : FA := fun us M => match us with
  | [.p (.str z)] => some (.p (.str z), M)
  | _ => none
theorem vr_strS : VRA K (fun xs H Q => ∃ a, xs = [.str a] ∧ Q (.str a) H) strS := by
  intro F ρ H M x u c M' Q sr ru hm k
  unfold strS at hm
  split at hm
  · rename_i z
    cases hm
    obtain ⟨v, vt, rfl, r0, rfl⟩ := ru
    cases r0
    exact ⟨z, rfl, k _ _ _ _ Go.refl sr rfl⟩
  · cases hm
def intS : FA := fun us M => match us with
  | [.p (.str z)] => if z.length ≤ 640 then (PySem.intText? z).map fun n => (.p (.int n), M) else none
  | _ => none
theorem vr_intS : VRA K (fun xs H Q => ∃ a n, xs = [.str a] ∧ PySem.intText? a = some n ∧ a.length ≤ 640 ∧ Q (.int n) H) intS := by
  intro F ρ H M x u c M' Q sr ru hm k
  unfold intS at hm
  split at hm
  · split at hm
    · rename_i z hl
      obtain ⟨n, e1, e2⟩ := Option.map_eq_some_iff.mp hm
      cases e2
      obtain ⟨v, vt, rfl, r0, rfl⟩ := ru
      cases r0
      exact ⟨z, n, rfl, e1, hl, k _ _ _ _ Go.refl sr rfl⟩
    · cases hm
  · cases hm
def int2 (g : Int → Int → Option W) : FA := fun us M => match us with
  | [.p (.int i), .p (.int j)] => (g i j).map fun w => (.p w, M)
  | _ => none
theorem vr_int2 {r : Int → Int → Hp → VK → Prop} {g : Int → Int → Option W} (h : ∀ F ρ H M i j w (Q : VK), Sr K F ρ H M → g i j = some w → (∀ F' ρ' H' v, Go F ρ H F' ρ' H' → Sr K F' ρ' H' M → RU K F' ρ' (.p w) v → Q v H') → r i j H Q) :
    VRA K (fun xs H Q => ∃ i j, xs = [.int i, .int j] ∧ r i j H Q) (int2 g) := by
  intro F ρ H M x u c M' Q sr ru hm k
  unfold int2 at hm
  split at hm
  · rename_i i j
    obtain ⟨w, e1, e2⟩ := Option.map_eq_some_iff.mp hm
    cases e2
    obtain ⟨v, vt, rfl, r0, v2, vt2, rfl, r2, rfl⟩ := ru
    cases r0
    cases r2
    exact ⟨i, j, rfl, h F ρ H _ i j w Q sr e1 k⟩
  · cases hm
def dmU : FA := int2 fun i j => if 0 < j ∧ j.natAbs.log2 < 9000 then some (.tup [.int (i / j), .int (i % j)]) else none
theorem vr_dm : VRA K (fun xs H Q => ∃ i j, xs = [.int i, .int j] ∧ CDm i j ∧ ∀ p, H p = none → Q (.ref p) (upd H p (.tup [.int (i / j), .int (i % j)]))) dmU :=
  vr_int2 (r := fun i j H Q => CDm i j ∧ ∀ p, H p = none → Q (.ref p) (upd H p (.tup [.int (i / j), .int (i % j)]))) fun _ _ _ _ i j w Q sr e k => by
    split at e
    · rename_i h
      cases e
      exact ⟨h, fun p hp => new_tup (ws := [.int (i / j), .int (i % j)]) sr ⟨_, _, rfl, rfl, _, _, rfl, rfl, rfl⟩ k hp⟩
    · cases e
def mx2 : FA := int2 fun i j => some (.int (if j > i then j else i))
theorem vr_mx2 : VRA K (fun xs H Q => ∃ i j, xs = [.int i, .int j] ∧ Q (.int (if j > i then j else i)) H) mx2 := vr_int2 (r := fun i j H Q => Q (.int (if j > i then j else i)) H) fun _ _ _ _ i j w Q sr e k => by cases e; exact k _ _ _ _ Go.refl sr rfl
def mn2 : FA := int2 fun i j => some (.int (if j < i then j else i))
theorem vr_mn2 : VRA K (fun xs H Q => ∃ i j, xs = [.int i, .int j] ∧ Q (.int (if j < i then j else i)) H) mn2 := vr_int2 (r := fun i j H Q => Q (.int (if j < i then j else i)) H) fun _ _ _ _ i j w Q sr e k => by cases e; exact k _ _ _ _ Go.refl sr rfl
/-! sum, max, min of a list of ints; all, any -/
def toInts : List W → Option (List Int)
  | [] => some []
  | .int i :: r => (toInts r).map (i :: ·)
  | _ :: _ => none
theorem toInts_ok {F : Hp} : ∀ {ws : List W} {ys : List Int} {vs : List V}, toInts ws = some ys → RpL K F ws vs → vs = ys.map V.int
  | [], _, _, h, r => by cases h; cases r; rfl
  | w :: ws, _, _, h, r => by
    obtain ⟨u, us, rfl, q, t⟩ := r
    unfold toInts at h
    split at h
    · rename_i heq; cases heq
    · rename_i x r' heq
      cases heq
      obtain ⟨ys, e, rfl⟩ := Option.map_eq_some_iff.mp h
      cases q
      rw [toInts_ok e t]
      rfl
    · cases h
def toBls : List W → Option (List Bool)
  | [] => some []
  | .bl i :: r => (toBls r).map (i :: ·)
  | _ :: _ => none
theorem toBls_ok {F : Hp} : ∀ {ws : List W} {ys : List Bool} {vs : List V}, toBls ws = some ys → RpL K F ws vs → vs = ys.map V.bl
  | [], _, _, h, r => by cases h; cases r; rfl
  | w :: ws, _, _, h, r => by
    obtain ⟨u, us, rfl, q, t⟩ := r
    unfold toBls at h
    split at h
    · rename_i heq; cases heq
    · rename_i x r' heq
      cases heq
      obtain ⟨ys, e, rfl⟩ := Option.map_eq_some_iff.mp h
      cases q
      rw [toBls_ok e t]
      rfl
    · cases h
def lstI (g : List Int → Option Int) : FA := fun us M => match us with
  | [u] => (seqL M u).bind fun ws => (toInts ws).bind fun ns => (g ns).map fun i => (.p (.int i), M)
  | _ => none
def sumU : FA := lstI fun ns => some ns.sum
def maxL : List Int → Int
  | [] => 0
  | [a] => a
  | a :: b :: r => max a (maxL (b :: r))
def minL : List Int → Int
  | [] => 0
  | [a] => a
  | a :: b :: r => min a (minL (b :: r))
def maxU : FA := lstI fun ns => if ns = [] then none else some (maxL ns)
def minU : FA := lstI fun ns => if ns = [] then none else some (minL ns)
theorem maxL_mem : ∀ {ns : List Int}, ns ≠ [] → maxL ns ∈ ns ∧ ∀ y ∈ ns, y ≤ maxL ns
  | [a], _ => by simp [maxL]
  | a :: b :: r, _ => by
    obtain ⟨h1, h2⟩ := maxL_mem (ns := b :: r) (by simp)
    unfold maxL
    refine ⟨?_, fun y hy => ?_⟩
    · by_cases h : a ≤ maxL (b :: r)
      · rw [Int.max_eq_right h]; exact List.mem_cons_of_mem _ h1
      · rw [Int.max_eq_left (by omega)]; simp
    · rcases List.mem_cons.mp hy with rfl | hy
      · exact Int.le_max_left _ _
      · exact Int.le_trans (h2 y hy) (Int.le_max_right _ _)
theorem minL_mem : ∀ {ns : List Int}, ns ≠ [] → minL ns ∈ ns ∧ ∀ y ∈ ns, minL ns ≤ y
  | [a], _ => by simp [minL]
  | a :: b :: r, _ => by
    obtain ⟨h1, h2⟩ := minL_mem (ns := b :: r) (by simp)
    unfold minL
    refine ⟨?_, fun y hy => ?_⟩
    · by_cases h : a ≤ minL (b :: r)
      · rw [Int.min_eq_left h]; simp
      · rw [Int.min_eq_right (by omega)]; exact List.mem_cons_of_mem _ h1
    · rcases List.mem_cons.mp hy with rfl | hy
      · exact Int.min_le_left _ _
      · exact Int.le_trans (Int.min_le_right _ _) (h2 y hy)
theorem lstI_ok {F H : Hp} {ρ : List Addr} {M M' : Mm} {x : List V} {u : List U} {c : U} {g : List Int → Option Int} (sr : Sr K F ρ H M) (ru : RUs K F ρ u x) (hm : lstI g u M = some (c, M')) : M' = M ∧ ∃ a ns i, x = [V.ref a] ∧ SqL K H a (ns.map V.int) ∧ g ns = some i ∧ c = .p (.int i) := by
  unfold lstI at hm
  split at hm
  · obtain ⟨ws, e1, hm⟩ := bind2 hm
    obtain ⟨ns, e2, hm⟩ := bind2 hm
    obtain ⟨i, e3, e4⟩ := Option.map_eq_some_iff.mp hm
    cases e4
    obtain ⟨v, vt, rfl, r0, rfl⟩ := ru
    obtain ⟨a, vs, rfl, h1, r1⟩ := sr.seqL e1 r0
    have e5 := toInts_ok e2 r1
    subst e5
    exact ⟨rfl, a, ns, i, rfl, h1, e3, rfl⟩
  · cases hm
theorem vr_sum : VRA K (rSum K) sumU := by
  intro F ρ H M x u c M' Q sr ru hm k
  obtain ⟨rfl, a, ns, i, rfl, h1, e, rfl⟩ := lstI_ok sr ru hm
  cases e
  exact ⟨a, ns, rfl, h1, k _ _ _ _ Go.refl sr rfl⟩
theorem vr_max : VRA K (rMax K) maxU := by
  intro F ρ H M x u c M' Q sr ru hm k
  obtain ⟨rfl, a, ns, i, rfl, h1, e, rfl⟩ := lstI_ok sr ru hm
  split at e
  · cases e
  · rename_i hne
    cases e
    obtain ⟨h2, h3⟩ := maxL_mem hne
    refine ⟨a, ns, rfl, h1, List.length_pos_iff.mpr hne, fun m hm1 hm2 => ?_⟩
    have : m = maxL ns := Int.le_antisymm (h3 m hm1) (hm2 _ h2)
    subst this
    exact k _ _ _ _ Go.refl sr rfl
theorem vr_min : VRA K (rMin K) minU := by
  intro F ρ H M x u c M' Q sr ru hm k
  obtain ⟨rfl, a, ns, i, rfl, h1, e, rfl⟩ := lstI_ok sr ru hm
  split at e
  · cases e
  · rename_i hne
    cases e
    obtain ⟨h2, h3⟩ := minL_mem hne
    refine ⟨a, ns, rfl, h1, List.length_pos_iff.mpr hne, fun m hm1 hm2 => ?_⟩
    have : m = minL ns := Int.le_antisymm (hm2 _ h2) (h3 m hm1)
    subst this
    exact k _ _ _ _ Go.refl sr rfl
def lstB (g : List Bool → Bool) : FA := fun us M => match us with
  | [u] => (seqL M u).bind fun ws => (toBls ws).map fun ns => (.p (.bl (g ns)), M)
  | _ => none
def allU : FA := lstB fun bs => bs.all id
def anyU : FA := lstB fun bs => bs.any id
theorem lstB_ok {F H : Hp} {ρ : List Addr} {M M' : Mm} {x : List V} {u : List U} {c : U} {g : List Bool → Bool} (sr : Sr K F ρ H M) (ru : RUs K F ρ u x) (hm : lstB g u M = some (c, M')) : M' = M ∧ ∃ a ns, x = [V.ref a] ∧ SqL K H a (ns.map V.bl) ∧ c = .p (.bl (g ns)) := by
  unfold lstB at hm
  split at hm
  · obtain ⟨ws, e1, hm⟩ := bind2 hm
    obtain ⟨ns, e2, e4⟩ := Option.map_eq_some_iff.mp hm
    cases e4
    obtain ⟨v, vt, rfl, r0, rfl⟩ := ru
    obtain ⟨a, vs, rfl, h1, r1⟩ := sr.seqL e1 r0
    have e5 := toBls_ok e2 r1
    subst e5
    exact ⟨rfl, a, ns, rfl, h1, rfl⟩
  · cases hm
theorem vr_all : VRA K (rAll K) allU := by
  intro F ρ H M x u c M' Q sr ru hm k
  obtain ⟨rfl, a, ns, rfl, h1, rfl⟩ := lstB_ok sr ru hm
  exact ⟨a, ns, rfl, h1, k _ _ _ _ Go.refl sr rfl⟩
theorem vr_any : VRA K (rAny K) anyU := by
  intro F ρ H M x u c M' Q sr ru hm k
  obtain ⟨rfl, a, ns, rfl, h1, rfl⟩ := lstB_ok sr ru hm
  exact ⟨a, ns, rfl, h1, k _ _ _ _ Go.refl sr rfl⟩
/-! tuple(..), list(..) -/
def tupU : FA := fun us M => match us with
  | [u] => match seqL M u with
    | some ws => some (.p (.tup ws), M)
    | none => (seqT u).map fun _ => (u, M)
  | _ => none
theorem vr_tup : VRA K (fun xs H Q => ∃ p ys, xs = [.ref p] ∧ ((SqL K H p ys ∧ ∀ l, H l = none → Q (.ref l) (upd H l (.tup ys))) ∨ (SqT K H p ys ∧ Q (.ref p) H))) tupU := by
  intro F ρ H M x u c M' Q sr ru hm k
  unfold tupU at hm
  split at hm
  · obtain ⟨v, vt, rfl, r0, rfl⟩ := ru
    split at hm
    · rename_i e
      cases hm
      obtain ⟨a, vs, rfl, h1, r1⟩ := sr.seqL e r0
      exact ⟨a, vs, rfl, .inl ⟨h1, fun l hl => new_tup sr r1 k hl⟩⟩
    · obtain ⟨ws, e1, e2⟩ := Option.map_eq_some_iff.mp hm
      cases e2
      obtain ⟨a, vs, rfl, h1, r1⟩ := seqT_ok sr e1 r0
      exact ⟨a, vs, rfl, .inr ⟨h1, k _ _ _ _ Go.refl sr r0⟩⟩
  · cases hm
def listU : FA := fun us M => match us with
  | [u] => match (seqL M u).orElse (fun _ => seqT u) with
    | some ws => some (.p (.lst ws), M)
    | none => none
  | _ => none
theorem vr_list : VRA K (fun xs H Q => ∃ p ys, xs = [.ref p] ∧ (SqL K H p ys ∨ SqT K H p ys) ∧ ∀ l, H l = none → Q (.ref l) (upd H l (.lst ys))) listU := by
  intro F ρ H M x u c M' Q sr ru hm k
  unfold listU at hm
  split at hm
  · obtain ⟨v, vt, rfl, r0, rfl⟩ := ru
    split at hm
    · rename_i e
      cases hm
      obtain ⟨p, vs, rfl, h1, r1⟩ := seq_ok sr e r0
      exact ⟨p, vs, rfl, h1, fun l hl => new_lst sr r1 k hl⟩
    · cases hm
  · cases hm
/-! repr of data -/
mutual
theorem datW_dv {F H : Hp} (s : Same F H) : ∀ {w : W} {d : PyData} {v : V}, datW w = some d → Rp K F w v → DatV H v d
  | .non, _, _, h, r => by cases h; cases r; exact .non
  | .bl b, _, _, h, r => by cases h; cases r; exact .bl b
  | .int i, _, _, h, r => by cases h; cases r; exact .int i
  | .str x, _, _, h, r => by cases h; cases r; exact .str x
  | .tup ws, _, _, h, r => by
    obtain ⟨ds, e, rfl⟩ := Option.map_eq_some_iff.mp (show (datL ws).map PyData.tuple = _ from h)
    obtain ⟨a, vs, rfl, f, q⟩ := r
    exact .tup (s _ _ f) (datL_dv s e q)
  | .lst ws, _, _, h, r => by
    obtain ⟨ds, e, rfl⟩ := Option.map_eq_some_iff.mp (show (datL ws).map PyData.list = _ from h)
    obtain ⟨a, vs, rfl, f, q⟩ := r
    exact .lst (s _ _ f) (datL_dv s e q)
  | .ty _, _, _, h, _ => by cases h
  | .cls _, _, _, h, _ => by cases h
  | .frz _, _, _, h, _ => by cases h
  | .kt _, _, _, h, _ => by cases h
  | .dic _, _, _, h, _ => by cases h
  | .ins _ _, _, _, h, _ => by cases h
  | .tself, _, _, h, _ => by cases h
theorem datL_dv {F H : Hp} (s : Same F H) : ∀ {ws : List W} {ds : List PyData} {vs : List V}, datL ws = some ds → RpL K F ws vs → DatVs H vs ds
  | [], _, _, h, r => by cases h; cases r; exact .nil
  | w :: ws, _, _, h, r => by
    obtain ⟨d, e1, h⟩ := bind2 (show (datW w).bind (fun d => (datL ws).map fun ds => d :: ds) = _ from h)
    obtain ⟨ds, e2, rfl⟩ := Option.map_eq_some_iff.mp h
    obtain ⟨u, us, rfl, q, t⟩ := r
    exact .cons (datW_dv s e1 q) (datL_dv s e2 t)
end
def okD (d : PyData) : Bool := d.showable && (!d.hasDict && (decide (d.depth ≤ 20) && decide (d.shown.length ≤ 1000000)))
def repU : FA := fun us M => match us with
  | [.p (.tup ws)] => (datL ws).bind fun ds => if okD (.tuple ds) = true then some (.p (.str (PyData.tuple ds).shown), M) else none
  | [.p (.lst ws)] => (datL ws).bind fun ds => if okD (.list ds) = true then some (.p (.str (PyData.list ds).shown), M) else none
  | _ => none
theorem okD_ok {d : PyData} (h : okD d = true) : d.showable = true ∧ d.hasDict = false ∧ d.depth ≤ 20 ∧ d.shown.length ≤ sizeLine := by
  unfold okD at h
  simp only [Bool.and_eq_true, decide_eq_true_eq, Bool.not_eq_true'] at h
  exact ⟨h.1, h.2.1, h.2.2.1, sz_ok h.2.2.2⟩
theorem vr_rep : VRA K rReprD repU := by
  intro F ρ H M x u c M' Q sr ru hm k
  unfold repU at hm
  split at hm
  · obtain ⟨ds, e1, hm⟩ := bind2 hm
    split at hm
    · rename_i hok
      cases hm
      obtain ⟨v, vt, rfl, ⟨a, vs, rfl, f, q⟩, rfl⟩ := ru
      obtain ⟨h1, h2, h3, h4⟩ := okD_ok hok
      exact ⟨a, _, rfl, .tup (sr.sub _ _ f) (datL_dv sr.sub e1 q), h1, h2, h3, h4, k _ _ _ _ Go.refl sr rfl⟩
    · cases hm
  · obtain ⟨ds, e1, hm⟩ := bind2 hm
    split at hm
    · rename_i hok
      cases hm
      obtain ⟨v, vt, rfl, ⟨a, vs, rfl, f, q⟩, rfl⟩ := ru
      obtain ⟨h1, h2, h3, h4⟩ := okD_ok hok
      exact ⟨a, _, rfl, .lst (sr.sub _ _ f) (datL_dv sr.sub e1 q), h1, h2, h3, h4, k _ _ _ _ Go.refl sr rfl⟩
    · cases hm
  · cases hm
/-! isinstance -/
inductive Cl where
  | ty (n : String) | own (x : Str)
  deriving DecidableEq
def clV (K : PySem.W.Frag) : Cl → Value
  | .ty n => .type n
  | .own x => .ref (ga K x)
def clU (M : Mm) : U → Option Cl
  | .p .non => some (.ty "NoneType")
  | .p (.bl _) => some (.ty "bool")
  | .p (.int _) => some (.ty "int")
  | .p (.str _) => some (.ty "str")
  | .p (.tup _) => some (.ty "tuple")
  | .p (.lst _) => some (.ty "list")
  | .p (.dic _) => some (.ty "dict")
  | .p (.ins c _) => some (.own c)
  | .m i => match M[i]? with
    | some (.lst _) => some (.ty "list")
    | some (.ins c _) => some (.own c)
    | _ => none
  | .ts _ => some (.ty "tuple")
  | _ => none
/-- the own classes' facts for isinstance; which answers are known -/
structure IsiT (K : PySem.W.Frag) (own : Str → Bool) (kit : Cl → Cl → Option Bool) : Prop where
  cl : ∀ x, own x = true → Cls K (ga K x) ∧ fIsi x K = true
  kit : ∀ t c b, kit t c = some b → PySem.W.kitOne K (clV K t) (clV K c) = some b
theorem clU_ok {own : Str → Bool} {kit : Cl → Cl → Option Bool} (T : IsiT K own kit) {F H : Hp} {ρ : List Addr} {M : Mm} {u : U} {x : V} {c : Cl} (sr : Sr K F ρ H M) (r : RU K F ρ u x) (h : clU M u = some c) (ho : ∀ y, c = .own y → own y = true) : TyX K H x (clV K c) := by
  unfold clU at h
  split at h
  · cases h; cases r; exact .base .non
  · cases h; cases r; exact .base (.bl _)
  · cases h; cases r; exact .base (.int _)
  · cases h; cases r; exact .base (.str _)
  · cases h; obtain ⟨a, vs, rfl, f, q⟩ := r; exact .base (.tup (sr.sub _ _ f))
  · cases h; obtain ⟨a, vs, rfl, f, q⟩ := r; exact .base (.lst (sr.sub _ _ f))
  · cases h; obtain ⟨a, vs, rfl, f, q⟩ := r; exact .base (.dK (sr.sub _ _ f))
  · cases h
    obtain ⟨a, dx, gs, rfl, f, q⟩ := r
    obtain ⟨h1, h2⟩ := T.cl _ (ho _ rfl)
    exact .base (fIsi_ok h2 h1 (sr.sub _ _ f))
  · split at h
    · rename_i e
      cases h
      obtain ⟨a, ha, rfl⟩ := r
      obtain ⟨vs, e3, q⟩ := sr.cellL e ha
      exact .base (.lst e3)
    · rename_i e
      cases h
      obtain ⟨a, ha, rfl⟩ := r
      obtain ⟨f0, dx, gs, e3, q⟩ := sr.cell _ _ a e ha
      obtain ⟨h1, h2⟩ := T.cl _ (ho _ rfl)
      exact .base (fIsi_ok h2 h1 e3)
    · cases h
  · cases h
    obtain ⟨a, t, ha, rfl, f⟩ := r
    exact .base (.tup (sr.sub _ _ f))
  · cases h
def ownOk (own : Str → Bool) : Cl → Bool
  | .own x => own x
  | .ty _ => true
def isiU (own : Str → Bool) (kit : Cl → Cl → Option Bool) : FA := fun us M => match us with
  | [u, .p (.ty n)] => (clU M u).bind fun c => if ownOk own c = true then (kit c (.ty n)).map fun b => (.p (.bl b), M) else none
  | [u, .p (.cls x)] => (clU M u).bind fun c => if ownOk own c = true then (kit c (.own x)).map fun b => (.p (.bl b), M) else none
  | _ => none
theorem vr_isi {own : Str → Bool} {kit : Cl → Cl → Option Bool} (T : IsiT K own kit) : VRA K (rIsi K) (isiU own kit) := by
  intro F ρ H M x u c M' Q sr ru hm k
  unfold isiU at hm
  split at hm
  · obtain ⟨cl, e1, hm⟩ := bind2 hm
    split at hm
    · rename_i hown
      obtain ⟨b, e2, e3⟩ := Option.map_eq_some_iff.mp hm
      cases e3
      obtain ⟨v, vt, rfl, r0, v2, vt2, rfl, r2, rfl⟩ := ru
      cases r2
      exact ⟨v, _, _, _, b, rfl, .ty _, clU_ok T sr r0 e1 (fun y hy => by subst hy; exact hown), T.kit _ _ _ e2, k _ _ _ _ Go.refl sr rfl⟩
    · cases hm
  · obtain ⟨cl, e1, hm⟩ := bind2 hm
    split at hm
    · rename_i hown
      obtain ⟨b, e2, e3⟩ := Option.map_eq_some_iff.mp hm
      cases e3
      obtain ⟨v, vt, rfl, r0, v2, vt2, rfl, r2, rfl⟩ := ru
      cases r2
      exact ⟨v, _, _, _, b, rfl, .own _, clU_ok T sr r0 e1 (fun y hy => by subst hy; exact hown), T.kit _ _ _ e2, k _ _ _ _ Go.refl sr rfl⟩
    · cases hm
  · cases hm
end
/-! f-strings -/
abbrev Js := Sl → Mm → Str → Option (Str × Mm)
def jNil : Js := fun _ M acc => some (acc, M)
def jCons (e : E) (r : Js) : Js := fun us M acc => (e us M).bind fun x => match x.1 with
  | .p (.str y) => if (acc ++ y).length ≤ 1000000 then r us x.2 (acc ++ y) else none
  | _ => none
def mJoin (j : Js) : E := fun us M => (j us M Str.empty).map fun x => (.p (.str x.1), x.2)
def mFmt (e : E) : E := fun us M => (e us M).bind fun x => match x.1 with
  | .p (.str y) => if y.length ≤ 1000000 then some (.p (.str y), x.2) else none
  | .p (.int i) => if i.natAbs.log2 < 1920 then some (.p (.str (intStr i)), x.2) else none
  | _ => none
section
variable {X : Cx} {K : PySem.W.Frag} {pos : Pos} {e : Expr} {m : E}
theorem ew_fmt (h : EW X K e m) : EW X K (.FormattedValue e (-1) none pos) (mFmt m) := by
  refine (pe_fmt h).weak fun σ H Q ⟨F, ρ, us, M, u, M', sr, sv, hm, k⟩ => ?_
  obtain ⟨⟨x, M1⟩, e1, e2⟩ := bind2 hm
  refine ⟨F, ρ, us, M, x, M1, sr, sv, e1, fun F1 ρ1 H1 v g1 sr1 r1 => ?_⟩
  dsimp only at e2
  split at e2
  · split at e2
    · rename_i y hl
      cases e2; cases r1
      exact .inl ⟨_, rfl, sz_ok hl, k _ _ _ _ g1 sr1 rfl⟩
    · cases e2
  · split at e2
    · rename_i y hl
      cases e2; cases r1
      exact .inr ⟨_, rfl, hl, k _ _ _ _ g1 sr1 rfl⟩
    · cases e2
  · cases e2
/-- the parts of an f-string -/
structure JW (X : Cx) (K : PySem.W.Frag) (es : List Expr) (j : Js) : Prop where
  ex : ∃ ts, PJ X es ts ∧ ∀ σ F ρ us M acc out M' (Q : Str → Hp → Prop) H, Sr K F ρ H M → Sv K F ρ us σ → j us M acc = some (out, M') → (∀ F' ρ' H', Go F ρ H F' ρ' H' → Sr K F' ρ' H' M' → Q out H') → tJs ts acc σ H Q
theorem jw_nil : JW X K [] jNil := ⟨[], .nil, fun σ F ρ us M acc out M' Q H sr sv hm k => by cases hm; exact k F ρ H Go.refl sr⟩
theorem jw_cons {es : List Expr} {j : Js} (h : EW X K e m) (r : JW X K es j) : JW X K (e :: es) (jCons m j) := by
  obtain ⟨ts, p, q⟩ := r.ex
  refine ⟨_, .cons h p, fun σ F ρ us M acc out M' Q H sr sv hm k => ?_⟩
  obtain ⟨⟨x, M1⟩, e1, e2⟩ := bind2 hm
  refine ⟨F, ρ, us, M, x, M1, sr, sv, e1, fun F1 ρ1 H1 v g1 sr1 r1 => ?_⟩
  dsimp only at e2
  split at e2
  · split at e2
    · rename_i y hl
      cases r1
      exact ⟨_, rfl, sz_ok hl, q σ F1 ρ1 us M1 _ out M' Q H1 sr1 (sv.mono g1.sf g1.pre) e2 fun F' ρ' H' g2 => k F' ρ' H' (g1.trans g2)⟩
    · cases e2
  · cases e2
theorem ew_join {v1 v2 : Expr} {rest : List Expr} {j : Js} (h : JW X K (v1 :: v2 :: rest) j) : EW X K (.JoinedStr (v1 :: v2 :: rest) pos) (mJoin j) := by
  obtain ⟨ts, p, q⟩ := h.ex
  refine (pe_joined p).weak fun σ H Q ⟨F, ρ, us, M, u, M', sr, sv, hm, k⟩ => ?_
  obtain ⟨⟨x, M1⟩, e1, e2⟩ := Option.map_eq_some_iff.mp hm
  cases e2
  exact q σ F ρ us M _ x _ _ H sr sv e1 fun F' ρ' H' g sr' => k F' ρ' H' _ g sr' rfl
theorem ew_join1 (h : EW X K e m) : EW X K (.JoinedStr [e] pos) m := pe_joined1 h
end
end Pz
/-! ### defs, calls, classes -/
namespace Pz
open PySem PySem.Spec PyProof.Rows L2 Rt He
/-- a def's promise by its mirror -/
def spW (K : PySem.W.Frag) (f : FA) : Sp := fun vs H Q _ => ∃ F ρ us M u M', Sr K F ρ H M ∧ RUs K F ρ us vs ∧ f us M = some (u, M') ∧ ∀ F' ρ' H' v, Go F ρ H F' ρ' H' → Sr K F' ρ' H' M' → RU K F' ρ' u v → Q v H'
/-- how a def's answer leaves it -/
def FinOk (K : PySem.W.Frag) (fin : Nat → U → Mm → Option (U × Mm)) : Prop := ∀ F ρ H M F1 ρ1 H1 M1 u c M' v, Sr K F ρ H M → Go F ρ H F1 ρ1 H1 → Sr K F1 ρ1 H1 M1 → RU K F1 ρ1 u v → fin M.length u M1 = some (c, M') → ∃ F2 ρ2, Go F ρ H F2 ρ2 H1 ∧ Sr K F2 ρ2 H1 M' ∧ RU K F2 ρ2 c v
/-- lists and new instances become what is read only -/
def finP (n : Nat) (u : U) (M : Mm) : Option (U × Mm) := match u with
  | .p w => some (.p w, M.take n)
  | .m i => if i < n then some (.m i, M.take n) else match M[i]? with
    | some (.lst ws) => some (.p (.lst ws), M.take n)
    | some (.ins c fs) => some (.p (.ins c fs), M.take n)
    | some (.dic ws) => some (.p (.dic ws), M.take n)
    | _ => none
  | .ts _ => none
/-- a def that makes no cells -/
def finN (_ : Nat) (u : U) (M : Mm) : Option (U × Mm) := match u with
  | .p w => some (.p w, M)
  | _ => none
/-- a new cell stays one -/
def finC (n : Nat) (u : U) (M : Mm) : Option (U × Mm) := match u with
  | .m i => if i < n then none else match M[i]? with
    | some c => some (.m n, M.take n ++ [c])
    | none => none
  | _ => none
section
variable {K : PySem.W.Frag} {F F' H H1 : Hp} {ρ ρ1 : List Addr} {M M1 : Mm}
theorem Sr.back (s : Sr K F ρ H M) {n : Nat} (h : n = M.length) : Sr K F (ρ.take n) H (M.take n) := s.take n
theorem take_pre {α : Type} {l l' : List α} (h : l <+: l') : l'.take l.length = l := by
  obtain ⟨t, rfl⟩ := h
  simp
theorem finP_ok : FinOk K finP := by
  intro F ρ H M F1 ρ1 H1 M1 u c M' v sr g sr1 r h
  have hl := sr.len
  have e0 : ρ1.take M.length = ρ := by rw [← hl]; exact take_pre g.pre
  have bk : ∀ {F2 : Hp}, Go F ρ H F2 ρ1 H1 → Go F ρ H F2 ρ H1 := fun g => by
    have := g.back
    rw [take_pre g.pre] at this
    exact this
  have tk : ∀ {F2 : Hp} {M2 : Mm}, Sr K F2 ρ1 H1 M2 → Sr K F2 ρ H1 (M2.take M.length) := fun s => by
    have := s.take M.length
    rw [e0] at this
    exact this
  have fz : ∀ {i : Nat} {d : C} {o : HO} {a : Addr}, ¬ i < M.length → M1[i]? = some d → d ≠ .dead → ρ1[i]? = some a → H1 a = some o → (∀ ps, o ≠ .tbl ps) → Go F ρ H (upd F1 a o) ρ H1 ∧ Sr K (upd F1 a o) ρ H1 (M1.take M.length) ∧ Same F1 (upd F1 a o) := fun {i d o a} hi hd hne ha ho hot => by
    obtain ⟨s1, s2⟩ := sr1.freeze hd hne ha ho hot
    have hf := ((sr1.cell i d a hd ha).free hne).1
    have gz := g.trans (Go.frz (H := H1) (o := o) (List.mem_of_getElem? ha) hf)
    have t1 := tk s1
    rw [List.take_set_of_le (by omega)] at t1
    exact ⟨bk gz, t1, s2⟩
  cases u with
  | p w => cases h; exact ⟨F1, ρ, bk g, tk sr1, r⟩
  | ts i => cases h
  | m i =>
    obtain ⟨a, ha, rfl⟩ := r
    unfold finP at h
    dsimp only at h
    split at h
    · rename_i hi
      cases h
      refine ⟨F1, ρ, bk g, tk sr1, a, ?_, rfl⟩
      rw [← e0, List.getElem?_take, if_pos hi]
      exact ha
    · rename_i hi
      split at h
      · rename_i ws e
        cases h
        obtain ⟨f0, vs, e3, q⟩ := sr1.cell i _ a e ha
        obtain ⟨g2, s2, sm⟩ := fz hi e (fun z => by cases z) ha e3 (fun _ z => by cases z)
        exact ⟨_, ρ, g2, s2, a, vs, rfl, upd_same, q.mono sm⟩
      · rename_i cn fs e
        cases h
        obtain ⟨f0, dx, gs, e3, q⟩ := sr1.cell i _ a e ha
        obtain ⟨g2, s2, sm⟩ := fz hi e (fun z => by cases z) ha e3 (fun _ z => by cases z)
        exact ⟨_, ρ, g2, s2, a, dx, gs, rfl, upd_same, q.mono sm⟩
      · rename_i ws e
        cases h
        obtain ⟨f0, vs, e3, q⟩ := sr1.cell i _ a e ha
        obtain ⟨g2, s2, sm⟩ := fz hi e (fun z => by cases z) ha e3 (fun _ z => by cases z)
        exact ⟨_, ρ, g2, s2, a, vs, rfl, upd_same, q.mono sm⟩
      · cases h
theorem finN_ok : FinOk K finN := by
  intro F ρ H M F1 ρ1 H1 M1 u c M' v sr g sr1 r h
  cases u with
  | p w => cases h; exact ⟨F1, ρ1, g, sr1, r⟩
  | ts i => cases h
  | m i => cases h
theorem finC_ok : FinOk K finC := by
  intro F ρ H M F1 ρ1 H1 M1 u c M' v sr g sr1 r h
  have hl := sr.len
  have e0 : ρ1.take M.length = ρ := by rw [← hl]; exact take_pre g.pre
  cases u with
  | p w => cases h
  | ts i => cases h
  | m i =>
    obtain ⟨a, ha, rfl⟩ := r
    unfold finC at h
    dsimp only at h
    split at h
    · cases h
    · rename_i hi
      split at h
      · rename_i d e
        cases h
        have t1 := sr1.take M.length
        rw [e0] at t1
        have hna : a ∉ ρ := fun z => by
          obtain ⟨j, hj, e2⟩ := List.getElem_of_mem z
          have e3 : ρ1[j]? = some a := pre_get g.pre (by rw [List.getElem?_eq_getElem hj, e2])
          have := nodup_at sr1.nd ha e3
          omega
        have hH : ∀ o, H a = some o → ¬ NT o := g.new a (List.mem_of_getElem? ha) hna
        refine ⟨F1, ρ ++ [a], ⟨g.sf, List.prefix_append _ _, fun x hx n => ?_, g.kp, g.fr⟩, ⟨sr1.sub, by simp [t1.len], ?_, fun x hx => ?_, fun j d' x h1 h2 => ?_, sr1.nt, fun j pp q x ps h1 h2 h3 => ?_⟩, a, ?_, rfl⟩
        · rcases List.mem_append.mp hx with hx | hx
          · exact absurd hx n
          · simp at hx; rw [hx]; exact hH
        · rw [List.nodup_append]
          exact ⟨t1.nd, by simp, fun x hx y hy => by simp at hy; subst hy; exact fun z => hna (z ▸ hx)⟩
        · rcases List.mem_append.mp hx with hx | hx
          · exact t1.occ x hx
          · simp at hx; rw [hx]; exact sr1.occ a (List.mem_of_getElem? ha)
        · have tl := t1.len
          by_cases hj : j < (M1.take M.length).length
          · rw [List.getElem?_append_left hj] at h1
            rw [List.getElem?_append_left (by omega)] at h2
            exact t1.cell j d' x h1 h2
          · rw [List.getElem?_append_right (by omega)] at h1
            rw [List.getElem?_append_right (by omega)] at h2
            have hj0 : j - (M1.take M.length).length = 0 := by
              have := (List.getElem?_eq_some_iff.mp h1).1
              simp at this; simp; omega
            have hj1 : j - ρ.length = 0 := by omega
            rw [hj0] at h1
            rw [hj1] at h2
            simp at h1 h2
            subst h1; subst h2
            exact sr1.cell i _ _ e ha
        · have tl := t1.len
          have cm : ∀ c q, H1 c = some (LamX.CodeO c q) → c ∉ ρ1 → H1 c = some (LamX.CodeO c q) ∧ c ∉ ρ ++ [a] := fun c q e2 n => ⟨e2, fun z => (List.mem_append.mp z).elim (fun z => n (g.pre.subset z)) fun z => n (by simp at z; rw [z]; exact List.mem_of_getElem? ha)⟩
          by_cases hj : j < (M1.take M.length).length
          · rw [List.getElem?_append_left hj, List.getElem?_take] at h1
            rw [List.getElem?_append_left (by omega)] at h2
            split at h1
            · exact (sr1.code j pp q x ps h1 (pre_get g.pre h2) h3).mono cm
            · cases h1
          · rw [List.getElem?_append_right (by omega)] at h1
            rw [List.getElem?_append_right (by omega)] at h2
            have hj0 : j - (M1.take M.length).length = 0 := by
              have := (List.getElem?_eq_some_iff.mp h1).1
              simp at this; simp; omega
            have hj1 : j - ρ.length = 0 := by omega
            rw [hj0] at h1
            rw [hj1] at h2
            simp at h1 h2
            subst h1; subst h2
            exact (sr1.code i pp q _ ps e ha h3).mono cm
        · rw [← hl]
          simp
      · cases h
end
/-- a def of np parameters, with nl further names -/
def mDef (np nl : Nat) (fin : Nat → U → Mm → Option (U × Mm)) (b : S) : FA := fun us M => if us.length = np then (b (us.map some ++ List.replicate nl none) M).bind fun x => match x with
    | (.nx, _, M1) => fin M.length (.p .non) M1
    | (.ret u, _, M1) => fin M.length u M1
    | _ => none
  else none
section
variable {P : Program} {w : World} {K : PySem.W.Frag} {mg : Str → Option Value} {base : Heap}
theorem spW_len {np nl : Nat} {fin : Nat → U → Mm → Option (U × Mm)} {b : S} {vs : List V} {H : Hp} {Q : VK} {E : XK} (h : spW K (mDef np nl fin b) vs H Q E) : vs.length = np := by
  obtain ⟨F, ρ, us, M, u, M', sr, r, hm, k⟩ := h
  unfold mDef at hm
  split at hm
  · rename_i hl
    rw [← r.length]
    exact hl
  · cases hm
theorem body_ok {np nl : Nat} {fin : Nat → U → Mm → Option (U × Mm)} {b : S} {N : List Str} {vs : List V} {H : Hp} {Q : VK} {E : XK} (hf : FinOk K fin) (hN : N.length = np + nl) (h : spW K (mDef np nl fin b) vs H Q E) :
    tWS K b { nx := fun _ H' => Q .non H', rt := Q } (L2.start N vs) H := by
  have hl := spW_len h
  obtain ⟨F, ρ, us, M, u, M', sr, r, hm, k⟩ := h
  unfold mDef at hm
  split at hm
  · obtain ⟨⟨fl, s1, M1⟩, e1, e2⟩ := bind2 hm
    have hs : Sv K F ρ (us.map some ++ List.replicate nl none) (L2.start N vs) := by
      unfold L2.start
      have e : N.length - vs.length = nl := by omega
      rw [e]
      exact Sv.start r nl
    refine ⟨F, ρ, _, M, fl, s1, M1, sr, hs, e1, fun F1 ρ1 H1 σ1 g1 sr1 => ?_⟩
    cases fl with
    | nx =>
      intro _
      obtain ⟨F2, ρ2, g2, s2, r2⟩ := hf F ρ H M F1 ρ1 H1 M1 (.p .non) u M' .non sr g1 sr1 rfl e2
      exact k F2 ρ2 H1 .non g2 s2 r2
    | ret u1 =>
      intro v rv
      obtain ⟨F2, ρ2, g2, s2, r2⟩ := hf F ρ H M F1 ρ1 H1 M1 u1 u M' v sr g1 sr1 rv e2
      exact k F2 ρ2 H1 v g2 s2 r2
    | brk => cases e2
    | ct => cases e2
  · cases hm
/-- a def of the text, by its body's mirror -/
theorem okW {x qual : Str} {st : Stmt} {dvs : List V} {f : Addr} {fd : FuncData} {N ps : List Str} {k nl : Nat} {fin : Nat → U → Mm → Option (U × Mm)} {b : S} (F : FnD K x qual st dvs f fd) (S : FnScope N ps (defScope st)) (hf : FinOk K fin) (hN : N.length = ps.length + nl)
    (hbody : ∀ (cdv : Value) (A : Around) (outer : List Env) (s : Shared) (H : Hp) (E : XK), Room k (A.deeper (envOfC qual (defScope st) s.heap.objs.size f cdv)) →
      SsW (cxOf (L2.CX P w) P w K mg base N qual (defScope st) f cdv A outer s H E).nox K (defBody st) b) : FnOk P w K mg base (L2.CX P w) (k + 1) f fd ps (spW K (mDef ps.length nl fin b)) :=
  okF F S (fun vs H Q E h => spW_len h) fun cdv A outer s H vs Q E hr h => ⟨_, hbody cdv A outer s H E hr, body_ok hf hN h⟩
theorem okWG {x qual : Str} {st : Stmt} {dvs : List V} {f : Addr} {fd : FuncData} {N ps : List Str} {k nl : Nat} {fin : Nat → U → Mm → Option (U × Mm)} {b : S} (F : FnD K x qual st dvs f fd) (S : FnScope N ps (defScope st)) (hf : FinOk K fin) (hN : N.length = ps.length + nl)
    (hbody : ∀ (cdv : Value) (A : Around) (outer : List Env) (s : Shared) (H : Hp) (E : XK), A.guards = some [] → Room k (A.deeper (envOfC qual (defScope st) s.heap.objs.size f cdv)) →
      SsW (cxOf (L2.CX P w) P w K mg base N qual (defScope st) f cdv A outer s H E).nox K (defBody st) b) : FnG P w K mg base (k + 1) f fd ps (spW K (mDef ps.length nl fin b)) :=
  okG F S (fun vs H Q E h => spW_len h) fun cdv A outer s H vs Q E hg hr h => ⟨_, hbody cdv A outer s H E hg hr, body_ok hf hN h⟩
end
/-! calls -/
section
variable {X : Cx} {K : PySem.W.Frag} {k j : Nat} {x m f : Str} {g : FA} {pos p apos : Pos} {o e : Expr} {es : List Expr} {ma : As} {mo : E}
theorem vra_sp : VRA K (fun vs H Q => spW K g (vs ++ []) H Q E0) g := by
  intro F ρ H M x u c M' Q sr ru hm k
  rw [List.append_nil]
  exact ⟨F, ρ, u, M, c, M', sr, ru, hm, k⟩
theorem ew_gd (c : Gd X.prog X.w X.K X.mg X.base k x (spW K g)) (hr : Room j X.A) (ha : AW X K (e :: es) ma) (hg : Gl X x := by rfl) (hk : k ≤ j := by decide)
    (hdb : (x == ("__debug__" : Str)) = false := by decide) (he : starEach (e :: es) X.env = (false, eval e X.env) :: starEach es X.env := by rfl) (hpl : (backTo pos (starEach es X.env)).any (·.1) = false := by rfl) :
    EW X K (.Call (.Name x p) (e :: es) [] pos) (mCall g ma) := (pe_gd c hr ha hg hk hdb he hpl).weak fun _ _ _ q => w_call vra_sp q
theorem ew_gd0 (c : Gd X.prog X.w X.K X.mg X.base k x (spW K g)) (hr : Room j X.A) (hg : Gl X x := by rfl) (hk : k ≤ j := by decide) (hdb : (x == ("__debug__" : Str)) = false := by decide) :
    EW X K (.Call (.Name x p) [] [] pos) (mCall g mNil) := (pe_gd0 c hr hg hk hdb).weak fun _ _ _ q => w_nil (w_call vra_sp q |> fun h => h)
theorem ew_gg (c : Gg X.prog X.w X.K X.mg X.base k x (spW K g)) (hG : X.A.guards = some []) (hr : Room j X.A) (ha : AW X K (e :: es) ma) (hg : Gl X x := by rfl) (hk : k ≤ j := by decide)
    (hdb : (x == ("__debug__" : Str)) = false := by decide) (he : starEach (e :: es) X.env = (false, eval e X.env) :: starEach es X.env := by rfl) (hpl : (backTo pos (starEach es X.env)).any (·.1) = false := by rfl) :
    EW X K (.Call (.Name x p) (e :: es) [] pos) (mCall g ma) := (pe_gg c hG hr ha hg hk hdb he hpl).weak fun _ _ _ q => w_call vra_sp q
/-! attributes -/
def lookF (f : Str) : List (Str × W) → Option W
  | [] => none
  | (g, w) :: r => if g = f then some w else lookF f r
def putW (f : Str) (w : W) : List (Str × W) → List (Str × W)
  | [] => [(f, w)]
  | (g, x) :: r => if g = f then (g, w) :: r else (g, x) :: putW f w r
/-- an instance of the class named c: its attributes -/
def insF (c : Str) (M : Mm) : U → Option (List (Str × W))
  | .p (.ins c' fs) => if c' = c then some fs else none
  | .m i => match M[i]? with
    | some (.ins c' fs) => if c' = c then some fs else none
    | _ => none
  | _ => none
theorem insF_ok {F H : Hp} {ρ : List Addr} {M : Mm} {c : Str} {u : U} {fs : List (Str × W)} {v : V} (sr : Sr K F ρ H M) (h : insF c M u = some fs) (r : RU K F ρ u v) : ∃ a dx gs, v = .ref a ∧ H a = some (.ins (ga K c) dx gs) ∧ RpF K F a fs gs := by
  unfold insF at h
  split at h
  · split at h
    · rename_i e
      subst e
      cases h
      obtain ⟨a, dx, gs, e2, ff, q⟩ := r
      exact ⟨a, dx, gs, e2, sr.sub _ _ ff, q⟩
    · cases h
  · split at h
    · rename_i hc
      split at h
      · rename_i e
        subst e
        cases h
        obtain ⟨a, ha, rfl⟩ := r
        obtain ⟨f0, dx, gs, e3, q⟩ := sr.cell _ _ a hc ha
        exact ⟨a, dx, gs, rfl, e3, q⟩
      · cases h
    · cases h
  · cases h
theorem lookF_ok {F : Hp} {a : Addr} {f : Str} : ∀ {fs : List (Str × W)} {gs : List (Str × V)}, RpF K F a fs gs → (∀ w, lookF f fs = some w → ∃ v, gs.lookup f = some v ∧ (Rp K F w v ∨ (w = .tself ∧ ∃ t, v = .ref t ∧ F t = some (.tup [.ref a])))) ∧ (lookF f fs = none → gs.lookup f = none)
  | [], _, r => by cases r; exact ⟨fun w h => (by cases h), fun _ => rfl⟩
  | (g, w) :: fs, _, r => by
    obtain ⟨u, us, rfl, q, t⟩ := r
    obtain ⟨h1, h2⟩ := lookF_ok t
    unfold lookF
    by_cases e : g = f
    · subst e
      rw [if_pos rfl]
      refine ⟨fun w' h => ?_, fun h => by cases h⟩
      cases h
      exact ⟨u, by simp [List.lookup], q⟩
    · rw [if_neg e]
      have e2 : (f == g) = false := by
        rw [beq_eq_false_iff_ne]
        exact fun z => e z.symm
      simp only [List.lookup, e2]
      exact ⟨h1, h2⟩
theorem putF_ok {F : Hp} {a : Addr} {f : Str} {w : W} {v : V} (hw : Rp K F w v ∨ (w = .tself ∧ ∃ t, v = .ref t ∧ F t = some (.tup [.ref a]))) : ∀ {fs : List (Str × W)} {gs : List (Str × V)}, RpF K F a fs gs → RpF K F a (putW f w fs) (putF f v gs)
  | [], _, r => by cases r; exact ⟨v, [], rfl, hw, rfl⟩
  | (g, x) :: fs, _, r => by
    obtain ⟨u, us, rfl, q, t⟩ := r
    unfold putW putF
    by_cases e : g = f
    · rw [if_pos e, if_pos e]
      exact ⟨v, us, rfl, hw, t⟩
    · rw [if_neg e, if_neg e]
      exact ⟨u, _, rfl, q, putF_ok hw t⟩
theorem RpF.length {F : Hp} {a : Addr} : ∀ {fs : List (Str × W)} {gs : List (Str × V)}, RpF K F a fs gs → fs.length = gs.length
  | [], _, r => by cases r; rfl
  | (_, _) :: _, _, r => by obtain ⟨u, us, rfl, _, l⟩ := r; simp [RpF.length l]
/-- an attribute as it is read -/
def rdF (o : U) (w : W) : Option U := match w with
  | .tself => match o with
    | .p i => some (.p (.tup [i]))
    | .m i => some (.ts i)
    | .ts _ => none
  | w => some (.p w)
def fldU (c f : Str) : F1 := fun u M => (insF c M u).bind fun fs => (lookF f fs).bind fun w => (rdF u w).map (·, M)
theorem ew_fld {c : Str} (cl : Cls K (ga K c)) (na : NoAttr K (ga K c) f) (he : EW X K e mo) (hK : X.K = K := by rfl) (hb : attributeBase e f X.env (eval e X.env) = eval e X.env := by rfl) : EW X K (.Attribute e f pos) (mUn (fldU c f) mo) := by
  subst hK
  refine (pe_fld he hb).weak fun σ H Q ⟨F, ρ, us, M, u, M', sr, sv, hm, k⟩ => ?_
  obtain ⟨⟨x, M1⟩, e1, hm⟩ := bind2 hm
  obtain ⟨fs, e2, hm⟩ := bind2 hm
  obtain ⟨w, e3, hm⟩ := bind2 hm
  obtain ⟨u', e4, e5⟩ := Option.map_eq_some_iff.mp hm
  cases e5
  refine ⟨F, ρ, us, M, x, _, sr, sv, e1, fun F1 ρ1 H1 v g1 sr1 r1 => ?_⟩
  obtain ⟨a, dx, gs, rfl, e6, q⟩ := insF_ok sr1 e2 r1
  obtain ⟨z, e7, q2⟩ := (lookF_ok (f := f) q).1 w e3
  refine ⟨a, _, dx, gs, z, rfl, e6, cl, na, e7, k _ _ _ _ g1 sr1 ?_⟩
  rcases q2 with q2 | ⟨rfl, t, rfl, ft⟩
  · unfold rdF at e4
    split at e4
    · exact q2.elim
    · cases e4
      exact q2
  · unfold rdF at e4
    dsimp only at e4
    split at e4
    · cases e4
      exact ⟨t, [.ref a], rfl, ft, .ref a, [], rfl, r1, rfl⟩
    · cases e4
      obtain ⟨a', ha, e8⟩ := r1
      cases e8
      exact ⟨a, t, ha, rfl, ft⟩
    · cases e4
def wrF (i : Nat) : U → Option W
  | .p w => some w
  | .ts j => if j = i then some .tself else none
  | .m _ => none
def stF (c f : Str) (o v : U) (M : Mm) : Option Mm := match o with
  | .m i => match M[i]? with
    | some (.ins c' fs) => if c' = c ∧ fs.length < 100 then (wrF i v).map fun w => M.set i (.ins c' (putW f w fs)) else none
    | _ => none
  | _ => none
def mStF (c f : Str) (o v : E) : S := fun us M => (v us M).bind fun x => (o us x.2).bind fun y => (stF c f y.1 x.1 y.2).map fun M3 => (.nx, us, M3)
theorem sw_fld {c : Str} {value : Expr} {pos' : Pos} {mv : E} (cl : Cls K (ga K c)) (na : NoAttr K (ga K c) f) (ho : EW X K o mo) (hv : EW X K value mv) (hK : X.K = K := by rfl) (hs : swapsWith value (some (.Attribute o f pos')) pos.line X.env = pure false := by rfl) : SW X K (.Assign [.Attribute o f pos'] value pos) (mStF c f mo mv) := by
  subst hK
  refine (ps_fld ho hv hs).weak fun D σ H ⟨F, ρ, us, M, fl, us', M', sr, sv, hm, k⟩ => ?_
  obtain ⟨⟨x, M1⟩, e1, hm⟩ := bind2 hm
  obtain ⟨⟨y, M2⟩, e2, hm⟩ := bind2 hm
  obtain ⟨M3, e3, e4⟩ := Option.map_eq_some_iff.mp hm
  cases e4
  refine ⟨F, ρ, us, M, x, M1, sr, sv, e1, fun F1 ρ1 H1 v g1 sr1 r1 => ⟨F1, ρ1, us, M1, y, M2, sr1, sv.mono g1.sf g1.pre, e2, fun F2 ρ2 H2 v2 g2 sr2 r2 => ?_⟩⟩
  have gg := g1.trans g2
  have r1' := r1.mono g2.sf g2.pre
  dsimp only at e3
  unfold stF at e3
  split at e3
  · rename_i i
    split at e3
    · rename_i c' fs hc
      split at e3
      · rename_i hcc
        obtain ⟨w, e5, e6⟩ := Option.map_eq_some_iff.mp e3
        cases e6
        obtain ⟨a, ha, rfl⟩ := r2
        obtain ⟨f0, dx, gs, e7, q⟩ := sr2.cell _ _ a hc ha
        obtain ⟨rfl, hfl⟩ := hcc
        have hw : Rp X.K F2 w v ∨ (w = .tself ∧ ∃ t, v = .ref t ∧ F2 t = some (.tup [.ref a])) := by
          unfold wrF at e5
          split at e5
          · cases e5; exact .inl r1'
          · split at e5
            · rename_i hj
              subst hj
              cases e5
              obtain ⟨a', t, ha', rfl, ft⟩ := r1'
              rw [ha] at ha'
              cases ha'
              exact .inr ⟨rfl, t, rfl, ft⟩
            · cases e5
          · cases e5
        refine ⟨a, _, dx, gs, rfl, e7, cl, na, by rw [← q.length]; omega, ?_⟩
        exact k F2 ρ2 _ σ (gg.trans (Go.write (List.mem_of_getElem? ha))) (sr2.write hc (fun z => by cases z) ha ⟨f0, dx, _, rfl, putF_ok hw q⟩) (sv.mono gg.sf gg.pre)
      · cases e3
    · cases e3
  · cases e3
/-! a new instance -/
def mkU (c : Str) (g : FA) (ds : List U) : FA := fun us M => (g (.m M.length :: (us ++ ds)) (M ++ [.ins c []])).bind fun x => match x.1 with
  | .p .non => match x.2[M.length]? with
    | some (.ins c' fs) => some (.p (.ins c' fs), x.2.take M.length)
    | _ => none
  | _ => none
/-- values that lean on nothing -/
def Flat (ds : List U) (dvs : List V) : Prop := ∀ K F ρ, RUs K F ρ ds dvs
theorem vra_mk {c : Str} {ds : List U} {dvs : List V} (hd : Flat ds dvs) : VRA K (fun vs H1 Q => ∀ x dx, H1 x = none → H1 dx = none → dx ≠ x → spW K g (.ref x :: (vs ++ dvs)) (upd (upd H1 dx (.own x)) x (.ins (ga K c) dx [])) (fun v H2 => v = .non ∧ Q (.ref x) H2) E0) (mkU c g ds) := by
  intro F ρ H M xs us cc M' Q sr ru hm k x dx hx hdx hne
  obtain ⟨⟨u1, M1⟩, e1, e2⟩ := bind2 hm
  have s1 : Sr K F ρ (upd H dx (.own x)) M := sr.updX (fun z => sr.occ dx z hdx) (sr.fnone hdx) (fun _ z => by rw [hdx] at z; cases z)
  have hx1 : upd H dx (.own x) x = none := by rw [upd_ne (Ne.symm hne)]; exact hx
  have f1 := s1.fnone hx1
  have s2 : Sr K F (ρ ++ [x]) (upd (upd H dx (.own x)) x (.ins (ga K c) dx [])) (M ++ [.ins c []]) := s1.newC hx1 ⟨f1, dx, [], rfl, rfl⟩
  have g1 : Go F ρ H F (ρ ++ [x]) (upd (upd H dx (.own x)) x (.ins (ga K c) dx [])) := (Go.hp hdx).trans (Sr.goC hx1)
  have hl := sr.len
  have hix : (ρ ++ [x])[M.length]? = some x := by rw [← hl]; simp
  refine ⟨F, ρ ++ [x], .m M.length :: (us ++ ds), _, u1, M1, s2, ⟨_, _, rfl, ⟨x, hix, rfl⟩, (ru.mono g1.sf g1.pre).append (hd _ _ _)⟩, e1, fun F2 ρ2 H2 v g2 sr2 r2 => ?_⟩
  dsimp only at e2
  split at e2
  · cases r2
    refine ⟨rfl, ?_⟩
    split at e2
    · rename_i c' fs hc
      cases e2
      have hx2 : ρ2[M.length]? = some x := pre_get g2.pre hix
      obtain ⟨F3, ρ3, g3, sr3, r3⟩ := finP_ok F ρ H M F2 ρ2 H2 M1 (.m M.length) (.p (.ins c' fs)) (M1.take M.length) (.ref x) sr (g1.trans g2) sr2 ⟨x, hx2, rfl⟩ (by
        unfold finP
        dsimp only
        rw [if_neg (Nat.lt_irrefl _), hc])
      exact k F3 ρ3 H2 _ g3 sr3 r3
    · cases e2
  · cases e2
theorem ew_mk {c : Str} {ds : List U} {dvs : List V} (cm : Mkr X.prog X.w X.K X.mg X.base k x (ga K c) (spW K g) dvs) (hd : Flat ds dvs) (hr : Room j X.A) (ha : AW X K (e :: es) ma) (hg : Gl X x := by rfl) (hk : k + 1 ≤ j := by decide)
    (hdb : (x == ("__debug__" : Str)) = false := by decide) (he : starEach (e :: es) X.env = (false, eval e X.env) :: starEach es X.env := by rfl) (hpl : (backTo pos (starEach es X.env)).any (·.1) = false := by rfl) :
    EW X K (.Call (.Name x p) (e :: es) [] pos) (mCall (mkU c g ds) ma) := (pe_mkr cm hr ha hg hk hdb he hpl).weak fun _ _ _ q => w_call (vra_mk hd) q
/-! methods, properties, classmethods -/
def meU (c m : Str) (g : FA) (o : U) : FA := fun us M => match insF c M o with
  | some fs => match lookF m fs with
    | none => g (o :: us) M
    | some _ => none
  | none => none
def mMe (c m : Str) (g : FA) (o : E) (a : As) : E := fun us M => (o us M).bind fun x => match insF c x.2 x.1 with
  | some fs => match lookF m fs with
    | none => (a us x.2).bind fun y => g (x.1 :: y.1) y.2
    | some _ => none
  | none => none
theorem ew_mth {c : Str} {pl : Sem Bool} (cm : Mth X.prog X.w X.K X.mg X.base k (ga K c) m (spW K g)) (hr : Room j X.A) (ho : EW X K o mo) (ha : AW X K (e :: es) ma) (hk : k ≤ j := by decide)
    (hst : starEach (e :: es) X.env = (false, eval e X.env) :: starEach es X.env := by rfl) (hpl : (backTo pos (starEach es X.env)).any (·.1) = false := by rfl)
    (ht : eval (.Call (.Attribute o m apos) (e :: es) [] pos) X.env = (do
      let ov ← eval o X.env
      standAt apos.atName
      let (f, first) ← holding [ov] (getMethod ov m pl)
      callWith pos f first (backTo pos (starEach (e :: es) X.env)) (backToKw pos (keywordEach [] X.env))) := by rfl) : EW X K (.Call (.Attribute o m apos) (e :: es) [] pos) (mMe c m g mo ma) := by
  refine (pe_mth cm hr ho ha hk hst hpl ht).weak fun σ H Q ⟨F, ρ, us, M, u, M', sr, sv, hm, k⟩ => ?_
  obtain ⟨⟨x, M1⟩, e1, hm⟩ := bind2 hm
  refine ⟨F, ρ, us, M, x, M1, sr, sv, e1, fun F1 ρ1 H1 v g1 sr1 r1 => ?_⟩
  dsimp only at hm
  split at hm
  · rename_i fs hf
    split at hm
    · rename_i hl
      obtain ⟨⟨y, M2⟩, e2, e3⟩ := bind2 hm
      obtain ⟨a, dx, gs, rfl, e6, q⟩ := insF_ok sr1 hf r1
      refine ⟨a, dx, gs, rfl, e6, (lookF_ok (f := m) q).2 hl, F1, ρ1, us, M1, y, M2, sr1, sv.mono g1.sf g1.pre, e2, fun F2 ρ2 H2 vs g2 sr2 r2 => ?_⟩
      exact ⟨F2, ρ2, x :: y, M2, u, M', sr2, ⟨_, _, rfl, r1.mono g2.sf g2.pre, by rw [List.append_nil]; exact r2⟩, e3, fun F' ρ' H' v' g3 => k F' ρ' H' v' ((g1.trans g2).trans g3)⟩
    · cases hm
  · cases hm
def prU (c : Str) (g : FA) : F1 := fun u M => match insF c M u with
  | some _ => g [u] M
  | none => none
theorem ew_prp {c : Str} (cm : Prp X.prog X.w X.K X.mg X.base k (ga K c) f (spW K g)) (hr : Room j X.A) (he : EW X K e mo) (hab : attributeBase e f X.env (eval e X.env) = eval e X.env := by rfl) (hk : k + 1 ≤ j := by decide) : EW X K (.Attribute e f pos) (mUn (prU c g) mo) := by
  refine (pe_prp cm hr he hab hk).weak fun σ H Q ⟨F, ρ, us, M, u, M', sr, sv, hm, k⟩ => ?_
  obtain ⟨⟨x, M1⟩, e1, hm⟩ := bind2 hm
  refine ⟨F, ρ, us, M, x, M1, sr, sv, e1, fun F1 ρ1 H1 v g1 sr1 r1 => ?_⟩
  unfold prU at hm
  dsimp only at hm
  split at hm
  · rename_i fs hf
    obtain ⟨a, dx, gs, rfl, e6, q⟩ := insF_ok sr1 hf r1
    exact ⟨a, dx, gs, rfl, e6, F1, ρ1, [x], M1, u, M', sr1, ⟨_, _, rfl, r1, rfl⟩, hm, fun F' ρ' H' v' g3 => k F' ρ' H' v' (g1.trans g3)⟩
  · cases hm
end
end Pz
/-! ### own operators -/
namespace Pz
open PySem PySem.Spec PyProof.Rows L2 Rt He
/-- an object, no scalar -/
def refU : U → Bool
  | .p (.tup _) => true
  | .p (.lst _) => true
  | .p (.ins _ _) => true
  | .p (.dic _) => true
  | .m _ => true
  | _ => false
def rf (x : Option (U × Mm)) : Option (U × Mm) := x.bind fun y => if refU y.1 = true then some y else none
section
variable {K : PySem.W.Frag} {F H : Hp} {ρ : List Addr} {M M' : Mm} {u c : U} {v : V}
theorem refU_ok (h : refU u = true) (r : RU K F ρ u v) : ∃ a, v = .ref a := by
  unfold refU at h
  split at h
  · obtain ⟨a, vs, rfl, _⟩ := r; exact ⟨a, rfl⟩
  · obtain ⟨a, vs, rfl, _⟩ := r; exact ⟨a, rfl⟩
  · obtain ⟨a, dx, gs, rfl, _⟩ := r; exact ⟨a, rfl⟩
  · obtain ⟨a, vs, rfl, _⟩ := r; exact ⟨a, rfl⟩
  · obtain ⟨a, _, rfl⟩ := r; exact ⟨a, rfl⟩
  · cases h
/-- a promise is called -/
theorem sp_call {g : FA} {us : List U} {vs : List V} {Q : VK} {E : XK} (sr : Sr K F ρ H M) (ru : RUs K F ρ us vs) (hm : g us M = some (c, M')) (k : ∀ F' ρ' H' v, Go F ρ H F' ρ' H' → Sr K F' ρ' H' M' → RU K F' ρ' c v → Q v H') : spW K g vs H Q E :=
  ⟨F, ρ, us, M, c, M', sr, ru, hm, k⟩
theorem sp_ref {g : FA} {us : List U} {vs : List V} {Q : VK} {E : XK} (sr : Sr K F ρ H M) (ru : RUs K F ρ us vs) (hm : rf (g us M) = some (c, M')) (k : ∀ F' ρ' H' v, Go F ρ H F' ρ' H' → Sr K F' ρ' H' M' → RU K F' ρ' c v → Q v H') : spW K g vs H (fun v H' => ∃ r, v = .ref r ∧ Q (.ref r) H') E := by
  obtain ⟨⟨y, M2⟩, e1, e2⟩ := bind2 hm
  dsimp only at e2
  split at e2
  · rename_i hr
    cases e2
    refine sp_call sr ru e1 fun F' ρ' H' v g' s' r' => ?_
    obtain ⟨a, rfl⟩ := refU_ok hr r'
    exact ⟨a, rfl, k _ _ _ _ g' s' r'⟩
  · cases e2
theorem rus1 {u : U} {v : V} (r : RU K F ρ u v) : RUs K F ρ [u] [v] := ⟨v, [], rfl, r, rfl⟩
theorem rus2 {u u2 : U} {v v2 : V} (r : RU K F ρ u v) (r2 : RU K F ρ u2 v2) : RUs K F ρ [u, u2] [v, v2] := ⟨v, _, rfl, r, rus1 r2⟩
end
/-- a op b: instance and instance or int, int and instance -/
def binO (c : Str) (g gr : FA) : F2 := fun a b M => match insF c M a with
  | some _ => match b with
    | .p (.int _) => rf (g [a, b] M)
    | b => match insF c M b with
      | some _ => rf (g [a, b] M)
      | none => none
  | none => match a with
    | .p (.int _) => match insF c M b with
      | some _ => rf (gr [b, a] M)
      | none => none
    | _ => none
def binL (c : Str) (g : FA) : F2 := fun a b M => match insF c M a with
  | some _ => match insF c M b with
    | some _ => rf (g [a, b] M)
    | none => none
  | none => none
def powO (c : Str) (g : FA) : F2 := fun a b M => match insF c M a with
  | some _ => match b with
    | .p (.int _) => rf (g [a, b] M)
    | _ => none
  | none => none
/-- a built-in applied to one instance -/
def insU (c : Str) (g : FA) : FA := fun us M => match us with
  | [u] => match insF c M u with
    | some _ => g [u] M
    | none => none
  | _ => none
def insU1 (c : Str) (g : FA) : F1 := fun u M => match insF c M u with
  | some _ => g [u] M
  | none => none
def stR (x : Option (U × Mm)) : Option (U × Mm) := x.bind fun y => match y.1 with
  | .p (.str _) => some y
  | _ => none
def blR (x : Option (U × Mm)) : Option (U × Mm) := x.bind fun y => match y.1 with
  | .p (.bl _) => some y
  | _ => none
section
variable {X : Cx} {K : PySem.W.Frag} {c : Str} {g gr : FA} {k j : Nat} {pos : Pos} {e : Expr} {mo : E}
theorem vr_binO : VR2 K (rBinO (ga K c) (spW K g) (spW K gr)) (binO c g gr) := by
  intro F ρ H M x y u w r M' Q sr ru rw' hm kk
  unfold binO at hm
  split at hm
  · rename_i fs hf
    obtain ⟨a, dx, gs, rfl, e1, q1⟩ := insF_ok sr hf ru
    split at hm
    · rename_i i
      cases rw'
      exact .inr (.inl ⟨a, dx, gs, i, rfl, rfl, e1, sp_ref sr (rus2 (u2 := .p (.int i)) ru rfl) hm kk⟩)
    · split at hm
      · rename_i fs2 hf2
        obtain ⟨b, dy, hs, rfl, e2, q2⟩ := insF_ok sr hf2 rw'
        exact .inl ⟨a, dx, gs, b, dy, hs, rfl, rfl, e1, e2, sp_ref sr (rus2 ru rw') hm kk⟩
      · cases hm
  · split at hm
    · rename_i i _
      cases ru
      split at hm
      · rename_i fs2 hf2
        obtain ⟨b, dy, hs, rfl, e2, q2⟩ := insF_ok sr hf2 rw'
        exact .inr (.inr ⟨i, b, dy, hs, rfl, rfl, e2, sp_ref sr (rus2 (u2 := .p (.int i)) rw' rfl) hm kk⟩)
      · cases hm
    · cases hm
theorem vr_binL : VR2 K (rBinL (ga K c) (spW K g)) (binL c g) := by
  intro F ρ H M x y u w r M' Q sr ru rw' hm kk
  unfold binL at hm
  split at hm
  · rename_i fs hf
    obtain ⟨a, dx, gs, rfl, e1, q1⟩ := insF_ok sr hf ru
    split at hm
    · rename_i fs2 hf2
      obtain ⟨b, dy, hs, rfl, e2, q2⟩ := insF_ok sr hf2 rw'
      exact ⟨a, dx, gs, b, dy, hs, rfl, rfl, e1, e2, sp_ref sr (rus2 ru rw') hm kk⟩
    · cases hm
  · cases hm
theorem vr_powO : VR2 K (rPowO (ga K c) (spW K g)) (powO c g) := by
  intro F ρ H M x y u w r M' Q sr ru rw' hm kk
  unfold powO at hm
  split at hm
  · rename_i fs hf
    obtain ⟨a, dx, gs, rfl, e1, q1⟩ := insF_ok sr hf ru
    split at hm
    · rename_i i
      cases rw'
      exact ⟨a, dx, gs, i, rfl, rfl, e1, sp_ref sr (rus2 (u2 := .p (.int i)) ru rfl) hm kk⟩
    · cases hm
  · cases hm
theorem vr_negO : VR1 K (rNegO (ga K c) (spW K g)) (insU1 c g) := by
  intro F ρ H M x u r M' Q sr ru hm kk
  unfold insU1 at hm
  split at hm
  · rename_i fs hf
    obtain ⟨a, dx, gs, rfl, e1, q1⟩ := insF_ok sr hf ru
    exact ⟨a, dx, gs, rfl, e1, sp_call sr (rus1 ru) hm kk⟩
  · cases hm
theorem vr_absO : VRA K (rAbsO (ga K c) (spW K g)) (insU c g) := by
  intro F ρ H M x u r M' Q sr ru hm kk
  unfold insU at hm
  split at hm
  · obtain ⟨v, vt, rfl, r0, rfl⟩ := ru
    split at hm
    · rename_i fs hf
      obtain ⟨a, dx, gs, rfl, e1, q1⟩ := insF_ok sr hf r0
      exact ⟨a, dx, gs, rfl, e1, sp_call sr (rus1 r0) hm kk⟩
    · cases hm
  · cases hm
/-- str(x), repr(x) of an instance -/
def strO (c : Str) (g : FA) : FA := fun us M => stR (insU c g us M)
def boolO (c : Str) (g : FA) : FA := fun us M => blR (insU c g us M)
theorem vr_strO : VRA K (rStrO (ga K c) (spW K g)) (strO c g) := by
  intro F ρ H M x u r M' Q sr ru hm kk
  obtain ⟨⟨y, M2⟩, e1, e2⟩ := bind2 hm
  dsimp only at e2
  unfold insU at e1
  split at e1
  · obtain ⟨v, vt, rfl, r0, rfl⟩ := ru
    split at e1
    · rename_i fs hf
      obtain ⟨a, dx, gs, rfl, e3, q1⟩ := insF_ok sr hf r0
      split at e2
      · cases e2
        exact ⟨a, dx, gs, rfl, e3, sp_call sr (rus1 r0) e1 fun F' ρ' H' v g' s' r' => by
          cases r'
          exact ⟨_, rfl, kk _ _ _ _ g' s' rfl⟩⟩
      · cases e2
    · cases e1
  · cases e1
theorem vr_boolO : VRA K (rBoolO (ga K c) (spW K g)) (boolO c g) := by
  intro F ρ H M x u r M' Q sr ru hm kk
  obtain ⟨⟨y, M2⟩, e1, e2⟩ := bind2 hm
  dsimp only at e2
  unfold insU at e1
  split at e1
  · obtain ⟨v, vt, rfl, r0, rfl⟩ := ru
    split at e1
    · rename_i fs hf
      obtain ⟨a, dx, gs, rfl, e3, q1⟩ := insF_ok sr hf r0
      split at e2
      · cases e2
        exact ⟨a, dx, gs, rfl, e3, sp_call sr (rus1 r0) e1 fun F' ρ' H' v g' s' r' => by
          cases r'
          exact ⟨_, rfl, kk _ _ _ _ g' s' rfl⟩⟩
      · cases e2
    · cases e1
  · cases e1
/-- a test of an instance by its own __bool__ -/
def mTruO (c : Str) (g : FA) (e : E) : T := fun us M => (e us M).bind fun x => (boolO c g [x.1] x.2).bind isB
theorem w_truO {σ : L2.St} {H : Hp} {Q : Bool → Hp → Prop} (q : tWT K (mTruO c g mo) σ H Q) : tTruO (ga K c) (spW K g) (tW K mo) σ H Q := by
  obtain ⟨F, ρ, us, M, b, M', sr, sv, hm, k⟩ := q
  obtain ⟨⟨x, M1⟩, e1, hm⟩ := bind2 hm
  obtain ⟨y, e2, e3⟩ := bind2 hm
  have e4 := isB_ok e3
  subst e4
  refine ⟨F, ρ, us, M, x, M1, sr, sv, e1, fun F1 ρ1 H1 v g1 sr1 r1 => ?_⟩
  obtain ⟨⟨z, M2⟩, e5, e6⟩ := bind2 e2
  unfold insU at e5
  dsimp only at e5
  split at e5
  · rename_i fs hf
    obtain ⟨a, dx, gs, rfl, e7, q1⟩ := insF_ok sr1 hf r1
    dsimp only at e6
    split at e6
    · cases e6
      exact ⟨a, dx, gs, rfl, e7, sp_call sr1 (rus1 r1) e5 fun F' ρ' H' v g' s' r' => by
        cases r'
        exact ⟨_, rfl, k _ _ _ (g1.trans g') s'⟩⟩
    · cases e6
  · cases e5
theorem tw_truO (cm : Sm X.prog X.w X.K X.mg X.base k (ga K c) "__bool__" (spW K g)) (hr : Room k X.A) (ha : EW X K e mo) (he : ∀ whole, isTrue e X.env whole = (do let v ← whole; standAt e.pos; holding [v] (truthy v)) := by intro _; rfl) : TW X K e (mTruO c g mo) :=
  (pt_own cm hr ha he).weak fun _ _ _ q => w_truO q
def mNotO (c : Str) (g : FA) (e : E) : E := fun us M => (mTruO c g e us M).map fun x => (.p (.bl (!x.1)), x.2)
theorem ew_notO (cm : Sm X.prog X.w X.K X.mg X.base k (ga K c) "__bool__" (spW K g)) (hr : Room k X.A) (ha : EW X K e mo) : EW X K (.UnaryOp .Not e pos) (mNotO c g mo) :=
  (pe_notO cm hr ha).weak fun σ H Q ⟨F, ρ, us, M, u, M', sr, sv, hm, k⟩ => by
    obtain ⟨⟨b, M1⟩, e1, e2⟩ := Option.map_eq_some_iff.mp hm
    cases e2
    exact w_truO ⟨F, ρ, us, M, b, _, sr, sv, e1, fun F' ρ' H' g' s' => k _ _ _ _ g' s' rfl⟩
/-! == of instances -/
/-- the kinds of values that decline an own instance -/
def decU (M : Mm) : U → Option String
  | .p .non => some "NoneType"
  | .p (.bl _) => some "bool"
  | .p (.int _) => some "int"
  | .p (.str _) => some "str"
  | .p (.tup _) => some "tuple"
  | .p (.lst _) => some "list"
  | .p (.dic _) => some "dict"
  | _ => none
theorem decU_ok {F H : Hp} {ρ : List Addr} {M : Mm} {u : U} {v : V} {n : String} (sr : Sr K F ρ H M) (h : decU M u = some n) (r : RU K F ρ u v) : Dec H v n := by
  unfold decU at h
  split at h
  · cases h; cases r; exact .non
  · cases h; cases r; exact .bl _
  · cases h; cases r; exact .int _
  · cases h; cases r; exact .str _
  · cases h; obtain ⟨a, vs, rfl, f, _⟩ := r; exact .tup (sr.sub _ _ f)
  · cases h; obtain ⟨a, vs, rfl, f, _⟩ := r; exact .lst (sr.sub _ _ f)
  · cases h; obtain ⟨a, vs, rfl, f, _⟩ := r; exact .dK (sr.sub _ _ f)
  · cases h
def tys : List String := ["NoneType", "bool", "int", "str", "tuple", "list", "dict"]
def clOk (own : Str → Bool) : Cl → Bool
  | .own x => own x
  | .ty n => decide (n ∈ tys)
theorem clOk_own {own : Str → Bool} {t : Cl} (h : clOk own t = true) : ownOk own t = true := by
  cases t with
  | ty n => rfl
  | own x => exact h
/-- the class's facts for == -/
structure EqT (K : PySem.W.Frag) (own : Str → Bool) (c : Str) : Prop where
  nf : ∀ t, clOk own t = true → PySem.W.notFirst K (ga K c) (clV K t) = true
  sub : ∀ n, n ∈ tys → PySem.W.subIn K (.ref (ga K c)) (.type n) = some false
def eqO (own : Str → Bool) (c : Str) (g : FA) (neg : Bool) : F2 := fun a b M => match insF c M a with
  | some _ => (clU M b).bind fun t => if clOk own t = true then ((g [a, b] M).bind isB).map fun x => (.p (.bl (if neg then !x.1 else x.1)), x.2) else none
  | none => match insF c M b with
    | some _ => (decU M a).bind fun _ => ((g [b, a] M).bind isB).map fun x => (.p (.bl (if neg then !x.1 else x.1)), x.2)
    | none => none
theorem vr_eqO {own : Str → Bool} {kit : Cl → Cl → Option Bool} (T : IsiT K own kit) (Te : EqT K own c) (neg : Bool) : VR2 K (rEqO K (ga K c) (spW K g) neg) (eqO own c g neg) := by
  intro F ρ H M x y u w r M' Q sr ru rw' hm kk
  have go : ∀ {us : List U} {vs : List V}, RUs K F ρ us vs → ((g us M).bind isB).map (fun x => (U.p (.bl (if neg then !x.1 else x.1)), x.2)) = some (r, M') → spW K g vs H (fun v H' => ∃ c, v = .bl c ∧ Q (.bl (if neg then !c else c)) H') E0 := fun {us vs} rs h => by
    obtain ⟨⟨b, M1⟩, e1, e2⟩ := Option.map_eq_some_iff.mp h
    cases e2
    obtain ⟨y, e3, e4⟩ := bind2 e1
    have e5 := isB_ok e4
    subst e5
    exact sp_call sr rs e3 fun F' ρ' H' v g' s' r' => by
      cases r'
      exact ⟨b, rfl, kk _ _ _ _ g' s' rfl⟩
  unfold eqO at hm
  split at hm
  · rename_i fs hf
    obtain ⟨a, dx, gs, rfl, e1, q1⟩ := insF_ok sr hf ru
    obtain ⟨t, e2, hm⟩ := bind2 hm
    split at hm
    · rename_i ho
      exact .inl ⟨a, dx, gs, clV K t, rfl, e1, clU_ok T sr rw' e2 (fun y hy => by subst hy; exact clOk_own ho), Te.nf t ho, go (rus2 ru rw') hm⟩
    · cases hm
  · split at hm
    · rename_i fs hf
      obtain ⟨a, dx, gs, rfl, e1, q1⟩ := insF_ok sr hf rw'
      obtain ⟨n, e2, hm⟩ := bind2 hm
      refine .inr ⟨a, dx, gs, n, rfl, e1, decU_ok sr e2 ru, Te.sub n ?_, go (rus2 rw' ru) hm⟩
      unfold decU at e2
      split at e2 <;> first | (cases e2; simp [tys]; done) | cases e2
    · cases hm
/-! either one, or another mirror -/
def or2 (f g : F2) : F2 := fun a b M => match f a b M with
  | some r => some r
  | none => g a b M
theorem VR2.alt {r r' : R2} {f g : F2} (h : VR2 K r f) (h' : VR2 K r' g) : VR2 K (fun x y H Q => r x y H Q ∨ r' x y H Q) (or2 f g) := by
  intro F ρ H M x y u w c M' Q sr ru rw' hm k
  unfold or2 at hm
  split at hm
  · rename_i z hz
    cases hm
    exact .inl (h F ρ H M x y u w c M' Q sr ru rw' hz k)
  · exact .inr (h' F ρ H M x y u w c M' Q sr ru rw' hm k)
end
end Pz
/-! ### classmethods; the law's end -/
namespace Pz
open PySem PySem.Spec PyProof.Rows L2 Rt He
def mCm (c : Str) (g : FA) (o : E) (a : As) : E := fun us M => (o us M).bind fun x => match x.1 with
  | .p (.cls c') => if c' = c then (a us x.2).bind fun y => g (.p (.cls c) :: y.1) y.2 else none
  | _ => none
section
variable {X : Cx} {K : PySem.W.Frag} {k j : Nat} {m c : Str} {g : FA} {pos apos : Pos} {o e : Expr} {es : List Expr} {ma : As} {mo : E} {pl : Sem Bool}
theorem ew_cmt (cm : Cmt X.prog X.w X.K X.mg X.base k (ga K c) m (spW K g)) (hr : Room j X.A) (ho : EW X K o mo) (ha : AW X K (e :: es) ma) (hk : k ≤ j := by decide)
    (hst : starEach (e :: es) X.env = (false, eval e X.env) :: starEach es X.env := by rfl) (hpl : (backTo pos (starEach es X.env)).any (·.1) = false := by rfl)
    (ht : eval (.Call (.Attribute o m apos) (e :: es) [] pos) X.env = (do
      let ov ← eval o X.env
      standAt apos.atName
      let (f, first) ← holding [ov] (getMethod ov m pl)
      callWith pos f first (backTo pos (starEach (e :: es) X.env)) (backToKw pos (keywordEach [] X.env))) := by rfl) : EW X K (.Call (.Attribute o m apos) (e :: es) [] pos) (mCm c g mo ma) := by
  refine (pe_cmt cm hr ho ha hk hst hpl ht).weak fun σ H Q ⟨F, ρ, us, M, u, M', sr, sv, hm, k⟩ => ?_
  obtain ⟨⟨x, M1⟩, e1, hm⟩ := bind2 hm
  refine ⟨F, ρ, us, M, x, M1, sr, sv, e1, fun F1 ρ1 H1 v g1 sr1 r1 => ?_⟩
  dsimp only at hm
  split at hm
  · split at hm
    · rename_i c' hc
      subst hc
      obtain ⟨⟨y, M2⟩, e2, e3⟩ := bind2 hm
      cases r1
      refine ⟨rfl, F1, ρ1, us, M1, y, M2, sr1, sv.mono g1.sf g1.pre, e2, fun F2 ρ2 H2 vs g2 sr2 r2 => ?_⟩
      exact sp_call (us := .p (.cls _) :: y) sr2 ⟨_, _, rfl, rfl, r2⟩ e3 fun F' ρ' H' v' g3 => k F' ρ' H' v' ((g1.trans g2).trans g3)
    · cases hm
  · cases hm
end
section
variable {P : Program} {w : World} {K : PySem.W.Frag} {mg : Str → Option Value} {base : Heap}
theorem cmt_of {k : Nat} {x m : Str} {f : Addr} {fd : FuncData} {ps : List Str} {g : FA} (h : ClX.CMet K (ga K x) (.type "type") m (ma K (ga K x) m) f ∧ ClX.CRead K (ga K x) (.type "type")) (F : FnOk P w K mg base (L2.CX P w) k f fd ps (spW K g)) (hb : Binds K fd ps []) : Cmt P w K mg base k (ga K x) m (spW K g) :=
  ⟨_, _, _, h.2, h.1, (F.raw hb .nil).imp fun vs H Q E q => by rw [List.append_nil]; exact q⟩
theorem rpl_ints {F : Hp} : ∀ ns : List Int, RpL K F (ns.map .int) (ns.map V.int)
  | [] => rfl
  | n :: ns => ⟨_, _, rfl, rfl, rpl_ints ns⟩
/-- the heap without tables -/
def noT (H : Hp) : Hp := fun b => match H b with
  | some (.tbl _) => none
  | o => o
theorem noT_same {H : Hp} : Same (noT H) H := fun b o e => by
  unfold noT at e
  split at e
  · cases e
  · exact e
theorem noT_of {H : Hp} {b : Addr} {o : HO} (e : H b = some o) (n : ∀ ps, o ≠ .tbl ps) : noT H b = some o := by
  unfold noT
  split
  · rename_i ps e2
    rw [e] at e2
    exact absurd (Option.some.inj e2) (n ps)
  · exact e
theorem noT_nt {H : Hp} (b : Addr) (ps : Array Value) : noT H b ≠ some (.tbl ps) := by
  unfold noT
  split
  · exact fun z => by cases z
  · rename_i h
    exact fun z => h ps z
theorem noT_sql {H : Hp} {a : Addr} {vs : List V} (h : SqL K H a vs) : SqL K (noT H) a vs := by
  rcases h with (h | ⟨o, h⟩) | h
  · exact .inl (.inl (noT_of h fun _ z => by cases z))
  · exact .inl (.inr ⟨o, noT_of h fun _ z => by cases z⟩)
  · exact .inr h
/-- the law's promise at a script; ts: the tables of code objects -/
theorem law_spT {g : FA} (ts : List (He.Defn × Str)) (hnd : (ts.map fun t => (He.cT K t.1).2).Nodup) {B : List Int → Prop} (h : ∀ ns : List Int, ns.length ≤ 63 → B ns → ∃ M', g [.p (.frz (ns.map .int))] (ts.map fun t => .tab t.1 t.2) = some (.p (.bl true), M'))
    (H : Hp) (a : Addr) (ns : List Int) (hl : ns.length ≤ 63) (hB : B ns) (hT : ∀ t ∈ ts, H (He.cT K t.1).2 = some (.tbl #[])) (hS : SqL K H a (ns.map V.int)) : spW K g [.ref a] H (fun v _ => v = .bl true) fun _ _ _ => False := by
  obtain ⟨M', e⟩ := h ns hl hB
  have at_ : ∀ {i : Nat} {c : C} {x : Addr}, (ts.map fun t => C.tab t.1 t.2)[i]? = some c → (ts.map fun t => (He.cT K t.1).2)[i]? = some x → ∃ t ∈ ts, c = .tab t.1 t.2 ∧ x = (He.cT K t.1).2 := fun {i c x} h1 h2 => by
    rw [List.getElem?_map, Option.map_eq_some_iff] at h1 h2
    obtain ⟨t, e1, e2⟩ := h1
    obtain ⟨t2, e3, e4⟩ := h2
    rw [e1] at e3
    cases e3
    exact ⟨t, List.mem_of_getElem? e1, e2.symm, e4.symm⟩
  refine ⟨noT H, ts.map fun t => (He.cT K t.1).2, [.p (.frz (ns.map .int))], _, _, M', ⟨noT_same, by simp, hnd, fun x hx => ?_, fun i c x h1 h2 => ?_, noT_nt, fun i p q x ps h1 h2 h3 pos cv hc => ?_⟩, ⟨_, _, rfl, ⟨a, _, rfl, noT_sql hS, rpl_ints ns⟩, rfl⟩, e, fun F' ρ' H' v g' s' r' => r'⟩
  · obtain ⟨t, ht, rfl⟩ := List.mem_map.mp hx
    rw [hT t ht]
    exact fun z => by cases z
  · obtain ⟨t, ht, rfl, rfl⟩ := at_ h1 h2
    have e0 := hT t ht
    refine ⟨?_, rfl, _, e0, True.intro⟩
    unfold noT
    rw [e0]
  · obtain ⟨t, ht, _, rfl⟩ := at_ h1 h2
    rw [hT t ht] at h3
    cases h3
    cases hc
theorem law_sp {g : FA} (h : ∀ ns : List Int, ns.length ≤ 63 → ∃ M', g [.p (.frz (ns.map .int))] [] = some (.p (.bl true), M')) (H : Hp) (a : Addr) (ns : List Int) (hl : ns.length ≤ 63) (hS : SqL K H a (ns.map V.int)) : spW K g [.ref a] H (fun v _ => v = .bl true) fun _ _ _ => False :=
  law_spT [] (by simp) (B := fun _ => True) (fun ns hl _ => h ns hl) H a ns hl trivial (fun _ z => by cases z) hS
end
end Pz
/-! ### more targets, more calls -/
namespace Pz
open PySem PySem.Spec PyProof.Rows L2 He Rt
/-- a, b, .. = a tuple or a list -/
def seqA (M : Mm) (u : U) : Option (List W) := (seqT u).orElse fun _ => seqL M u
theorem seqA_tup {M : Mm} {ws : List W} : seqA M (.p (.tup ws)) = some ws := rfl
theorem seqA_kt {M : Mm} {ws : List W} : seqA M (.p (.kt ws)) = some ws := rfl
theorem seqA_lst {M : Mm} {ws : List W} : seqA M (.p (.lst ws)) = some ws := rfl
theorem seqA_frz {M : Mm} {ws : List W} : seqA M (.p (.frz ws)) = some ws := rfl
def gTu (n : Nat) (g : Tgs) : Tg := fun u sl M => (seqA M u).bind fun ws => if ws.length = n then g (ws.map .p) sl M else none
section
variable {X : Cx} {K : PySem.W.Frag} {pos : Pos}
theorem pg_or {t : Expr} {a b : TG} (h : PG X t a) (g : PG X t b) : PG X t (fun v σ H Q => a v σ H Q ∨ b v σ H Q) :=
  ⟨fun pins s σ H v u Q I r q => q.elim (fun q => h.run pins s σ H v u Q I r q) fun q => g.run pins s σ H v u Q I r q⟩
theorem seqA_ok {F H : Hp} {ρ : List Addr} {M : Mm} (s : Sr K F ρ H M) {u : U} {ws : List W} {v : V} (h : seqA M u = some ws) (r : RU K F ρ u v) : ∃ a vs, v = .ref a ∧ (SqT K H a vs ∨ SqL K H a vs) ∧ RpL K F ws vs := by
  unfold seqA at h
  cases e : seqT u with
  | some xs =>
    rw [e] at h
    cases h
    obtain ⟨a, vs, e1, e2, e3⟩ := seqT_ok s e r
    exact ⟨a, vs, e1, .inl e2, e3⟩
  | none =>
    rw [e] at h
    obtain ⟨a, vs, e1, e2, e3⟩ := s.seqL h r
    exact ⟨a, vs, e1, .inr e2, e3⟩
theorem gw_tu {es : List Expr} {kk n : Nat} {g : Tgs} (hc : X.calm = true) (h : GsW X K es g) (hn : (assignEach es X.env).length = n := by rfl) (hst : (assignEach es X.env).findIdx? (·.1) = none := by rfl) (hK : X.K = K := by rfl) : GW X K (.Tuple es kk pos) (gTu n g) := by
  subst hK
  refine (pg_or (pg_tup (n := n) hc h hn hst) (pg_lst (n := n) hc h hn hst)).weak fun v σ H Q ⟨F, ρ, u, us, M, us', M', sr, sv, r, hm, k⟩ => ?_
  obtain ⟨ws, e1, e2⟩ := bind2 hm
  split at e2
  · rename_i hl
    obtain ⟨a, vs, rfl, hq, rl⟩ := seqA_ok sr e1 r
    rcases hq with hq | hq
    · exact .inl ⟨a, vs, rfl, hq, by rw [← rl.length]; exact hl, F, ρ, _, us, M, us', M', sr, sv, rus_p rl, e2, k⟩
    · exact .inr ⟨a, vs, rfl, hq, by rw [← rl.length]; exact hl, F, ρ, _, us, M, us', M', sr, sv, rus_p rl, e2, k⟩
  · cases e2
end
end Pz
/-! ### calls with keywords and defaults -/
namespace Pz
open PySem PySem.Spec PyProof.Rows L2 He Rt
theorem fnok_none {P : Program} {w : World} {K : PySem.W.Frag} {mg : Str → Option Value} {base : Heap} {CX : CXT} {k : Nat} {f : Addr} {fd : FuncData} {ps : List Str} : FnOk P w K mg base CX k f fd ps (spW K fun _ _ => none) :=
  FnOk.mk (fun vs H Q E h => by
    obtain ⟨_, _, _, _, _, _, _, _, z, _⟩ := h
    cases z) (fun A outer s H args us vs Q E hr e b r h => by
    obtain ⟨_, _, _, _, _, _, _, _, z, _⟩ := h
    cases z)
theorem fng_none {P : Program} {w : World} {K : PySem.W.Frag} {mg : Str → Option Value} {base : Heap} {k : Nat} {f : Addr} {fd : FuncData} {ps : List Str} : FnG P w K mg base k f fd ps (spW K fun _ _ => none) := FnG.of fnok_none
/-- where a parameter's value comes from: a position, a keyword, a default -/
inductive Sc where
  | p (i : Nat)
  | k (i : Nat)
  | d (i : Nat)
def pick {α : Type} (us its ws : List α) : Sc → Option α
  | .p i => us[i]?
  | .k i => ws[i]?
  | .d i => its[i]?
def bld {α : Type} (sc : List Sc) (us its ws : List α) : List α := sc.filterMap (pick us its ws)
theorem vals_get : ∀ {vs : List V} {us : List Value}, Vals vs us → ∀ i : Nat, (vs[i]? = none ∧ us[i]? = none) ∨ ∃ v u, vs[i]? = some v ∧ us[i]? = some u ∧ RelV v u
  | _, _, .nil, i => .inl (by simp)
  | _, _, .cons h r, 0 => .inr ⟨_, _, rfl, rfl, h⟩
  | _, _, .cons h r, i + 1 => by simpa using vals_get r i
theorem bld_vals {vs ds zs : List V} {us its ws : List Value} (r1 : Vals vs us) (r2 : Vals ds its) (r3 : Vals zs ws) : ∀ sc : List Sc, Vals (bld sc vs ds zs) (bld sc us its ws)
  | [] => .nil
  | s :: sc => by
    have ih := bld_vals r1 r2 r3 sc
    have key : (pick vs ds zs s = none ∧ pick us its ws s = none) ∨ ∃ v u, pick vs ds zs s = some v ∧ pick us its ws s = some u ∧ RelV v u := by
      cases s with
      | p i => exact vals_get r1 i
      | k i => exact vals_get r3 i
      | d i => exact vals_get r2 i
    unfold bld at ih ⊢
    rcases key with ⟨e1, e2⟩ | ⟨v, u, e1, e2, h⟩
    · rw [List.filterMap_cons_none e1, List.filterMap_cons_none e2]
      exact ih
    · rw [List.filterMap_cons_some e1, List.filterMap_cons_some e2]
      exact .cons h ih
section
variable {K : PySem.W.Frag} {F : Hp} {ρ : List Addr}
theorem rus_get : ∀ {us : List U} {vs : List V}, RUs K F ρ us vs → ∀ i : Nat, (us[i]? = none ∧ vs[i]? = none) ∨ ∃ u v, us[i]? = some u ∧ vs[i]? = some v ∧ RU K F ρ u v
  | [], _, h, i => by cases h; exact .inl (by simp)
  | _ :: _, _, ⟨v, r, e, h, t⟩, 0 => by subst e; exact .inr ⟨_, _, rfl, rfl, h⟩
  | _ :: _, _, ⟨v, r, e, h, t⟩, i + 1 => by subst e; simpa using rus_get t i
theorem bld_rus {us ds zs : List U} {vs dvs ws : List V} (r1 : RUs K F ρ us vs) (r2 : RUs K F ρ ds dvs) (r3 : RUs K F ρ zs ws) : ∀ sc : List Sc, RUs K F ρ (bld sc us ds zs) (bld sc vs dvs ws)
  | [] => rfl
  | s :: sc => by
    have ih := bld_rus r1 r2 r3 sc
    have key : (pick us ds zs s = none ∧ pick vs dvs ws s = none) ∨ ∃ u v, pick us ds zs s = some u ∧ pick vs dvs ws s = some v ∧ RU K F ρ u v := by
      cases s with
      | p i => exact rus_get r1 i
      | k i => exact rus_get r3 i
      | d i => exact rus_get r2 i
    unfold bld at ih ⊢
    rcases key with ⟨e1, e2⟩ | ⟨u, v, e1, e2, h⟩
    · rw [List.filterMap_cons_none e1, List.filterMap_cons_none e2]
      exact ih
    · rw [List.filterMap_cons_some e1, List.filterMap_cons_some e2]
      exact ⟨_, _, rfl, h, ih⟩
theorem rus_len : ∀ {us : List U} {vs : List V}, RUs K F ρ us vs → us.length = vs.length
  | [], _, h => by cases h; rfl
  | _ :: _, _, ⟨v, r, e, h, t⟩ => by subst e; simp [rus_len t]
end
/-- what such a call binds -/
structure KdR (K : PySem.W.Frag) (fd : FuncData) (ps : List Str) (n : Nat) (ks : List Str) (sc : List Sc) (dvs : List V) : Prop where
  ex : ∃ its : List Value, KBn K fd ps n ks (fun us ws => bld sc us its ws) (fun vs zs => bld sc vs dvs zs)
theorem kdr_d {K : PySem.W.Frag} {x qual : Str} {params : Arguments} {body : List Stmt} {scope : Scope} {dvs : List V} {f : Addr} {fd : FuncData} {ps : List Str} (F : FunD K x qual params body scope dvs [] f fd) (n : Nat) (ks : List Str) (sc : List Sc) (hd : dvs ≠ [])
    (h : ∀ (T : Addr) (kV doc pm : Value) (an : Option Addr) (cdv ct : Value) (us its ws : List Value), us.length = n → its.length = dvs.length → ws.length = ks.length →
      ∃ k, bindArgs (PySem.W.fnOf x qual params body scope (.ref T) kV doc pm an cdv ct) ⟨us, ks.zip ws⟩ = seqItems? (.ref T) >>= k ∧ k (some its.toArray) = pure (ps.zip (bld sc us its ws))) : KdR K fd ps n ks sc dvs :=
  ⟨kbindsD F n ks (bld sc) hd (fun r1 r2 r3 => bld_vals r1 r2 r3 sc) h⟩
theorem kdr_0 {K : PySem.W.Frag} {x qual : Str} {params : Arguments} {body : List Stmt} {scope : Scope} {f : Addr} {fd : FuncData} {ps : List Str} (F : FunD K x qual params body scope [] [] f fd) (n : Nat) (ks : List Str) (sc : List Sc)
    (h : ∀ (kV doc pm : Value) (an : Option Addr) (cdv ct : Value) (us ws : List Value), us.length = n → ws.length = ks.length →
      bindArgs (PySem.W.fnOf x qual params body scope .none kV doc pm an cdv ct) ⟨us, ks.zip ws⟩ = pure (ps.zip (bld sc us [] ws))) : KdR K fd ps n ks sc [] := by
  obtain ⟨oc, od, dV, kV, doc, pm, an, cdv, ct, osl, rfl, lk, hcd, hD, hK⟩ := F.ex
  rcases hD with ⟨_, rfl⟩ | ⟨e, _⟩
  · exact ⟨[], ⟨fun s us ws X l1 l2 => .of_eq (h kV doc pm an cdv ct us ws l1 l2), fun r1 r2 => bld_vals r1 .nil r2 sc⟩⟩
  · exact absurd rfl e
section
variable (P : Program) (w : World) (K : PySem.W.Frag) (mg : Str → Option Value) (base : Heap) (k : Nat)
/-- a def called with n positions and the keywords ks -/
structure GdK (x : Str) (sp : Sp) (n : Nat) (ks : List Str) (sc : List Sc) (dvs : List V) : Prop where
  ex : ∃ f fd ps, FnOk P w K mg base (L2.CX P w) k f fd ps sp ∧ mg x = some (.ref f) ∧ PySem.W.keepIn K (.ref f) = true ∧ KdR K fd ps n ks sc dvs
structure MthK (C : Addr) (m : Str) (sp : Sp) (n : Nat) (ks : List Str) (sc : List Sc) (dvs : List V) : Prop where
  ex : Cls K C ∧ ∃ f fd ps, FnOk P w K mg base (L2.CX P w) k f fd ps sp ∧ Meth K C m f ∧ KdR K fd ps (n + 1) ks sc dvs
structure CmtK (C : Addr) (m : Str) (sp : Sp) (n : Nat) (ks : List Str) (sc : List Sc) (dvs : List V) : Prop where
  ex : ∃ mc p g fd ps, ClX.CRead K C mc ∧ ClX.CMet K C mc m p g ∧ FnOk P w K mg base (L2.CX P w) k g fd ps sp ∧ KdR K fd ps (n + 1) ks sc dvs
structure MkrN (x : Str) (C : Addr) (sp : Sp) (n : Nat) (ks : List Str) (sc : List Sc) (dvs : List V) : Prop where
  ex : ∃ f fd ps, Mk K C f ∧ FnOk P w K mg base (L2.CX P w) k f fd ps sp ∧ mg x = some (.ref C) ∧ KdR K fd ps (n + 1) ks sc dvs
end
section
variable {X : Cx} {K : PySem.W.Frag} {k j n : Nat} {c x m : Str} {g : FA} {p pos apos : Pos} {o e : Expr} {es : List Expr} {kws : List Keyword} {ks : List Str} {sc : List Sc} {dvs : List V} {ds : List U} {t tk : TA} {ma mk : As} {mo : E}
/-- arguments and keywords are evaluated, then the call -/
theorem cw_gen {P : Heap → Prop} {f : Value} {first : List Value} {pins : List (Addr × Obj)} {s : Shared} {σ : L2.St} {H : Hp} {Q : Value → Shared → Prop} {R : List V → List V → Hp → Prop} (I : Inv X pins σ H s)
    (hk : ∀ h, P h → ∃ k, (k = Keeper.frame ∨ k = Keeper.machine ∨ k = Keeper.boundFrame) ∧ PySem.W.Looks (model X.prog X.w) h (keeperOf f) k)
    (he : starEach (e :: es) X.env = (false, eval e X.env) :: starEach es X.env) (hall : (backToKw pos (keywordEach kws X.env)).all (·.1.isSome) = true) (hks : (backToKw pos (keywordEach kws X.env)).filterMap (·.1) = ks)
    (hpl : ((backTo pos (starEach (e :: es) X.env)).any (·.1) || (backToKw pos (keywordEach kws X.env)).any (·.1.isNone)) = false) (ha : PA X (e :: es) t) (hkw : PK X kws tk) (h : t σ H fun vs H1 => tk σ H1 fun zs H2 => R vs zs H2)
    (hc : ∀ vs zs us ws H2 s2, Inv X pins σ H2 s2 → Vals vs us → Vals zs ws → R vs zs H2 → P s2.heap ∧ wpAny (model X.prog X.w) X.A (call f (first ++ us) (ks.zip ws)) Q X.xe s2) :
    wpAny (model X.prog X.w) X.A (callWith pos f first (backTo pos (starEach (e :: es) X.env)) (backToKw pos (keywordEach kws X.env))) Q X.xe s := by
  refine PySem.W.callWith_of hpl hk (evalArgs_kw2 hall ?_ he)
  refine thn (ha.run pos pins s σ H _ I h) fun us s1 ⟨vs, H1, I1, r, q⟩ => thn (hkw.run pos pins s1 σ H1 _ I1 q) fun ws s2 ⟨zs, H2, I2, rz, q2⟩ => ?_
  rw [hks]
  exact hc vs zs us ws H2 s2 I2 r rz q2
theorem cw_gen0 {P : Heap → Prop} {f : Value} {first : List Value} {pins : List (Addr × Obj)} {s : Shared} {σ : L2.St} {H : Hp} {Q : Value → Shared → Prop} {R : List V → List V → Hp → Prop} (I : Inv X pins σ H s)
    (hk : ∀ h, P h → ∃ k, (k = Keeper.frame ∨ k = Keeper.machine ∨ k = Keeper.boundFrame) ∧ PySem.W.Looks (model X.prog X.w) h (keeperOf f) k)
    (hall : (backToKw pos (keywordEach kws X.env)).all (·.1.isSome) = true) (hks : (backToKw pos (keywordEach kws X.env)).filterMap (·.1) = ks)
    (hpl : ((backTo pos (starEach [] X.env)).any (·.1) || (backToKw pos (keywordEach kws X.env)).any (·.1.isNone)) = false) (hkw : PK X kws tk) (h : tk σ H fun zs H2 => R [] zs H2)
    (hc : ∀ vs zs us ws H2 s2, Inv X pins σ H2 s2 → Vals vs us → Vals zs ws → R vs zs H2 → P s2.heap ∧ wpAny (model X.prog X.w) X.A (call f (first ++ us) (ks.zip ws)) Q X.xe s2) :
    wpAny (model X.prog X.w) X.A (callWith pos f first (backTo pos (starEach [] X.env)) (backToKw pos (keywordEach kws X.env))) Q X.xe s := by
  refine PySem.W.callWith_of hpl hk (evalArgs_kw2_nil hall ?_)
  refine thn (hkw.run pos pins s σ H _ I h) fun ws s2 ⟨zs, H2, I2, rz, q2⟩ => ?_
  rw [hks]
  exact hc [] zs [] ws H2 s2 I2 .nil rz q2
/-! the mirrors -/
def callK (n m : Nat) (sc : List Sc) (ds : List U) (g : FA) (us zs : List U) (M : Mm) : Option (U × Mm) := if us.length = n ∧ zs.length = m then g (bld sc us ds zs) M else none
def mGdK (n m : Nat) (sc : List Sc) (ds : List U) (g : FA) (ma mk : As) : E := fun us M => (ma us M).bind fun x => (mk us x.2).bind fun z => callK n m sc ds g x.1 z.1 z.2
def mMtK (c f : Str) (n m : Nat) (sc : List Sc) (ds : List U) (g : FA) (mo : E) (ma mk : As) : E := fun us M => (mo us M).bind fun y => match insF c y.2 y.1 with
  | some fs => match lookF f fs with
    | none => (ma us y.2).bind fun x => (mk us x.2).bind fun z => callK (n + 1) m sc ds g (y.1 :: x.1) z.1 z.2
    | some _ => none
  | none => none
def mCmK (c : Str) (n m : Nat) (sc : List Sc) (ds : List U) (g : FA) (mo : E) (ma mk : As) : E := fun us M => (mo us M).bind fun y => match y.1 with
  | .p (.cls c') => if c' = c then (ma us y.2).bind fun x => (mk us x.2).bind fun z => callK (n + 1) m sc ds g (.p (.cls c) :: x.1) z.1 z.2 else none
  | _ => none
def mMkK (c : Str) (n m : Nat) (sc : List Sc) (ds : List U) (g : FA) (ma mk : As) : E := fun us M => (ma us M).bind fun x => (mk us x.2).bind fun z => if x.1.length = n ∧ z.1.length = m then
    (g (bld sc (.m z.2.length :: x.1) ds z.1) (z.2 ++ [.ins c []])).bind fun y => match y.1 with
    | .p .non => match y.2[z.2.length]? with
      | some (.ins c' fs) => some (.p (.ins c' fs), y.2.take z.2.length)
      | _ => none
    | _ => none else none
/-- the run of a def that binds so -/
theorem run_kd {pins : List (Addr × Obj)} {σ : L2.St} {H : Hp} {s : Shared} {Q : VK} {us ws : List Value} {vs zs : List V} {f : Addr} {fd : FuncData} {ps : List Str} {sp : Sp} (F : FnOk X.prog X.w X.K X.mg X.base (L2.CX X.prog X.w) k f fd ps sp) (hr : Room k X.A) (hb : KdR X.K fd ps n ks sc dvs)
    (I : Inv X pins σ H s) (r : Vals vs us) (rz : Vals zs ws) (l1 : vs.length = n) (l2 : zs.length = ks.length) (h : sp (bld sc vs dvs zs) H Q E0) : wpAny (model X.prog X.w) X.A (call (.ref f) us (ks.zip ws)) (EP X pins σ Q) X.xe s := by
  obtain ⟨its, b⟩ := hb.ex
  exact run_fnN F hr b passL I r rz l1 l2 h
theorem run_kd' {pins : List (Addr × Obj)} {σ : L2.St} {H : Hp} {s : Shared} {Q : VK} {us ws : List Value} {vs zs : List V} {f : Addr} {fd : FuncData} {ps : List Str} {sp : Sp} (F : FnOk X.prog X.w X.K X.mg X.base (L2.CX X.prog X.w) k f fd ps sp) (hr : Room k X.A) (hb : KdR X.K fd ps n ks sc dvs)
    (I : Inv X pins σ H s) (r : Vals vs us) (rz : Vals zs ws) (l1 : vs.length = n) (l2 : zs.length = ks.length) (h : sp (bld sc vs dvs zs) H Q E0) :
    codeAny (model X.prog X.w) X.A (.call (.ref f) ⟨us, ks.zip ws⟩) (fun r s' => match r with | .ok (.ret v) => EP X pins σ Q v s' | .ok _ => False | .error e => X.xe e s') s := by
  obtain ⟨its, b⟩ := hb.ex
  have r2 := b.rel r rz
  refine codeAny_mono (F.run X.A X.stack s H ⟨us, ks.zip ws⟩ _ _ Q E0 hr I.env0 (b.to s us ws I.kIn (r.length.symm.trans l1) (rz.length.symm.trans l2)) r2 h) fun r s' hq => ?_
  cases r with
  | error e => exact passL pins σ H s e s' I hq
  | ok fl =>
    cases fl with
    | ret u => exact I.after hq
    | next => exact False.elim hq
    | brk => exact False.elim hq
    | cont => exact False.elim hq
theorem callK_ok {F H : Hp} {ρ : List Addr} {M M' : Mm} {us zs : List U} {vs ws : List V} {u : U} {Q : VK} {m : Nat} (sr : Sr K F ρ H M) (r : RUs K F ρ us vs) (rz : RUs K F ρ zs ws) (hd : Flat ds dvs) (hm : callK n m sc ds g us zs M = some (u, M'))
    (k : ∀ F' ρ' H' v, Go F ρ H F' ρ' H' → Sr K F' ρ' H' M' → RU K F' ρ' u v → Q v H') : (vs.length = n ∧ ws.length = m) ∧ spW K g (bld sc vs dvs ws) H Q E0 := by
  unfold callK at hm
  split at hm
  · rename_i hl
    exact ⟨⟨(rus_len r).symm.trans hl.1, (rus_len rz).symm.trans hl.2⟩, F, ρ, _, M, u, M', sr, bld_rus r (hd _ _ _) rz sc, hm, k⟩
  · cases hm
/-- f(a, .., k = b, ..) -/
theorem ew_gdK (c : GdK X.prog X.w X.K X.mg X.base k x (spW K g) n ks sc dvs) (hd : Flat ds dvs) (hr : Room j X.A) (ha : AW X K (e :: es) ma) (hkw : KW X K kws mk) (hg : Gl X x := by rfl) (hk : k ≤ j := by decide)
    (hall : (backToKw pos (keywordEach kws X.env)).all (·.1.isSome) = true := by rfl) (hks : (backToKw pos (keywordEach kws X.env)).filterMap (·.1) = ks := by rfl)
    (hdb : (x == ("__debug__" : Str)) = false := by decide) (he : starEach (e :: es) X.env = (false, eval e X.env) :: starEach es X.env := by rfl)
    (hpl : ((backTo pos (starEach (e :: es) X.env)).any (·.1) || (backToKw pos (keywordEach kws X.env)).any (·.1.isNone)) = false := by rfl) : EW X K (.Call (.Name x p) (e :: es) kws pos) (mGdK n ks.length sc ds g ma mk) := by
  obtain ⟨f, fd, ps, F, m, kp, b⟩ := c.ex
  refine ⟨fun pins s σ H Q I ⟨F0, ρ, us, M, u, M', sr, sv, hm, kk⟩ => ?_⟩
  obtain ⟨⟨y, M1⟩, e1, hm⟩ := bind2 hm
  obtain ⟨⟨z, M2⟩, e2, hm⟩ := bind2 hm
  refine wpAny_Call_Name_kw (ld_glob I hg m ?_ hdb)
  refine cw_gen (P := X.K.In) (R := fun vs zs H2 => (vs.length = n ∧ zs.length = ks.length) ∧ spW K g (bld sc vs dvs zs) H2 Q E0) I (PySem.W.keeps_K kp) he hall hks hpl ha hkw
    ⟨F0, ρ, us, M, y, M1, sr, sv, e1, fun F1 ρ1 H1 vs g1 sr1 r1 => ⟨F1, ρ1, us, M1, z, M2, sr1, sv.mono g1.sf g1.pre, e2, fun F2 ρ2 H2 zs g2 sr2 r2 => callK_ok sr2 (r1.mono g2.sf g2.pre) r2 hd hm fun F' ρ' H' v g3 => kk F' ρ' H' v ((g1.trans g2).trans g3)⟩⟩
    fun vs zs us ws H2 s2 I2 r rz q => ⟨I2.kIn, run_kd F (hr.mono hk) b I2 r rz q.1.1 q.1.2 q.2⟩
theorem ew_gdK0 (c : GdK X.prog X.w X.K X.mg X.base k x (spW K g) n ks sc dvs) (hd : Flat ds dvs) (hr : Room j X.A) (hkw : KW X K kws mk) (hg : Gl X x := by rfl) (hk : k ≤ j := by decide)
    (hall : (backToKw pos (keywordEach kws X.env)).all (·.1.isSome) = true := by rfl) (hks : (backToKw pos (keywordEach kws X.env)).filterMap (·.1) = ks := by rfl)
    (hdb : (x == ("__debug__" : Str)) = false := by decide)
    (hpl : ((backTo pos (starEach [] X.env)).any (·.1) || (backToKw pos (keywordEach kws X.env)).any (·.1.isNone)) = false := by rfl) : EW X K (.Call (.Name x p) [] kws pos) (mGdK n ks.length sc ds g mNil mk) := by
  obtain ⟨f, fd, ps, F, m, kp, b⟩ := c.ex
  refine ⟨fun pins s σ H Q I ⟨F0, ρ, us, M, u, M', sr, sv, hm, kk⟩ => ?_⟩
  obtain ⟨⟨y, M1⟩, e1, hm⟩ := bind2 hm
  obtain ⟨⟨z, M2⟩, e2, hm⟩ := bind2 hm
  cases e1
  refine wpAny_Call_Name_kw (ld_glob I hg m ?_ hdb)
  refine cw_gen0 (P := X.K.In) (R := fun vs zs H2 => (vs.length = n ∧ zs.length = ks.length) ∧ spW K g (bld sc vs dvs zs) H2 Q E0) I (PySem.W.keeps_K kp) hall hks hpl hkw
    ⟨F0, ρ, us, M, z, M2, sr, sv, e2, fun F2 ρ2 H2 zs g2 sr2 r2 => callK_ok (us := []) (vs := []) sr2 rfl r2 hd hm fun F' ρ' H' v g3 => kk F' ρ' H' v (g2.trans g3)⟩
    fun vs zs us ws H2 s2 I2 r rz q => ⟨I2.kIn, run_kd F (hr.mono hk) b I2 r rz q.1.1 q.1.2 q.2⟩
theorem ew_mtK {pl : Sem Bool} (cm : MthK X.prog X.w X.K X.mg X.base k (ga K c) m (spW K g) n ks sc dvs) (hd : Flat ds dvs) (hr : Room j X.A) (ho : EW X K o mo) (ha : AW X K (e :: es) ma) (hkw : KW X K kws mk) (hk : k ≤ j := by decide)
    (hall : (backToKw pos (keywordEach kws X.env)).all (·.1.isSome) = true := by rfl) (hks : (backToKw pos (keywordEach kws X.env)).filterMap (·.1) = ks := by rfl)
    (he : starEach (e :: es) X.env = (false, eval e X.env) :: starEach es X.env := by rfl)
    (hpl : ((backTo pos (starEach (e :: es) X.env)).any (·.1) || (backToKw pos (keywordEach kws X.env)).any (·.1.isNone)) = false := by rfl)
    (ht : eval (.Call (.Attribute o m apos) (e :: es) kws pos) X.env = (do
      let ov ← eval o X.env
      standAt apos.atName
      let (f, first) ← holding [ov] (getMethod ov m pl)
      callWith pos f first (backTo pos (starEach (e :: es) X.env)) (backToKw pos (keywordEach kws X.env))) := by rfl)
    : EW X K (.Call (.Attribute o m apos) (e :: es) kws pos) (mMtK c m n ks.length sc ds g mo ma mk) := by
  obtain ⟨cl, f, fd, ps, F, hm, b⟩ := cm.ex
  refine ⟨fun pins s σ H Q I ⟨F0, ρ, us, M, u, M', sr, sv, hmm, kk⟩ => ?_⟩
  obtain ⟨⟨y, M1⟩, e1, hmm⟩ := bind2 hmm
  refine PySem.W.methodCall_KW (pl := pl) (thn (ho.run pins s σ H (fun v H1 => ∃ a dx fs, v = .ref a ∧ H1 a = some (.ins (ga K c) dx fs) ∧ fs.lookup m = none ∧ (tWA K ma σ H1 fun vs H2 => tWA K mk σ H2 fun zs H3 => ((V.ref a :: vs).length = n + 1 ∧ zs.length = ks.length) ∧ spW K g (bld sc (.ref a :: vs) dvs zs) H3 Q E0)) I
    ⟨F0, ρ, us, M, y, M1, sr, sv, e1, fun F1 ρ1 H1 v g1 sr1 r1 => ?_⟩) fun u0 s1 ⟨v, H1, I1, rx, a, dx, fs, ev, ea, l, q⟩ => ?_) ht
  · dsimp only at hmm
    split at hmm
    · rename_i fs hf
      split at hmm
      · rename_i hl
        obtain ⟨a, dx, gs, rfl, e6, q⟩ := insF_ok sr1 hf r1
        obtain ⟨⟨x, M2⟩, e2, hmm⟩ := bind2 hmm
        obtain ⟨⟨z, M3⟩, e3, hmm⟩ := bind2 hmm
        refine ⟨a, dx, gs, rfl, e6, (lookF_ok (f := m) q).2 hl, F1, ρ1, us, M1, x, M2, sr1, sv.mono g1.sf g1.pre, e2, fun F2 ρ2 H2 vs g2 sr2 r2 => ⟨F2, ρ2, us, M2, z, M3, sr2, (sv.mono g1.sf g1.pre).mono g2.sf g2.pre, e3, fun F3 ρ3 H3 zs g3 sr3 r3 => ?_⟩⟩
        exact callK_ok (us := y :: x) (vs := .ref a :: vs) sr3 ⟨_, _, rfl, (r1.mono g2.sf g2.pre).mono g3.sf g3.pre, r2.mono g3.sf g3.pre⟩ r3 hd hmm fun F' ρ' H' v' g4 => kk F' ρ' H' v' (((g1.trans g2).trans g3).trans g4)
      · cases hmm
    · cases hmm
  · subst ev
    obtain rfl : u0 = Value.ref a := rx
    refine getmeth_ok I1 ea cl hm l ?_
    exact cw_gen (P := X.K.In) (first := [.ref a]) (R := fun vs zs H3 => ((V.ref a :: vs).length = n + 1 ∧ zs.length = ks.length) ∧ spW K g (bld sc (.ref a :: vs) dvs zs) H3 Q E0) I1 (PySem.W.keeps_K hm.kp) he hall hks hpl ha hkw q
      fun vs zs us ws H2 s2 I2 r rz q => ⟨I2.kIn, run_kd (us := .ref a :: us) (vs := .ref a :: vs) F (hr.mono hk) b I2 (.cons rfl r) rz q.1.1 q.1.2 q.2⟩
theorem ew_mtK0 {pl : Sem Bool} (cm : MthK X.prog X.w X.K X.mg X.base k (ga K c) m (spW K g) n ks sc dvs) (hd : Flat ds dvs) (hr : Room j X.A) (ho : EW X K o mo) (hkw : KW X K kws mk) (hk : k ≤ j := by decide)
    (hall : (backToKw pos (keywordEach kws X.env)).all (·.1.isSome) = true := by rfl) (hks : (backToKw pos (keywordEach kws X.env)).filterMap (·.1) = ks := by rfl)
    (hpl : ((backTo pos (starEach [] X.env)).any (·.1) || (backToKw pos (keywordEach kws X.env)).any (·.1.isNone)) = false := by rfl)
    (ht : eval (.Call (.Attribute o m apos) [] kws pos) X.env = (do
      let ov ← eval o X.env
      standAt apos.atName
      let (f, first) ← holding [ov] (getMethod ov m pl)
      callWith pos f first (backTo pos (starEach [] X.env)) (backToKw pos (keywordEach kws X.env))) := by rfl)
    : EW X K (.Call (.Attribute o m apos) [] kws pos) (mMtK c m n ks.length sc ds g mo mNil mk) := by
  obtain ⟨cl, f, fd, ps, F, hm, b⟩ := cm.ex
  refine ⟨fun pins s σ H Q I ⟨F0, ρ, us, M, u, M', sr, sv, hmm, kk⟩ => ?_⟩
  obtain ⟨⟨y, M1⟩, e1, hmm⟩ := bind2 hmm
  refine PySem.W.methodCall_KW (pl := pl) (thn (ho.run pins s σ H (fun v H1 => ∃ a dx fs, v = .ref a ∧ H1 a = some (.ins (ga K c) dx fs) ∧ fs.lookup m = none ∧ (tWA K mNil σ H1 fun vs H2 => tWA K mk σ H2 fun zs H3 => ((V.ref a :: vs).length = n + 1 ∧ zs.length = ks.length) ∧ spW K g (bld sc (.ref a :: vs) dvs zs) H3 Q E0)) I
    ⟨F0, ρ, us, M, y, M1, sr, sv, e1, fun F1 ρ1 H1 v g1 sr1 r1 => ?_⟩) fun u0 s1 ⟨v, H1, I1, rx, a, dx, fs, ev, ea, l, q⟩ => ?_) ht
  · dsimp only at hmm
    split at hmm
    · rename_i fs hf
      split at hmm
      · rename_i hl
        obtain ⟨a, dx, gs, rfl, e6, q⟩ := insF_ok sr1 hf r1
        obtain ⟨⟨x, M2⟩, e2, hmm⟩ := bind2 hmm
        obtain ⟨⟨z, M3⟩, e3, hmm⟩ := bind2 hmm
        refine ⟨a, dx, gs, rfl, e6, (lookF_ok (f := m) q).2 hl, F1, ρ1, us, M1, x, M2, sr1, sv.mono g1.sf g1.pre, e2, fun F2 ρ2 H2 vs g2 sr2 r2 => ⟨F2, ρ2, us, M2, z, M3, sr2, (sv.mono g1.sf g1.pre).mono g2.sf g2.pre, e3, fun F3 ρ3 H3 zs g3 sr3 r3 => ?_⟩⟩
        exact callK_ok (us := y :: x) (vs := .ref a :: vs) sr3 ⟨_, _, rfl, (r1.mono g2.sf g2.pre).mono g3.sf g3.pre, r2.mono g3.sf g3.pre⟩ r3 hd hmm fun F' ρ' H' v' g4 => kk F' ρ' H' v' (((g1.trans g2).trans g3).trans g4)
      · cases hmm
    · cases hmm
  · subst ev
    obtain rfl : u0 = Value.ref a := rx
    refine getmeth_ok I1 ea cl hm l ?_
    obtain ⟨Fa, ρa, ua, Ma, xa, Mb, sa, sva, ea1, ka⟩ := q
    cases ea1
    exact cw_gen0 (P := X.K.In) (first := [.ref a]) (R := fun vs zs H3 => ((V.ref a :: vs).length = n + 1 ∧ zs.length = ks.length) ∧ spW K g (bld sc (.ref a :: vs) dvs zs) H3 Q E0) I1 (PySem.W.keeps_K hm.kp) hall hks hpl hkw (ka _ _ _ [] Go.refl sa rfl)
      fun vs zs us ws H2 s2 I2 r rz q => ⟨I2.kIn, run_kd (us := .ref a :: us) (vs := .ref a :: vs) F (hr.mono hk) b I2 (.cons rfl r) rz q.1.1 q.1.2 q.2⟩
theorem ew_cmK {pl : Sem Bool} (cm : CmtK X.prog X.w X.K X.mg X.base k (ga K c) m (spW K g) n ks sc dvs) (hd : Flat ds dvs) (hr : Room j X.A) (ho : EW X K o mo) (ha : AW X K (e :: es) ma) (hkw : KW X K kws mk) (hk : k ≤ j := by decide)
    (hall : (backToKw pos (keywordEach kws X.env)).all (·.1.isSome) = true := by rfl) (hks : (backToKw pos (keywordEach kws X.env)).filterMap (·.1) = ks := by rfl)
    (he : starEach (e :: es) X.env = (false, eval e X.env) :: starEach es X.env := by rfl)
    (hpl : ((backTo pos (starEach (e :: es) X.env)).any (·.1) || (backToKw pos (keywordEach kws X.env)).any (·.1.isNone)) = false := by rfl)
    (ht : eval (.Call (.Attribute o m apos) (e :: es) kws pos) X.env = (do
      let ov ← eval o X.env
      standAt apos.atName
      let (f, first) ← holding [ov] (getMethod ov m pl)
      callWith pos f first (backTo pos (starEach (e :: es) X.env)) (backToKw pos (keywordEach kws X.env))) := by rfl)
    : EW X K (.Call (.Attribute o m apos) (e :: es) kws pos) (mCmK c n ks.length sc ds g mo ma mk) := by
  obtain ⟨mc, p, f, fd, ps, rd, cmt, F, b⟩ := cm.ex
  refine ⟨fun pins s σ H Q I ⟨F0, ρ, us, M, u, M', sr, sv, hmm, kk⟩ => ?_⟩
  obtain ⟨⟨y, M1⟩, e1, hmm⟩ := bind2 hmm
  refine PySem.W.methodCall_KW (pl := pl) (thn (ho.run pins s σ H (fun v H1 => v = .ref (ga K c) ∧ (tWA K ma σ H1 fun vs H2 => tWA K mk σ H2 fun zs H3 => ((V.ref (ga K c) :: vs).length = n + 1 ∧ zs.length = ks.length) ∧ spW K g (bld sc (.ref (ga K c) :: vs) dvs zs) H3 Q E0)) I
    ⟨F0, ρ, us, M, y, M1, sr, sv, e1, fun F1 ρ1 H1 v g1 sr1 r1 => ?_⟩) fun u0 s1 ⟨v, H1, I1, rx, ev, q⟩ => ?_) ht
  · dsimp only at hmm
    split at hmm
    · split at hmm
      · rename_i c' hc
        subst hc
        cases r1
        obtain ⟨⟨x, M2⟩, e2, hmm⟩ := bind2 hmm
        obtain ⟨⟨z, M3⟩, e3, hmm⟩ := bind2 hmm
        refine ⟨rfl, F1, ρ1, us, M1, x, M2, sr1, sv.mono g1.sf g1.pre, e2, fun F2 ρ2 H2 vs g2 sr2 r2 => ⟨F2, ρ2, us, M2, z, M3, sr2, (sv.mono g1.sf g1.pre).mono g2.sf g2.pre, e3, fun F3 ρ3 H3 zs g3 sr3 r3 => ?_⟩⟩
        exact callK_ok (us := .p (.cls _) :: x) (vs := .ref _ :: vs) sr3 ⟨_, _, rfl, rfl, r2.mono g3.sf g3.pre⟩ r3 hd hmm fun F' ρ' H' v' g4 => kk F' ρ' H' v' (((g1.trans g2).trans g3).trans g4)
      · cases hmm
    · cases hmm
  · subst ev
    obtain rfl : u0 = Value.ref (ga K c) := rx
    refine ClX.getmethcm_ok I1 rd cmt fun s2 I2 => ?_
    refine thn (Q := EP X ((s1.heap.objs.size, PySem.W.methodObj (.ref f) (.ref (ga K c))) :: pins) σ Q) ?_ fun _ _ y => ClX.unpinE y
    exact cw_gen (P := PySem.W.MethP X.K _ f (.ref (ga K c))) (first := []) (R := fun vs zs H3 => ((V.ref (ga K c) :: vs).length = n + 1 ∧ zs.length = ks.length) ∧ spW K g (bld sc (.ref (ga K c) :: vs) dvs zs) H3 Q E0) I2 (PySem.W.keeps_M cmt.fi) he hall hks hpl ha hkw q
      fun vs zs us ws H2 s3 I3 r rz q => ⟨⟨ClX.pin_at I3, I3.kIn⟩, wpAny_call (PySem.W.method_call (ClX.pin_at I3) ((run_kd' (us := .ref (ga K c) :: us) (vs := .ref (ga K c) :: vs) F (hr.mono hk) b I3 (.cons rfl r) rz q.1.1 q.1.2 q.2)))⟩
theorem ew_cmK0 {pl : Sem Bool} (cm : CmtK X.prog X.w X.K X.mg X.base k (ga K c) m (spW K g) n ks sc dvs) (hd : Flat ds dvs) (hr : Room j X.A) (ho : EW X K o mo) (hkw : KW X K kws mk) (hk : k ≤ j := by decide)
    (hall : (backToKw pos (keywordEach kws X.env)).all (·.1.isSome) = true := by rfl) (hks : (backToKw pos (keywordEach kws X.env)).filterMap (·.1) = ks := by rfl)
    (hpl : ((backTo pos (starEach [] X.env)).any (·.1) || (backToKw pos (keywordEach kws X.env)).any (·.1.isNone)) = false := by rfl)
    (ht : eval (.Call (.Attribute o m apos) [] kws pos) X.env = (do
      let ov ← eval o X.env
      standAt apos.atName
      let (f, first) ← holding [ov] (getMethod ov m pl)
      callWith pos f first (backTo pos (starEach [] X.env)) (backToKw pos (keywordEach kws X.env))) := by rfl)
    : EW X K (.Call (.Attribute o m apos) [] kws pos) (mCmK c n ks.length sc ds g mo mNil mk) := by
  obtain ⟨mc, p, f, fd, ps, rd, cmt, F, b⟩ := cm.ex
  refine ⟨fun pins s σ H Q I ⟨F0, ρ, us, M, u, M', sr, sv, hmm, kk⟩ => ?_⟩
  obtain ⟨⟨y, M1⟩, e1, hmm⟩ := bind2 hmm
  refine PySem.W.methodCall_KW (pl := pl) (thn (ho.run pins s σ H (fun v H1 => v = .ref (ga K c) ∧ (tWA K mNil σ H1 fun vs H2 => tWA K mk σ H2 fun zs H3 => ((V.ref (ga K c) :: vs).length = n + 1 ∧ zs.length = ks.length) ∧ spW K g (bld sc (.ref (ga K c) :: vs) dvs zs) H3 Q E0)) I
    ⟨F0, ρ, us, M, y, M1, sr, sv, e1, fun F1 ρ1 H1 v g1 sr1 r1 => ?_⟩) fun u0 s1 ⟨v, H1, I1, rx, ev, q⟩ => ?_) ht
  · dsimp only at hmm
    split at hmm
    · split at hmm
      · rename_i c' hc
        subst hc
        cases r1
        obtain ⟨⟨x, M2⟩, e2, hmm⟩ := bind2 hmm
        obtain ⟨⟨z, M3⟩, e3, hmm⟩ := bind2 hmm
        refine ⟨rfl, F1, ρ1, us, M1, x, M2, sr1, sv.mono g1.sf g1.pre, e2, fun F2 ρ2 H2 vs g2 sr2 r2 => ⟨F2, ρ2, us, M2, z, M3, sr2, (sv.mono g1.sf g1.pre).mono g2.sf g2.pre, e3, fun F3 ρ3 H3 zs g3 sr3 r3 => ?_⟩⟩
        exact callK_ok (us := .p (.cls _) :: x) (vs := .ref _ :: vs) sr3 ⟨_, _, rfl, rfl, r2.mono g3.sf g3.pre⟩ r3 hd hmm fun F' ρ' H' v' g4 => kk F' ρ' H' v' (((g1.trans g2).trans g3).trans g4)
      · cases hmm
    · cases hmm
  · subst ev
    obtain rfl : u0 = Value.ref (ga K c) := rx
    refine ClX.getmethcm_ok I1 rd cmt fun s2 I2 => ?_
    refine thn (Q := EP X ((s1.heap.objs.size, PySem.W.methodObj (.ref f) (.ref (ga K c))) :: pins) σ Q) ?_ fun _ _ y => ClX.unpinE y
    obtain ⟨Fa, ρa, ua, Ma, xa, Mb, sa, sva, ea1, ka⟩ := q
    cases ea1
    exact cw_gen0 (P := PySem.W.MethP X.K _ f (.ref (ga K c))) (first := []) (R := fun vs zs H3 => ((V.ref (ga K c) :: vs).length = n + 1 ∧ zs.length = ks.length) ∧ spW K g (bld sc (.ref (ga K c) :: vs) dvs zs) H3 Q E0) I2 (PySem.W.keeps_M cmt.fi) hall hks hpl hkw (ka _ _ _ [] Go.refl sa rfl)
      fun vs zs us ws H2 s3 I3 r rz q => ⟨⟨ClX.pin_at I3, I3.kIn⟩, wpAny_call (PySem.W.method_call (ClX.pin_at I3) ((run_kd' (us := .ref (ga K c) :: us) (vs := .ref (ga K c) :: vs) F (hr.mono hk) b I3 (.cons rfl r) rz q.1.1 q.1.2 q.2)))⟩
/-- a new instance, made so -/
theorem mkK_ok {F H : Hp} {ρ : List Addr} {M : Mm} {us zs : List U} {vs ws : List V} {m : Nat} {u : U} {M' : Mm} {Q : VK} (sr : Sr K F ρ H M) (ru : RUs K F ρ us vs) (rz : RUs K F ρ zs ws) (hd : Flat ds dvs)
    (hm : (if us.length = n ∧ zs.length = m then (g (bld sc (.m M.length :: us) ds zs) (M ++ [.ins c []])).bind fun y => match y.1 with
      | .p .non => match y.2[M.length]? with
        | some (.ins c' fs) => some (.p (.ins c' fs), y.2.take M.length)
        | _ => none
      | _ => none else none) = some (u, M')) (k : ∀ F' ρ' H' v, Go F ρ H F' ρ' H' → Sr K F' ρ' H' M' → RU K F' ρ' u v → Q v H') :
    (vs.length = n ∧ ws.length = m) ∧ ∀ x dx, H x = none → H dx = none → dx ≠ x → spW K g (bld sc (.ref x :: vs) dvs ws) (upd (upd H dx (.own x)) x (.ins (ga K c) dx [])) (fun v H2 => v = .non ∧ Q (.ref x) H2) E0 := by
  split at hm
  · rename_i hl
    refine ⟨⟨(rus_len ru).symm.trans hl.1, (rus_len rz).symm.trans hl.2⟩, fun x dx hx hdx hne => ?_⟩
    obtain ⟨⟨u1, M1⟩, e1, e2⟩ := bind2 hm
    have s1 : Sr K F ρ (upd H dx (.own x)) M := sr.updX (fun z => sr.occ dx z hdx) (sr.fnone hdx) (fun _ z => by rw [hdx] at z; cases z)
    have hx1 : upd H dx (.own x) x = none := by rw [upd_ne (Ne.symm hne)]; exact hx
    have f1 := s1.fnone hx1
    have s2 : Sr K F (ρ ++ [x]) (upd (upd H dx (.own x)) x (.ins (ga K c) dx [])) (M ++ [.ins c []]) := s1.newC hx1 ⟨f1, dx, [], rfl, rfl⟩
    have g1 : Go F ρ H F (ρ ++ [x]) (upd (upd H dx (.own x)) x (.ins (ga K c) dx [])) := (Go.hp hdx).trans (Sr.goC hx1)
    have hl := sr.len
    have hix : (ρ ++ [x])[M.length]? = some x := by rw [← hl]; simp
    refine ⟨F, ρ ++ [x], _, _, u1, M1, s2, bld_rus (us := .m M.length :: us) (vs := .ref x :: vs) ⟨_, _, rfl, ⟨x, hix, rfl⟩, ru.mono g1.sf g1.pre⟩ (hd _ _ _) (rz.mono g1.sf g1.pre) sc, e1, fun F2 ρ2 H2 v g2 sr2 r2 => ?_⟩
    dsimp only at e2
    split at e2
    · cases r2
      refine ⟨rfl, ?_⟩
      split at e2
      · rename_i c' fs hc
        cases e2
        have hx2 : ρ2[M.length]? = some x := pre_get g2.pre hix
        obtain ⟨F3, ρ3, g3, sr3, r3⟩ := finP_ok F ρ H M F2 ρ2 H2 M1 (.m M.length) (.p (.ins c' fs)) (M1.take M.length) (.ref x) sr (g1.trans g2) sr2 ⟨x, hx2, rfl⟩ (by
          unfold finP
          dsimp only
          rw [if_neg (Nat.lt_irrefl _), hc])
        exact k F3 ρ3 H2 _ g3 sr3 r3
      · cases e2
    · cases e2
  · cases hm
theorem ew_mkK (cm : MkrN X.prog X.w X.K X.mg X.base k x (ga K c) (spW K g) n ks sc dvs) (hd : Flat ds dvs) (hr : Room j X.A) (ha : AW X K (e :: es) ma) (hkw : KW X K kws mk) (hg : Gl X x := by rfl) (hk : k + 1 ≤ j := by decide)
    (hall : (backToKw pos (keywordEach kws X.env)).all (·.1.isSome) = true := by rfl) (hks : (backToKw pos (keywordEach kws X.env)).filterMap (·.1) = ks := by rfl)
    (hdb : (x == ("__debug__" : Str)) = false := by decide)
    (he : starEach (e :: es) X.env = (false, eval e X.env) :: starEach es X.env := by rfl)
    (hpl : ((backTo pos (starEach (e :: es) X.env)).any (·.1) || (backToKw pos (keywordEach kws X.env)).any (·.1.isNone)) = false := by rfl) : EW X K (.Call (.Name x p) (e :: es) kws pos) (mMkK c n ks.length sc ds g ma mk) := by
  obtain ⟨f, fd, ps, Mk, F, m, b⟩ := cm.ex
  obtain ⟨its, b⟩ := b.ex
  refine ⟨fun pins s σ H Q I ⟨F0, ρ, us, M, u, M', sr, sv, hm, kk⟩ => ?_⟩
  obtain ⟨⟨y, M1⟩, e1, hm⟩ := bind2 hm
  obtain ⟨⟨z, M2⟩, e2, hm⟩ := bind2 hm
  refine wpAny_Call_Name_kw (ld_glob I hg m ?_ hdb)
  exact cw_gen (P := X.K.In) (first := []) (R := fun vs zs H2 => (vs.length = n ∧ zs.length = ks.length) ∧ ∀ x dx, H2 x = none → H2 dx = none → dx ≠ x → spW K g (bld sc (.ref x :: vs) dvs zs) (upd (upd H2 dx (.own x)) x (.ins (ga K c) dx [])) (fun v H3 => v = .non ∧ Q (.ref x) H3) E0) I (PySem.W.keeps_K Mk.kp) he hall hks hpl ha hkw
    ⟨F0, ρ, us, M, y, M1, sr, sv, e1, fun F1 ρ1 H1 vs g1 sr1 r1 => ⟨F1, ρ1, us, M1, z, M2, sr1, sv.mono g1.sf g1.pre, e2, fun F2 ρ2 H2 zs g2 sr2 r2 => mkK_ok sr2 (r1.mono g2.sf g2.pre) r2 hd hm fun F' ρ' H' v g3 => kk F' ρ' H' v ((g1.trans g2).trans g3)⟩⟩
    fun vs zs us ws H2 s2 I2 r rz q => ⟨I2.kIn, run_makeN Mk F (hr.mono hk) b passL I2 r rz q.1.1 q.1.2 q.2⟩
theorem ew_mkK0 (cm : MkrN X.prog X.w X.K X.mg X.base k x (ga K c) (spW K g) n ks sc dvs) (hd : Flat ds dvs) (hr : Room j X.A) (hkw : KW X K kws mk) (hg : Gl X x := by rfl) (hk : k + 1 ≤ j := by decide)
    (hall : (backToKw pos (keywordEach kws X.env)).all (·.1.isSome) = true := by rfl) (hks : (backToKw pos (keywordEach kws X.env)).filterMap (·.1) = ks := by rfl)
    (hdb : (x == ("__debug__" : Str)) = false := by decide)
    (hpl : ((backTo pos (starEach [] X.env)).any (·.1) || (backToKw pos (keywordEach kws X.env)).any (·.1.isNone)) = false := by rfl) : EW X K (.Call (.Name x p) [] kws pos) (mMkK c n ks.length sc ds g mNil mk) := by
  obtain ⟨f, fd, ps, Mk, F, m, b⟩ := cm.ex
  obtain ⟨its, b⟩ := b.ex
  refine ⟨fun pins s σ H Q I ⟨F0, ρ, us, M, u, M', sr, sv, hm, kk⟩ => ?_⟩
  obtain ⟨⟨y, M1⟩, e1, hm⟩ := bind2 hm
  obtain ⟨⟨z, M2⟩, e2, hm⟩ := bind2 hm
  refine wpAny_Call_Name_kw (ld_glob I hg m ?_ hdb)
  cases e1
  exact cw_gen0 (P := X.K.In) (first := []) (R := fun vs zs H2 => (vs.length = n ∧ zs.length = ks.length) ∧ ∀ x dx, H2 x = none → H2 dx = none → dx ≠ x → spW K g (bld sc (.ref x :: vs) dvs zs) (upd (upd H2 dx (.own x)) x (.ins (ga K c) dx [])) (fun v H3 => v = .non ∧ Q (.ref x) H3) E0) I (PySem.W.keeps_K Mk.kp) hall hks hpl hkw
    ⟨F0, ρ, us, M, z, M2, sr, sv, e2, fun F2 ρ2 H2 zs g2 sr2 r2 => mkK_ok (us := []) (vs := []) sr2 rfl r2 hd hm fun F' ρ' H' v g3 => kk F' ρ' H' v (g2.trans g3)⟩
    fun vs zs us ws H2 s2 I2 r rz q => ⟨I2.kIn, run_makeN Mk F (hr.mono hk) b passL I2 r rz q.1.1 q.1.2 q.2⟩
end
end Pz
/-! ### more of own classes -/
namespace Pz.Tr
open PySem PySem.W PyProof.Rows
section
variable {prog : Program} {w : World} {A : Around} {E : Value → Shared → Prop} {s : Shared} {K : Frag} {x C f : Addr} {ox : Obj} {od : Option Obj}
theorem truthy_len {Q : Bool → Shared → Prop} (X : K.In s.heap) (I : InstAt s.heap x ox C od) (hb : findIn K (.ref C) "__bool__" = some none) (hs : findIn K (.ref C) "__len__" = some (some (.ref f))) (hf : isFn K (.ref f) = true)
    (h : wpAny (model prog w) A.in1 (call (.ref f) [.ref x]) (W.LenBack fun v s' => ∀ n t, v = .int n t → Q (n != 0) s') E s) : wpAny (model prog w) A (truthy (.ref x)) Q E s := by
  unfold truthy
  refine wpAny_bind (m := callSpecial? (.ref x) (Str.ofString "__bool__")) (wpAny_bind (wpAny_bind (I.type.here ((looks_findIn X hb).here (wpAny_pure ?_)))))
  refine wpAny_bind (wpAny_bind (I.type.here ((looks_findIn X hs).here ?_)))
  refine wpAny_bind (wpAny_runValue (codeAny_builtin entry_len ?_))
  rw [Around.under_plainId (by decide +kernel) _]
  unfold Builtin.«len»
  refine wpAny_bind (m := oneArg "len" _) (wpAny_pure ?_)
  refine wpAny_bind (m := callSpecial? (.ref x) (Str.ofString "__len__")) (special_fn X I hs (beq_iff_eq.mp hf) (wpAny_mono h (fun r s' hr => ?_) fun _ _ y => y))
  cases r <;> first | exact hr.elim | skip
  rename_i n u
  obtain ⟨⟨h0, h1⟩, hq⟩ := hr
  refine wpAny_bind (wpAny_holding (wpAny_pure ?_))
  refine wpAny_bind (wpAny_letGo ?_)
  show wpAny _ _ (if n < 0 then _ else _) _ _ _
  rw [if_neg (by omega)]
  show wpAny _ _ (if n ≥ 2 ^ 63 then _ else _) _ _ _
  rw [if_neg (by omega)]
  refine wpAny_bind (wpAny_mkInt (wpAny_pure ?_))
  exact wpAny_pure (hq _ _ rfl)
theorem bool_tr {v : Value} {Q : Value → Shared → Prop} (tr : wpAny (model prog w) A.in1.in1 (truthy v) (fun b s' => Q (.bool b) s') E s) : wpAny (model prog w) A (call (.type "bool") [v]) Q E s := by
  refine callType_codes (T := "bool") (Bi := Builtin.«object.__init__») (Q₁ := fun r s₁ => ∃ b, r = .bool b ∧ Q r s₁) PySem.F.called_bool (PySem.F.typeCall_bool_1 _) PySem.F.entry_object_init ?_ ?_
  · refine codeAny_of_tree ?_
    show wpAny _ A.in1.in1 (do checkBuiltinCall "bool.__new__" ⟨[.type "bool", v], []⟩; again (.builtin "bool.__new__" ⟨[.type "bool", v], []⟩)) _ _ s
    refine wpAny_bind (wpAny_of_eq (PySem.F.newCall_bool_1 _) (wpAny_pure ⟨plainId_quiet (by decide +kernel) _, codeAny_builtin PySem.F.entry_bool_new ?_⟩))
    rw [Around.under_plainId (by decide +kernel) _]
    have f1 := PySem.F.conv_sub_bool
    obtain ⟨hp, g, d, tk, os⟩ := s
    repeat (any_goals (first | assumption | (with_reducible refine wpAny_mono tr (fun b s' q => ?_) fun _ _ y => y) | wp_step))
    all_goals exact ⟨b, rfl, q⟩
  · rintro obj s₁ ⟨y, rfl, hq⟩
    exact ⟨rfl, PySem.F.args_object_init_2 _ _, object_init_meets PySem.F.called_bool.init.lookup PySem.F.called_bool.made (by decide) prog w A.in1 _ s₁ ⟨rfl, rfl, hq⟩⟩
end
end Pz.Tr
namespace Pz
open PySem PySem.Spec PyProof.Rows L2 He Rt
section
variable {X : Cx}
/-- bool(x) by an own __len__ -/
def rBoolL (C : Addr) (sp : Sp) : List V → Hp → VK → Prop := fun xs H Q => ∃ a dx fs, xs = [.ref a] ∧ H a = some (.ins C dx fs) ∧ sp xs H (fun v H' => ∃ n : Int, v = .int n ∧ (0 ≤ n ∧ n < 2 ^ 63) ∧ Q (.bl (n != 0)) H') E0
theorem call_boolL {k : Nat} {C : Addr} {sp : Sp} (c : Sm X.prog X.w X.K X.mg X.base k C "__len__" sp) (hb : PySem.W.findIn X.K (.ref C) "__bool__" = some none) (hr : Room (k + 3) X.A) : CallR X (.type "bool") (rBoolL C sp) := by
  intro pins s σ H xs us Q I r h
  obtain ⟨f, fd, ps, F, hs, hf, kp, b⟩ := c.ex
  obtain ⟨a, dx, fs, rfl, ea, q⟩ := h
  have e := Vals.ref1 r
  subst e
  obtain ⟨od, J⟩ := ins_at I ea
  refine Tr.bool_tr (Tr.truthy_len I.kIn J hb hs hf (thn (run_at ⟨hr.in1.in1.in1, rfl⟩ F b passL I r q) fun w s' hw => ?_))
  obtain ⟨z, H', I', rz, n, rfl, hn, q'⟩ := hw
  obtain ⟨t, rfl⟩ := (show ∃ t, w = Value.int n t from rz)
  refine ⟨hn, fun m t e => ?_⟩
  cases e
  exact ⟨.bl (n != 0), H', I'.tok _, rfl, q'⟩
/-- len(x) by an own __len__ -/
def rLenO (C : Addr) (sp : Sp) : List V → Hp → VK → Prop := fun xs H Q => ∃ a dx fs, xs = [.ref a] ∧ H a = some (.ins C dx fs) ∧ sp xs H (fun v H' => ∃ n : Int, v = .int n ∧ (0 ≤ n ∧ n < 2 ^ 63) ∧ Q (.int n) H') E0
theorem call_lenO {k : Nat} {C : Addr} {sp : Sp} (c : Sm X.prog X.w X.K X.mg X.base k C "__len__" sp) (hr : Room (k + 1) X.A) : CallR X (.builtin "len") (rLenO C sp) := by
  intro pins s σ H xs us Q I r h
  obtain ⟨f, fd, ps, F, hs, hf, kp, b⟩ := c.ex
  obtain ⟨a, dx, fs, rfl, ea, q⟩ := h
  have e := Vals.ref1 r
  subst e
  obtain ⟨od, J⟩ := ins_at I ea
  obtain ⟨m', hF⟩ := I.fr
  refine PySem.W.len_K hF I.ok.mod.kin J hs hf (thn (run_at ⟨hr.in1, rfl⟩ F b passL I r q) fun w s' hw => ?_)
  obtain ⟨z, H', I', rz, n, rfl, hn, q'⟩ := hw
  obtain ⟨t, rfl⟩ := (show ∃ t, w = Value.int n t from rz)
  exact ⟨hn, .int n, H', I'.tok _, ⟨_, rfl⟩, q'⟩
end
def lenR (x : Option (U × Mm)) : Option (U × Mm) := x.bind fun y => match y.1 with
  | .p (.int n) => if 0 ≤ n ∧ n < 2 ^ 63 then some y else none
  | _ => none
def lenO (c : Str) (g : FA) : FA := fun us M => lenR (insU c g us M)
section
variable {X : Cx} {K : PySem.W.Frag} {c : Str} {g : FA}
theorem vr_lenO : VRA K (rLenO (ga K c) (spW K g)) (lenO c g) := by
  intro F ρ H M x u r M' Q sr ru hm kk
  obtain ⟨⟨y, M2⟩, e1, e2⟩ := bind2 hm
  dsimp only at e2
  unfold insU at e1
  split at e1
  · obtain ⟨v, vt, rfl, r0, rfl⟩ := ru
    split at e1
    · rename_i fs hf
      obtain ⟨a, dx, gs, rfl, e3, q1⟩ := insF_ok sr hf r0
      split at e2
      · split at e2
        · rename_i hn
          cases e2
          exact ⟨a, dx, gs, rfl, e3, sp_call sr (rus1 r0) e1 fun F' ρ' H' v g' s' r' => by
            cases r'
            exact ⟨_, rfl, hn, kk _ _ _ _ g' s' rfl⟩⟩
        · cases e2
      · cases e2
    · cases e1
  · cases e1
def boolL (c : Str) (g : FA) : FA := fun us M => (lenR (insU c g us M)).bind fun y => match y.1 with
  | .p (.int n) => some (.p (.bl (n != 0)), y.2)
  | _ => none
theorem vr_boolL : VRA K (rBoolL (ga K c) (spW K g)) (boolL c g) := by
  intro F ρ H M x u r M' Q sr ru hm kk
  obtain ⟨⟨y, M2⟩, e1, e2⟩ := bind2 hm
  dsimp only at e2
  obtain ⟨⟨z, M3⟩, e3, e4⟩ := bind2 e1
  dsimp only at e4
  unfold insU at e3
  split at e3
  · obtain ⟨v, vt, rfl, r0, rfl⟩ := ru
    split at e3
    · rename_i fs hf
      obtain ⟨a, dx, gs, rfl, e5, q1⟩ := insF_ok sr hf r0
      split at e4
      · split at e4
        · rename_i hn
          cases e4
          cases e2
          exact ⟨a, dx, gs, rfl, e5, sp_call sr (rus1 r0) e3 fun F' ρ' H' v g' s' r' => by
            cases r'
            exact ⟨_, rfl, hn, kk _ _ _ _ g' s' rfl⟩⟩
        · cases e4
      · cases e4
    · cases e3
  · cases e3
end
end Pz
/-! ### exceptions that are made: any built-in base -/
namespace Pz
open PySem PySem.Spec PyProof.Rows L2 He Rt
/-- what the written part says of an exception class over bmB -/
structure XcC (K : PySem.W.Frag) (C : Addr) (bmB : List Value) (newId : String) : Prop where
  init : PySem.W.excInitIn K C bmB newId = true
  over : PySem.W.excOver K C bmB = true
  hd : PySem.W.hasDictIn K C = true
  sa : PySem.W.findIn K (.ref C) "__setattr__" = some (some (.builtin "object.__setattr__"))
  kC : PySem.W.keepIn K (.ref C) = true
section
variable {X : Cx} {pins : List (Addr × Obj)} {σ : L2.St} {H : Hp} {s : Shared} {a C dx : Addr} {f : Str} {y : V} {u : Value} {fs : List (Str × V)} {Q : Unit → Shared → Prop} {E : Value → Shared → Prop} {A : Around} {B newId : String} {bmB : List Value}
theorem xc_dict {K : PySem.W.Frag} (h : PySem.W.hasDictIn K C = true) : ∃ cd, PySem.W.clsIn K C = some cd ∧ cd.hasDict = true := by
  unfold PySem.W.hasDictIn at h
  cases e : PySem.W.clsIn K C with
  | none => rw [e] at h; cases h
  | some cd => rw [e] at h; exact ⟨cd, rfl, by simpa using h⟩
theorem taker_none {K : PySem.W.Frag} (h : PySem.W.findIn K (.ref C) f = some none) : PySem.W.takerIn K C f = some none := by
  unfold PySem.W.takerIn
  rw [h]
  rfl
/-- the exception at a gets its dict at dx -/
theorem inv_xd {h' : Heap} {t' : Nat} {mA : Str → Option Value} {t1 : Addr} (I : Inv X pins σ H s) (e : H a = some (exo a C none)) (dn : s.heap.objs.size ≤ dx) (k : ∀ b o, b ≠ a → s.heap.get? b = some o → h'.get? b = some o)
    (hx : h'.get? a = some ({ cls := .ref C, dict := some dx, data := .fields #[.ref t1, .none, .none, .none, .bool false, .none] } : Obj)) (hn : h'.Ns1 dx mA) (rel : ∀ g, RelO (fs.lookup g) (mA g)) :
    Inv X pins σ (upd (upd H dx (exd dx fs)) a (exo a C (some dx))) { s with heap := h', toks := t' } := by
  have hnd : H dx = none := I.hok.fresh dn
  have old : ∀ {b : Addr} {o : Obj}, s.heap.get? b = some o → b ≠ dx := fun q => Nat.ne_of_lt (Nat.lt_of_lt_of_le (Heap.lt_size q) dn)
  have far : ∀ {b : Addr}, H b = none → b ≠ a := fun n z => by
    rw [z, e] at n
    cases n
  have same : ∀ {b : Addr}, b ≠ a → b ≠ dx → upd (upd H dx (exd dx fs)) a (exo a C (some dx)) b = H b := fun h1 h2 => by rw [upd_ne h1, upd_ne h2]
  have un : Un X.fs [] H (upd (upd H dx (exd dx fs)) a (exo a C (some dx))) s.heap h' :=
    { keep := fun b o q n _ _ => k b o (far n) q
      slot := fun b o q n _ _ => ⟨o.slots, k b o (far n) q⟩
      free := fun b o q n _ => (same (far n) (old q)).trans n
      there := fun b o q _ => if hb : b = a then ⟨_, hb ▸ hx⟩ else ⟨o, k b o hb q⟩
      tups := fun b xs q => (same (at_ne e q exo_tup) (ne_of_none q hnd)).trans q
      frzs := fun b o v q => (same (at_ne e q exo_frz) (ne_of_none q hnd)).trans q
      tbls := fun b ps q => ⟨#[], by rw [same (at_ne e q exo_tbl) (ne_of_none q hnd), q]; simp⟩ }
  refine I.un (t' := t') un fun b o q => ?_
  by_cases hb : b = a
  · subst hb
    rw [upd_same] at q
    cases q
    exact exo_ok hx
  by_cases hd : b = dx
  · subst hd
    rw [upd_ne hb, upd_same] at q
    cases q
    exact exd_ok hn rel
  rw [same hb hd] at q
  have own : ∀ {c : Addr}, H c = some (.own b) → c ≠ a := fun hc => at_ne e hc exo_own
  exact (I.hok b o q).stay (fun c v hc z => k c v (hc.elim (fun y => y ▸ hb) own) z) (fun c hc => (same (own hc) (ne_of_none hc hnd)).trans hc) fun c xs hc => (same (at_ne e hc exo_tup) (ne_of_none hc hnd)).trans hc
/-- self.f = y, the first one -/
theorem ostX_new (SF : StoreFacts B bmB "object.__setattr__" "object") (T : XcC X.K C bmB newId) (I : Inv X pins σ H s) (e : H a = some (exo a C none)) (hno : PySem.W.findIn X.K (.ref C) f = some none) (ry : RelV y u)
    (h : ∀ dx s', H dx = none → dx ≠ a → Inv X pins σ (upd (upd H dx (exd dx [(f, y)])) a (exo a C (some dx))) s' → Q () s') : wpAny (model X.prog X.w) A (setAttr (.ref a) f u) Q E s := by
  obtain ⟨cd, hcl, hcd⟩ := xc_dict T.hd
  obtain ⟨t1, ho⟩ := exo_at I.hok e
  have J : PySem.W.InstAt s.heap a { cls := .ref C, dict := none, data := .fields #[.ref t1, .none, .none, .none, .bool false, .none] } C none := ⟨ho, rfl, rfl, trivial⟩
  refine PySem.W.set_plain I.kIn J T.sa ?_
  refine PySem.W.osa_openX SF I.kIn J T.over (taker_none hno) fun b => ?_
  have hcls : PySem.W.Looks (model X.prog X.w) s.heap (classData C) cd := PySem.W.looks_clsIn I.kIn hcl
  obtain ⟨nm, bs, mro, ns, qn, hd, sn, sb, ab, col, del⟩ := cd
  dsimp only at hcd
  subst hcd
  obtain ⟨hp, g, d, t, os⟩ := s
  show wpAny _ _ (Builtin.ObjectAttr.storeInOwnDict (.ref a) (.ref C) (.str f _) f u b) _ _ _
  unfold Builtin.ObjectAttr.storeInOwnDict Builtin.ObjectAttr.ownDictForStores
  repeat (first | with_reducible refine PySem.HandSPX.store_in_new ?_ ?_ | with_reducible refine PySem.wpAny_loadPart_at ho ?_ | with_reducible refine hcls.at ?_ | wp_step)
  · have hne : a ≠ hp.objs.size := Nat.ne_of_lt (Heap.lt_size ho)
    exact ⟨_, #[], _, (Heap.get?_update_ne _ _ _ _ (Ne.symm hne)).trans (Heap.get?_push_at rfl rfl), rfl, fun e he => absurd he (by simp), fun _ => rfl⟩
  · intro h' tk' hn' hs
    have hne : a ≠ hp.objs.size := Nat.ne_of_lt (Heap.lt_size ho)
    have hx₁ : (hp.push { cls := .type "dict", data := .dict #[] }).get? a = some ({ cls := .ref C, dict := none, data := .fields #[.ref t1, .none, .none, .none, .bool false, .none] } : Obj) := Heap.get?_push_of_some _ ho
    have hx : h'.get? a = some ({ cls := .ref C, dict := some hp.objs.size, data := .fields #[.ref t1, .none, .none, .none, .bool false, .none] } : Obj) := (hs.2 a hne).trans (Heap.get?_update_self _ hx₁ rfl)
    have kk : ∀ b o, b ≠ a → hp.get? b = some o → h'.get? b = some o := fun b o hb z => (hs.2 b (Nat.ne_of_lt (Heap.lt_size z))).trans ((Heap.get?_update_ne _ _ _ _ hb).trans (Heap.get?_push_of_some _ z))
    exact h _ _ (I.hok.fresh (Nat.le_refl _)) (Ne.symm hne) (inv_xd (t' := tk') I e (Nat.le_refl _) kk hx hn' (relO_put (fs := []) ry fun g => True.intro))
/-- self.f = y, a further one -/
theorem ostX_old (SF : StoreFacts B bmB "object.__setattr__" "object") (T : XcC X.K C bmB newId) (I : Inv X pins σ H s) (e : H a = some (exo a C (some dx))) (ed : H dx = some (exd dx fs)) (hl : fs.length ≤ 900) (hno : PySem.W.findIn X.K (.ref C) f = some none) (ry : RelV y u)
    (h : ∀ s', Inv X pins σ (upd H dx (exd dx ((f, y) :: fs))) s' → Q () s') : wpAny (model X.prog X.w) A (setAttr (.ref a) f u) Q E s := by
  obtain ⟨cd, hcl, hcd⟩ := xc_dict T.hd
  obtain ⟨t1, ho⟩ := exo_at I.hok e
  obtain ⟨mA, hns, rel⟩ := exd_at I.hok ed
  have hw := within_of rel
  obtain ⟨oD, _, _, hoD, _, _⟩ := hns.count hw
  have J : PySem.W.InstAt s.heap a { cls := .ref C, dict := some dx, data := .fields #[.ref t1, .none, .none, .none, .bool false, .none] } C (some oD) := ⟨ho, rfl, rfl, hoD⟩
  refine PySem.W.set_plain I.kIn J T.sa ?_
  refine PySem.W.osa_openX SF I.kIn J T.over (taker_none hno) fun b => ?_
  have hcls : PySem.W.Looks (model X.prog X.w) s.heap (classData C) cd := PySem.W.looks_clsIn I.kIn hcl
  obtain ⟨nm, bs, mro, ns, qn, hd, sn, sb, ab, col, del⟩ := cd
  dsimp only at hcd
  subst hcd
  obtain ⟨hp, g, d, t, os⟩ := s
  show wpAny _ _ (Builtin.ObjectAttr.storeInOwnDict (.ref a) (.ref C) (.str f _) f u b) _ _ _
  unfold Builtin.ObjectAttr.storeInOwnDict Builtin.ObjectAttr.ownDictForStores
  have hz : (fs.map (·.1)).length ≤ 1000 := by rw [List.length_map]; omega
  repeat (first | with_reducible refine PySem.OEX.store_in_old hns hw hz ?_ | with_reducible refine PySem.wpAny_loadPart_at ho ?_ | with_reducible refine hcls.at ?_ | wp_step)
  intro h' tk' hn' hs
  have there : ∃ o, h'.get? dx = some o := by
    obtain ⟨o, _, _, z, _⟩ := hn'
    exact ⟨o, z⟩
  exact h _ (I.write (t' := tk') (x := dx) (e := dx) (o := exd dx ((f, y) :: fs)) (by rw [ed]; exact True.intro) (.inl rfl) (fun b o hb z => (hs.2 b hb).trans z) there (exd_ok hn' (relO_put ry rel)))
end
/-! ### an __init__ that stores one or two of its parameters -/
def tOstX (K : PySem.W.Frag) (C : Addr) (f : Str) (to te : TE) : TS := fun D σ H => te σ H fun y H1 => to σ H1 fun x H2 => ∃ a : Addr, x = .ref a ∧ PySem.W.findIn K (.ref C) f = some none ∧
  ((H2 a = some (exo a C none) ∧ ∀ dx, H2 dx = none → dx ≠ a → D.nx σ (upd (upd H2 dx (exd dx [(f, y)])) a (exo a C (some dx)))) ∨
    ∃ (dx : Addr) (fs : List (Str × V)), H2 a = some (exo a C (some dx)) ∧ H2 dx = some (exd dx fs) ∧ fs.length ≤ 900 ∧ D.nx σ (upd H2 dx (exd dx ((f, y) :: fs))))
section
variable {X : Cx} {o e : Expr} {to te : TE} {f : Str} {p' pos : Pos} {C : Addr} {B newId : String} {bmB : List Value}
theorem ps_ostX (SF : StoreFacts B bmB "object.__setattr__" "object") (T : XcC X.K C bmB newId) (ho : PE X o to) (he : PE X e te) (hs : swapsWith e (some (.Attribute o f p')) pos.line X.env = pure false := by rfl) : PS X (.Assign [.Attribute o f p'] e pos) (tOstX X.K C f to te) := by
  refine ⟨fun pins s σ H D I h => ?_⟩
  refine plainObj_wpAny_Assign_Attribute (thn (he.run pins s σ H _ I h) fun v s1 ⟨y, H1, I1, r1, q1⟩ => thn (ho.run pins s1 σ H1 _ I1 q1) fun u s2 ⟨x, H2, I2, r2, a, ex, hno, q⟩ => ?_) hs
  subst ex
  obtain rfl : u = Value.ref a := r2
  rcases q with ⟨ea, q⟩ | ⟨dx, fs, ea, ed, hl, q⟩
  · exact ostX_new SF T I2 ea hno r1 fun dx s' n ne J => ⟨σ, _, J, q dx n ne⟩
  · exact ostX_old SF T I2 ea ed hl hno r1 fun s' J => ⟨σ, _, J, q⟩
end
def spX1 (C : Addr) (f : Str) : Sp := fun vs H Q _ => ∃ (a : Addr) (y : V), vs = [.ref a, y] ∧ H a = some (exo a C none) ∧ ∀ dx, H dx = none → dx ≠ a → Q .non (upd (upd H dx (exd dx [(f, y)])) a (exo a C (some dx)))
section
variable {P : Program} {w : World} {K : PySem.W.Frag} {mg : Str → Option Value} {base : Heap} {C a : Addr} {fd : FuncData} {qual : Str} {st : Stmt} {f p : Str} {q1 q2 q3 q4 : Pos} {B newId : String} {bmB : List Value}
/-- def __init__(self, p): self.f = p -/
theorem okX1 (SF : StoreFacts B bmB "object.__setattr__" "object") (T : XcC K C bmB newId) (F : FnD K "__init__" qual st [] a fd) (S : FnScope ["self", p] ["self", p] (defScope st)) (hb : defBody st = [.Assign [.Attribute (.Name "self" q1) f q2] (.Name p q3) q4])
    (hno : PySem.W.findIn K (.ref C) f = some none) (v0 : Vis (defScope st) "self") (v1 : Vis (defScope st) p) (hd : (p == ("__debug__" : Str)) = false := by decide) (hcd : (p == ("__classdict__" : Str)) = false := by decide) : FnOk P w K mg base (L2.CX P w) 1 a fd ["self", p] (spX1 C f) := by
  refine okF (k := 0) F S (fun vs H Q E h => ?_) fun cdv A outer s H vs Q E hr h => ?_
  · obtain ⟨a, y, rfl, _⟩ := h
    rfl
  · obtain ⟨x, y, rfl, ea, k⟩ := h
    rw [hb]
    refine ⟨_, pss_one (ps_ostX SF T (pe_var (i := 0) rfl v0 (by decide) (by decide)) (pe_var (i := 1) rfl v1 hd hcd) (by rfl)), ?_⟩
    exact ⟨y, rfl, .ref x, rfl, x, rfl, hno, .inl ⟨ea, k⟩⟩
end
def spX2 (C : Addr) (f g : Str) : Sp := fun vs H Q _ => ∃ (a : Addr) (y z : V), vs = [.ref a, y, z] ∧ H a = some (exo a C none) ∧ ∀ dx, H dx = none → dx ≠ a → Q .non (upd (upd (upd H dx (exd dx [(f, y)])) a (exo a C (some dx))) dx (exd dx [(g, z), (f, y)]))
section
variable {P : Program} {w : World} {K : PySem.W.Frag} {mg : Str → Option Value} {base : Heap} {C a : Addr} {fd : FuncData} {qual : Str} {st : Stmt} {f g p r : Str} {q1 q2 q3 q4 q5 q6 q7 q8 : Pos} {B newId : String} {bmB : List Value}
/-- def __init__(self, p, r): self.f = p; self.g = r -/
theorem okX2 (SF : StoreFacts B bmB "object.__setattr__" "object") (T : XcC K C bmB newId) (F : FnD K "__init__" qual st [] a fd) (S : FnScope ["self", p, r] ["self", p, r] (defScope st)) (hb : defBody st = [.Assign [.Attribute (.Name "self" q1) f q2] (.Name p q3) q4, .Assign [.Attribute (.Name "self" q5) g q6] (.Name r q7) q8])
    (hf : PySem.W.findIn K (.ref C) f = some none) (hg : PySem.W.findIn K (.ref C) g = some none) (v0 : Vis (defScope st) "self") (v1 : Vis (defScope st) p) (v2 : Vis (defScope st) r) (hd : (p == ("__debug__" : Str)) = false := by decide) (hcd : (p == ("__classdict__" : Str)) = false := by decide)
    (hd2 : (r == ("__debug__" : Str)) = false := by decide) (hcd2 : (r == ("__classdict__" : Str)) = false := by decide) : FnOk P w K mg base (L2.CX P w) 1 a fd ["self", p, r] (spX2 C f g) := by
  refine okF (k := 0) F S (fun vs H Q E h => ?_) fun cdv A outer s H vs Q E hr h => ?_
  · obtain ⟨a, y, z, rfl, _⟩ := h
    rfl
  · obtain ⟨x, y, z, rfl, ea, k⟩ := h
    rw [hb]
    refine ⟨_, pss_cons (ps_ostX SF T (pe_var (i := 0) rfl v0 (by decide) (by decide)) (pe_var (i := 1) rfl v1 hd hcd) (by rfl)) (pss_one (ps_ostX SF T (pe_var (i := 0) rfl v0 (by decide) (by decide)) (pe_var (i := 2) rfl v2 hd2 hcd2) (by rfl))), ?_⟩
    refine ⟨y, rfl, .ref x, rfl, x, rfl, hf, .inl ⟨ea, fun dx hn hne => ?_⟩⟩
    exact ⟨z, rfl, .ref x, rfl, x, rfl, hg, .inr ⟨dx, [(f, y)], upd_same, by rw [upd_ne hne, upd_same], Nat.le_of_ble_eq_true rfl, k dx hn hne⟩⟩
end
section
variable {X : Cx} {pins : List (Addr × Obj)} {σ : L2.St} {H : Hp} {s : Shared} {C fI : Addr} {k : Nat} {fd : FuncData} {ps : List Str} {sp : Sp} {us : List Value} {vs : List V} {B newId initId : String} {bmB : List Value} {Q : Value → Shared → Prop}
/-- C(..): the exception is laid, then its __init__ runs; what follows sees it under the name of its object -/
theorem call_X (FB : ExcBaseFacts B newId initId bmB) (T : XcC X.K C bmB newId) (iC : PySem.W.findIn X.K (.ref C) "__init__" = some (some (.ref fI))) (tI : PySem.W.typeIn X.K (.ref fI) = some (.type "function"))
    (F1 : FnOk X.prog X.w X.K X.mg X.base (L2.CX X.prog X.w) k fI fd ps sp) (hr : Room (k + 1) X.A) (hb : Binds X.K fd ps []) (I : Inv X pins σ H s) (r : Vals vs us) (hz : vs.length ≤ 1000) {R : Addr → Hp → Prop}
    (hsp : ∀ a, H a = none → sp (.ref a :: vs) (upd H a (exo a C none)) (fun v H2 => v = .non ∧ R a H2) E0)
    (hk : ∀ a H2 s2, s.heap.objs.size ≤ a → (∀ b o, s.heap.get? b = some o → b ≠ a) → s2.os = s.os → AllBare s2.gens → Un (frs X.stack) [] (upd H a (exo a C none)) H2 ((s.heap.push (PySem.W.kdv_tup us)).push (PySem.HandSPX.excO C s.heap.objs.size)) s2.heap → HOk X.prog X.w H2 s2.heap → Inv X pins σ H2 s2 → R a H2 → Q (.ref a) s2) :
    wpAny (model X.prog X.w) X.A (call (.ref C) us) Q X.xe s := by
  obtain ⟨nm, N, qn, bs, bm, hdct, sn, sub, ab, col, dd, k0, k1, k2, k3, k5, hC, hT⟩ := PySem.W.excInit_of I.kIn T.init
  obtain ⟨hp, g, dr, tk, os⟩ := s
  have hsz : hp.objs.size ≤ hp.objs.size + 1 := Nat.le_succ _
  have hn : H (hp.objs.size + 1) = none := I.hok.fresh hsz
  have hq := hsp (hp.objs.size + 1) hn
  have kk : ∀ b o, hp.get? b = some o → ((hp.push (PySem.W.kdv_tup us)).push (PySem.HandSPX.excO C hp.objs.size)).get? b = some o := fun b o e => Heap.get?_push_of_some _ (Heap.get?_push_of_some _ e)
  have hget : ((hp.push (PySem.W.kdv_tup us)).push (PySem.HandSPX.excO C hp.objs.size)).get? (hp.objs.size + 1) = some (PySem.HandSPX.excO C hp.objs.size) := by heap_get
  have I2 := I.laid (t' := tk) (a := hp.objs.size + 1) (o := exo (hp.objs.size + 1) C none) (h' := (hp.push (PySem.W.kdv_tup us)).push (PySem.HandSPX.excO C hp.objs.size)) kk hsz (exo_ok hget)
  have r2 : Vals (V.ref (hp.objs.size + 1) :: vs) (Value.ref (hp.objs.size + 1) :: us) := .cons rfl r
  have hl : ((Value.ref (hp.objs.size + 1) :: us) ++ []).length = ps.length := by
    rw [List.append_nil, ← r2.length]
    exact F1.len _ _ _ _ hq
  have hus : us.length ≤ sizeLine := by
    rw [← Paired.length r, sizeLine_eq]
    omega
  have bt := hb _ (Value.ref (hp.objs.size + 1) :: us) I2.kIn hl
  rw [List.append_nil] at bt
  refine wpAny_call (PySem.HandSPX.call_own FB hT hC (PySem.W.looks_findIn I.kIn iC) (fun self => PySem.W.bind_fn I.kIn self tI) hus
    (codeAny_mono (F1.run _ X.stack _ _ ⟨Value.ref (hp.objs.size + 1) :: us, []⟩ (Value.ref (hp.objs.size + 1) :: us) _ _ E0 (hr.make C us []) (I2.env0.make C us []) bt r2 hq) fun r s' hq' => ?_))
  cases r with
  | error er => exact passL pins σ _ _ er s' I2 hq'
  | ok fl =>
    cases fl with
    | ret u =>
      obtain ⟨v, H2, os2, bare2, un2, hok2, rv, ev, q2⟩ := hq'
      subst ev
      have I3 : Inv X pins σ H2 s' := by
        obtain ⟨_, _, I', _, z⟩ := I2.after (Q := fun _ H' => H' = H2) ⟨_, H2, os2, bare2, un2, hok2, rv, rfl⟩
        exact z ▸ I'
      exact ⟨rv, hk _ H2 s' hsz (fun b o z => Nat.ne_of_lt (Nat.lt_succ_of_lt (Heap.lt_size z))) os2 bare2 un2 hok2 I3 q2⟩
    | next => exact False.elim hq'
    | brk => exact False.elim hq'
    | cont => exact False.elim hq'
end
section
variable {X : Cx} {C fI : Addr} {k j : Nat} {fd : FuncData} {ps : List Str} {sp : Sp} {B newId initId : String} {bmB : List Value} {x : Str} {p pos : Pos} {e : Expr} {es : List Expr} {ta : TA}
/-- C(e, ..) as a value -/
def tMkV (C : Addr) (sp : Sp) (ta : TA) : TE := fun σ H Q => ta σ H fun vs H1 => vs.length ≤ 1000 ∧ ∀ a, H1 a = none → sp (.ref a :: vs) (upd H1 a (exo a C none)) (fun v H2 => v = .non ∧ Q (.ref a) H2) E0
theorem pe_mkV (FB : ExcBaseFacts B newId initId bmB) (T : XcC X.K C bmB newId) (iC : PySem.W.findIn X.K (.ref C) "__init__" = some (some (.ref fI))) (tI : PySem.W.typeIn X.K (.ref fI) = some (.type "function"))
    (F1 : FnOk X.prog X.w X.K X.mg X.base (L2.CX X.prog X.w) k fI fd ps sp) (hr : Room j X.A) (hb : Binds X.K fd ps []) (hg : Gl X x) (hm : X.mg x = some (.ref C)) (ha : PA X (e :: es) ta) (hk : k + 1 ≤ j := by decide)
    (hdb : (x == ("__debug__" : Str)) = false := by decide) (he : starEach (e :: es) X.env = (false, eval e X.env) :: starEach es X.env := by rfl) (hpl : (backTo pos (starEach es X.env)).any (·.1) = false := by rfl) : PE X (.Call (.Name x p) (e :: es) [] pos) (tMkV C sp ta) := by
  refine ⟨fun pins s σ H Q I h => ?_⟩
  refine wpAny_Call_Name_kw (ld_glob I hg hm ?_ hdb)
  refine PySem.W.callWith_K (h₀ := X.base) I.ok.mod.kin T.kC (thn (ha.run pos pins s σ H _ I h) fun us s1 ⟨vs, H1, I1, r1, hz, q1⟩ => ⟨I1.kIn, ?_⟩) he hpl
  exact call_X FB T iC tI F1 (hr.mono hk) hb I1 r1 hz (R := fun a H2 => Q (.ref a) H2) q1 fun a H2 s2 _ _ _ _ _ _ I3 q => ⟨.ref a, H2, I3, rfl, q⟩
/-- C(e, ..) to be raised -/
theorem pmk_X (FB : ExcBaseFacts B newId initId bmB) (T : XcC X.K C bmB newId) (Rs : Raises X (.ref C)) (iC : PySem.W.findIn X.K (.ref C) "__init__" = some (some (.ref fI))) (tI : PySem.W.typeIn X.K (.ref fI) = some (.type "function"))
    (F1 : FnOk X.prog X.w X.K X.mg X.base (L2.CX X.prog X.w) k fI fd ps sp) (hr : Room j X.A) (hb : Binds X.K fd ps []) (hg : Gl X x) (hm : X.mg x = some (.ref C)) (ha : PA X (e :: es) ta) (hk : k + 1 ≤ j := by decide)
    (hdb : (x == ("__debug__" : Str)) = false := by decide) (he : starEach (e :: es) X.env = (false, eval e X.env) :: starEach es X.env := by rfl) (hpl : (backTo pos (starEach es X.env)).any (·.1) = false := by rfl) : PMk X (.Call (.Name x p) (e :: es) [] pos) (tMkO C sp [] ta) := by
  intro pins s σ H Q I h
  refine wpAny_Call_Name_kw (ld_glob I hg hm ?_ hdb)
  refine PySem.W.callWith_K (h₀ := X.base) I.ok.mod.kin T.kC (thn (ha.run pos pins s σ H _ I h) fun us s1 ⟨vs, H1, I1, r1, hz, q1⟩ => ⟨I1.kIn, ?_⟩) he hpl
  refine call_X FB T iC tI F1 (hr.mono hk) hb I1 r1 hz (R := fun a H2 => ∃ (d : Addr) (fs : List (Str × V)), H2 a = some (exo a C (some d)) ∧ H2 d = some (exd d fs) ∧ H1 d = none ∧ Q (.ref C) (some d) (upd (del H2 a) d (.xd fs)))
    (fun a hn => by have := q1 a hn; rw [List.append_nil] at this; exact this) fun a H2 s2 hsz _ os2 bare2 un2 hok2 _ ⟨d, fs, ea, ed, hd1, q⟩ => ?_
  obtain ⟨h2, g2, d2, t2, o2⟩ := s2
  obtain ⟨hp, g1, d1, t1, o1⟩ := s1
  exact mk_end Rs I1 hsz (fun b o z => Heap.get?_push_of_some _ (Heap.get?_push_of_some _ z)) un2 hok2 os2 bare2 ea ed hd1 q
end
/-! ### e.f of an exception, as a value -/
section
variable {X : Cx} {pins : List (Addr × Obj)} {σ : L2.St} {H : Hp} {s : Shared} {a C dx : Addr} {fs : List (Str × V)} {f : Str} {v : V} {e : Expr} {te : TE} {pos : Pos}
theorem exA_get (I : Inv X pins σ H s) {d : Option Addr} (h : ExA H a C d) : ∃ (ob : Obj) (vs : Array Value), s.heap.get? a = some ob ∧ ob.cls = .ref C ∧ ob.dict = d ∧ ob.data = .fields vs := by
  rcases h with h | h
  · obtain ⟨t, z⟩ := exo_at I.hok h
    exact ⟨_, _, z, rfl, rfl, rfl⟩
  · have x : ObjOk X.prog X.w H s.heap a (exv a C d) := I.hok a _ h
    exact x.1
theorem inst_x {h : Heap} {ob : Obj} {vs : Array Value} {od : Obj} (ha : h.get? a = some ob) (hc : ob.cls = .ref C) (hd : ob.dict = some dx) (hf : ob.data = .fields vs) (ho : h.get? dx = some od) : PySem.W.InstAt h a ob C (some od) :=
  ⟨ha, hc, by unfold PySem.W.notCls; rw [hf], by rw [hd]; exact ho⟩
theorem inst_x0 {h : Heap} {ob : Obj} {vs : Array Value} (ha : h.get? a = some ob) (hc : ob.cls = .ref C) (hd : ob.dict = none) (hf : ob.data = .fields vs) : PySem.W.InstAt h a ob C none :=
  ⟨ha, hc, by unfold PySem.W.notCls; rw [hf], by rw [hd]; trivial⟩
theorem exD_get (I : Inv X pins σ H s) (h : ExD H dx fs) : ∃ mA, s.heap.Ns1 dx mA ∧ ∀ g, RelO (fs.lookup g) (mA g) := by
  rcases h with h | h
  · exact exd_at I.hok h
  · have x : ObjOk X.prog X.w H s.heap dx (.xd fs) := I.hok dx _ h
    obtain ⟨mA, h1, h2⟩ := x
    exact ⟨mA, h1, h2⟩
def tXV (K : PySem.W.Frag) (f : Str) (te : TE) : TE := fun σ H Q => te σ H fun x H1 => ∃ (a C dx : Addr) (fs : List (Str × V)) (v : V), x = .ref a ∧ ExA H1 a C (some dx) ∧ ExD H1 dx fs ∧ fs.lookup f = some v ∧ XfC K C ∧ PySem.W.findIn K (.ref C) f = some none ∧ Q v H1
theorem pe_xv (he : PE X e te) (hb : attributeBase e f X.env (eval e X.env) = eval e X.env := by rfl) : PE X (.Attribute e f pos) (tXV X.K f te) := by
  refine ⟨fun pins s σ H Q I h => ?_⟩
  refine attr_of hb (thn (he.run pins s σ H _ I h) fun u s1 ⟨x, H1, I1, rx, a, C, dx, fs, v, ex, ea, ed, l, T, hno, q⟩ => ?_)
  subst ex
  obtain rfl : u = Value.ref a := rx
  obtain ⟨ob, vs, ha, hc, hd, hf⟩ := exA_get I1 ea
  obtain ⟨mA, hns, hr⟩ := exD_get I1 ed
  obtain ⟨od, ho, hl⟩ := lookIn_ns hns
  obtain ⟨u, hu, ru⟩ := RelO.some_of (v := v) (o := mA f) (by rw [← l]; exact hr f)
  have J := inst_x ha hc hd hf ho
  exact HandSPX.exc_get I1.kIn J T.ga T.gg T.exC (PySem.W.findObj_own T.hdC hno rfl (by rw [hl, hu])) (handed_of ru) ⟨v, H1, I1.tok _, ru, q⟩
/-- isinstance(e, c), e an exception -/
def rIsX (K : PySem.W.Frag) : List V → Hp → VK → Prop := fun xs H Q => ∃ (a C : Addr) (d : Option Addr) (c : V) (cv : Value) (b : Bool), xs = [.ref a, c] ∧ ExA H a C d ∧ (∀ dx, d = some dx → ∃ fs, ExD H dx fs) ∧ ExcC K C ∧ (∀ u, RelV c u → u = cv) ∧ PySem.W.kitOne K (.ref C) cv = some b ∧ Q (.bl b) H
theorem call_isX : CallR X (.builtin "isinstance") (rIsX X.K) := by
  intro pins s σ H xs us Q I r h
  obtain ⟨a, C, d, c, cv, b, rfl, ea, hd, T, hcv, e, q⟩ := h
  cases r with
  | cons rx rr =>
    cases rr with
    | cons rt rr =>
      cases rr
      cases rx
      have ec := hcv _ rt
      subst ec
      obtain ⟨ob, vs, ha, hc, hdd, hf⟩ := exA_get I ea
      obtain ⟨od, J⟩ : ∃ od, PySem.W.InstAt s.heap a ob C od := by
        cases d with
        | none => exact ⟨none, inst_x0 ha hc hdd hf⟩
        | some dx =>
          obtain ⟨fs, ed⟩ := hd dx rfl
          obtain ⟨mA, hns, _⟩ := exD_get I ed
          obtain ⟨od, ho, _⟩ := lookIn_ns hns
          exact ⟨some od, inst_x ha hc hdd hf ho⟩
      exact PySem.W.kia_one (PySem.W.kitx_exc (by obtain ⟨cd, hc, _⟩ := xc_dict T.hd; rw [hc]; rfl) T.hg T.hk T.hs T.ha T.hn T.ht T.hm) I.kIn J e (fun z => nomatch z) fun tk => ⟨.bl b, H, I.kept (t' := tk) fun _ _ z => z, rfl, q⟩
end
end Pz
/-! ### exceptions as values, in mirrors -/
namespace Pz
open PySem PySem.Spec PyProof.Rows L2 He Rt
def notSelf : W → Bool
  | .tself => false
  | _ => true
/-- e.f of an exception -/
def xfU (oks : Str → Bool) (f : Str) : F1 := fun u M => match u with
  | .p (.exc c fs) => if oks c = true then (lookF f fs).bind fun w => if notSelf w = true then some (.p w, M) else none else none
  | _ => none
section
variable {X : Cx} {K : PySem.W.Frag} {e : Expr} {mo : E} {f : Str} {pos : Pos} {oks : Str → Bool}
theorem exc_at {F H : Hp} {ρ : List Addr} {M : Mm} {c : Str} {fs : List (Str × W)} {v : V} (sr : Sr K F ρ H M) (r : RU K F ρ (.p (.exc c fs)) v) :
    ∃ a, v = .ref a ∧ ((fs = [] ∧ ExA H a (ga K c) none) ∨ ∃ dx gs, ExA H a (ga K c) (some dx) ∧ ExD H dx gs ∧ RpF K F a fs gs) := by
  obtain ⟨a, rfl, q⟩ := r
  refine ⟨a, rfl, q.imp (fun ⟨x, y⟩ => ⟨by simpa using x, y.imp (sr.sub _ _) (sr.sub _ _)⟩) fun ⟨dx, gs, x, y, l⟩ => ⟨dx, gs, x.imp (sr.sub _ _) (sr.sub _ _), y.imp (sr.sub _ _) (sr.sub _ _), l⟩⟩
theorem ew_xv (hok : ∀ c, oks c = true → XfC K (ga K c) ∧ PySem.W.findIn K (.ref (ga K c)) f = some none) (he : EW X K e mo) (hK : X.K = K := by rfl) (hb : attributeBase e f X.env (eval e X.env) = eval e X.env := by rfl) : EW X K (.Attribute e f pos) (mUn (xfU oks f) mo) := by
  subst hK
  refine (pe_xv he hb).weak fun σ H Q ⟨F, ρ, us, M, u, M', sr, sv, hm, k⟩ => ?_
  obtain ⟨⟨x, M1⟩, e1, hm⟩ := bind2 hm
  refine ⟨F, ρ, us, M, x, M1, sr, sv, e1, fun F1 ρ1 H1 v g1 sr1 r1 => ?_⟩
  dsimp only at hm
  unfold xfU at hm
  split at hm
  · rename_i c fs
    split at hm
    · rename_i hc
      obtain ⟨w, e2, hm⟩ := bind2 hm
      split at hm
      · rename_i hs
        cases hm
        obtain ⟨a, rfl, q⟩ := exc_at sr1 r1
        rcases q with ⟨rfl, _⟩ | ⟨dx, gs, x1, x2, l⟩
        · cases e2
        · obtain ⟨z, e3, q2⟩ := (lookF_ok (f := f) l).1 w e2
          obtain ⟨h1, h2⟩ := hok c hc
          refine ⟨a, _, dx, gs, z, rfl, x1, x2, e3, h1, h2, k _ _ _ _ g1 sr1 ?_⟩
          rcases q2 with q2 | ⟨rfl, _⟩
          · exact q2
          · cases hs
      · cases hm
    · cases hm
  · cases hm
end
end Pz
/-! ### mirrors that may raise -/
namespace Pz
open PySem PySem.Spec PyProof.Rows L2 He Rt
/-- nothing is known, a value, an exception: its class, its fields -/
inductive Rz (S α : Type) where
  | no | ok (x : α) | ex (c : Str) (fs : List (Str × W)) (s : S)
section
variable {S R α β : Type}
def Rz.bind (r : Rz S α) (f : α → Rz S β) : Rz S β := match r with
  | .no => .no
  | .ok x => f x
  | .ex c fs s => .ex c fs s
def Rz.of (r : Option α) : Rz S α := match r with
  | none => .no
  | some x => .ok x
def Rz.lift (g : S → R) (r : Rz S α) : Rz R α := match r with
  | .no => .no
  | .ok x => .ok x
  | .ex c fs s => .ex c fs (g s)
def Rz.sat (r : Rz S α) (P : α → Prop) (Q : Str → List (Str × W) → S → Prop) : Prop := match r with
  | .no => False
  | .ok x => P x
  | .ex c fs s => Q c fs s
/-- the value alone -/
def Rz.opt (r : Rz S α) : Option α := match r with
  | .ok x => some x
  | _ => none
variable {P P' : α → Prop} {Q Q' : Str → List (Str × W) → S → Prop}
theorem Rz.sat_bind {r : Rz S α} {f : α → Rz S β} {P : β → Prop} (h : (r.bind f).sat P Q) : r.sat (fun x => (f x).sat P Q) Q := by
  cases r <;> exact h
theorem Rz.sat.imp {r : Rz S α} (h : r.sat P Q) (p : ∀ x, P x → P' x) (q : ∀ c fs s, Q c fs s → Q' c fs s) : r.sat P' Q' := by
  cases r with
  | no => exact h
  | ok x => exact p _ h
  | ex c fs s => exact q _ _ _ h
theorem Rz.sat_of {r : Option α} (h : (Rz.of r : Rz S α).sat P Q) : ∃ x, r = some x ∧ P x := by
  cases r with
  | none => exact h.elim
  | some x => exact ⟨x, rfl, h⟩
theorem Rz.sat_lift {g : S → R} {Q : Str → List (Str × W) → R → Prop} {r : Rz S α} (h : (r.lift g).sat P Q) : r.sat P fun c fs s => Q c fs (g s) := by
  cases r <;> exact h
theorem Rz.sat_opt {r : Rz S α} {x : α} (h : r.opt = some x) : r = .ok x := by
  cases r <;> cases h
  rfl
end
abbrev Xe := Sl → Mm → Rz Mm (U × Mm)
abbrev Xt := Sl → Mm → Rz Mm (Bool × Mm)
abbrev Xa := Sl → Mm → Rz Mm (List U × Mm)
abbrev Xs := Sl → Mm → Rz Mm (Fl × Sl × Mm)
abbrev F1x := U → Mm → Rz Mm (U × Mm)
abbrev F2x := U → U → Mm → Rz Mm (U × Mm)
abbrev FAx := List U → Mm → Rz Mm (U × Mm)
/-- the exception in the air: its class, its dict -/
def RX (K : PySem.W.Frag) (F : Hp) (c : Str) (fs : List (Str × W)) (cls : Value) (d : Option Addr) : Prop := cls = .ref (ga K c) ∧ ((fs = [] ∧ d = none) ∨ ∃ dx gs, d = some dx ∧ F dx = some (.xd gs) ∧ ∀ me, RpF K F me fs gs)
/-- what a context takes of exceptions, whatever its slots -/
def Wof (X : Cx) : XK := fun cls d H => ∀ u s', L2.XE X (fun c' d' _ H' => c' = cls ∧ d' = d ∧ H' = H) u s' → X.xe u s'
section
variable {X : Cx} {E : XK}
theorem takes_wof : Takes X (fun cls d _ H => Wof X cls d H) := fun u s' ⟨a, B, sI, pins, σ, H, cls, d, e, I, nb, up, sky, na, os, ag, w⟩ =>
  w u s' ⟨a, B, sI, pins, σ, H, cls, d, e, I, nb, up, sky, na, os, ag, rfl, rfl, rfl⟩
/-- a wish that may look at the number of the slots -/
theorem wof_ofL {W : WX} (tk : Takes X W) {cls : Value} {d : Option Addr} {H : Hp} (h : ∀ σ : L2.St, σ.length = X.N.length → W cls d σ H) : Wof X cls d H := fun u s' ⟨a, B, sI, pins, σ, H', cls', d', e, I, nb, up, sky, na, os, ag, e1, e2, e3⟩ =>
  tk u s' ⟨a, B, sI, pins, σ, H', cls', d', e, I, nb, up, sky, na, os, ag, by subst e1 e2 e3; exact h σ I.len⟩
theorem wof_of (tk : Takes X (fun cls d _ H => E cls d H)) {cls : Value} {d : Option Addr} {H : Hp} (h : E cls d H) : Wof X cls d H := wof_ofL tk fun _ _ => h
theorem passW : Passes (L2.CX X.prog X.w) X (Wof X) := passes_call takes_wof fun _ _ _ _ h => h
end
section
variable (K : PySem.W.Frag) (F : Hp) (ρ : List Addr) (H : Hp)
def kV (Q : VK) : U × Mm → Prop := fun x => ∀ F' ρ' H' v, Go F ρ H F' ρ' H' → Sr K F' ρ' H' x.2 → RU K F' ρ' x.1 v → Q v H'
def kT (Q : Bool → Hp → Prop) : Bool × Mm → Prop := fun x => ∀ F' ρ' H', Go F ρ H F' ρ' H' → Sr K F' ρ' H' x.2 → Q x.1 H'
def kA (Q : List V → Hp → Prop) : List U × Mm → Prop := fun x => ∀ F' ρ' H' v, Go F ρ H F' ρ' H' → Sr K F' ρ' H' x.2 → RUs K F' ρ' x.1 v → Q v H'
def kS (D : Ends) : Fl × Sl × Mm → Prop := fun x => ∀ F' ρ' H' σ', Go F ρ H F' ρ' H' → Sr K F' ρ' H' x.2.2 → FlQ K F' ρ' D x.2.1 σ' H' x.1
def kX (E : XK) : Str → List (Str × W) → Mm → Prop := fun c fs M' => ∀ F' ρ' H' cls d, Go F ρ H F' ρ' H' → Sr K F' ρ' H' M' → RX K F' c fs cls d → E cls d H'
end
section
variable (K : PySem.W.Frag) (E : XK)
def tX (m : Xe) : TE := fun σ H Q => ∃ F ρ us M, Sr K F ρ H M ∧ Sv K F ρ us σ ∧ (m us M).sat (kV K F ρ H Q) (kX K F ρ H E)
def tXT (m : Xt) : TT := fun σ H Q => ∃ F ρ us M, Sr K F ρ H M ∧ Sv K F ρ us σ ∧ (m us M).sat (kT K F ρ H Q) (kX K F ρ H E)
def tXA (m : Xa) : TA := fun σ H Q => ∃ F ρ us M, Sr K F ρ H M ∧ Sv K F ρ us σ ∧ (m us M).sat (kA K F ρ H Q) (kX K F ρ H E)
def tXS (m : Xs) : TS := fun D σ H => ∃ F ρ us M, Sr K F ρ H M ∧ Sv K F ρ us σ ∧ (m us M).sat (kS K F ρ H D) (kX K F ρ H E)
end
section
variable {K : PySem.W.Frag} {F F1 H H1 : Hp} {ρ ρ1 : List Addr} {E : XK}
theorem kV.go {Q : VK} (g : Go F ρ H F1 ρ1 H1) {x : U × Mm} (h : kV K F ρ H Q x) : kV K F1 ρ1 H1 Q x := fun F' ρ' H' v g' => h F' ρ' H' v (g.trans g')
theorem kT.go {Q : Bool → Hp → Prop} (g : Go F ρ H F1 ρ1 H1) {x : Bool × Mm} (h : kT K F ρ H Q x) : kT K F1 ρ1 H1 Q x := fun F' ρ' H' g' => h F' ρ' H' (g.trans g')
theorem kA.go {Q : List V → Hp → Prop} (g : Go F ρ H F1 ρ1 H1) {x : List U × Mm} (h : kA K F ρ H Q x) : kA K F1 ρ1 H1 Q x := fun F' ρ' H' v g' => h F' ρ' H' v (g.trans g')
theorem kS.go {D : Ends} (g : Go F ρ H F1 ρ1 H1) {x : Fl × Sl × Mm} (h : kS K F ρ H D x) : kS K F1 ρ1 H1 D x := fun F' ρ' H' v g' => h F' ρ' H' v (g.trans g')
theorem kX.go (g : Go F ρ H F1 ρ1 H1) {c : Str} {fs : List (Str × W)} {M : Mm} (h : kX K F ρ H E c fs M) : kX K F1 ρ1 H1 E c fs M := fun F' ρ' H' cls d g' => h F' ρ' H' cls d (g.trans g')
end
section
variable (X : Cx) (K : PySem.W.Frag)
def EX (e : Expr) (m : Xe) : Prop := PE X e (tX K (Wof X) m)
def TX (e : Expr) (m : Xt) : Prop := PT X e (tXT K (Wof X) m)
def AX (es : List Expr) (m : Xa) : Prop := PA X es (tXA K (Wof X) m)
def KX (es : List Keyword) (m : Xa) : Prop := PK X es (tXA K (Wof X) m)
def SX (st : Stmt) (m : Xs) : Prop := PS X st (tXS K (Wof X) m)
def SsX (st : List Stmt) (m : Xs) : Prop := PSs X st (tXS K (Wof X) m)
end
/-! ### what does not raise -/
def upE (m : E) : Xe := fun us M => .of (m us M)
def upT (m : T) : Xt := fun us M => .of (m us M)
def upA (m : As) : Xa := fun us M => .of (m us M)
def upS (m : S) : Xs := fun us M => .of (m us M)
section
variable {X : Cx} {K : PySem.W.Frag} {e : Expr} {es : List Expr} {kws : List Keyword} {st : Stmt} {sts : List Stmt}
theorem ex_up {m : E} (h : EW X K e m) : EX X K e (upE m) := h.weak fun σ H Q ⟨F, ρ, us, M, sr, sv, hm⟩ => by
  obtain ⟨⟨u, M'⟩, e, k⟩ := Rz.sat_of hm
  exact ⟨F, ρ, us, M, u, M', sr, sv, e, k⟩
theorem tx_up {m : T} (h : TW X K e m) : TX X K e (upT m) := h.weak fun σ H Q ⟨F, ρ, us, M, sr, sv, hm⟩ => by
  obtain ⟨⟨u, M'⟩, e, k⟩ := Rz.sat_of hm
  exact ⟨F, ρ, us, M, u, M', sr, sv, e, k⟩
theorem ax_up {m : As} (h : AW X K es m) : AX X K es (upA m) := h.weak fun σ H Q ⟨F, ρ, us, M, sr, sv, hm⟩ => by
  obtain ⟨⟨u, M'⟩, e, k⟩ := Rz.sat_of hm
  exact ⟨F, ρ, us, M, u, M', sr, sv, e, k⟩
theorem kx_up {m : As} (h : KW X K kws m) : KX X K kws (upA m) := h.weak fun σ H Q ⟨F, ρ, us, M, sr, sv, hm⟩ => by
  obtain ⟨⟨u, M'⟩, e, k⟩ := Rz.sat_of hm
  exact ⟨F, ρ, us, M, u, M', sr, sv, e, k⟩
theorem sx_up {m : S} (h : SW X K st m) : SX X K st (upS m) := h.weak fun D σ H ⟨F, ρ, us, M, sr, sv, hm⟩ => by
  obtain ⟨⟨fl, us', M'⟩, e, k⟩ := Rz.sat_of hm
  exact ⟨F, ρ, us, M, fl, us', M', sr, sv, e, k⟩
theorem ssx_up {m : S} (h : SsW X K sts m) : SsX X K sts (upS m) := h.weak fun D σ H ⟨F, ρ, us, M, sr, sv, hm⟩ => by
  obtain ⟨⟨fl, us', M'⟩, e, k⟩ := Rz.sat_of hm
  exact ⟨F, ρ, us, M, fl, us', M', sr, sv, e, k⟩
end
/-! ### arguments -/
def xNil : Xa := fun _ M => .ok ([], M)
def xCons (a : Xe) (r : Xa) : Xa := fun us M => (a us M).bind fun x => (r us x.2).bind fun y => .ok (x.1 :: y.1, y.2)
section
variable {X : Cx} {K : PySem.W.Frag} {E : XK} {pos : Pos} {e : Expr} {es : List Expr} {ma : Xe} {mr : Xa}
theorem x_nil {σ : L2.St} {H : Hp} {Q : List V → Hp → Prop} (q : tXA K E xNil σ H Q) : tNil σ H Q := by
  obtain ⟨F, ρ, us, M, sr, sv, k⟩ := q
  exact k _ _ _ [] Go.refl sr rfl
theorem x_cons {σ : L2.St} {H : Hp} {Q : List V → Hp → Prop} (q : tXA K E (xCons ma mr) σ H Q) : tCons (tX K E ma) (tXA K E mr) σ H Q := by
  obtain ⟨F, ρ, us, M, sr, sv, hm⟩ := q
  refine ⟨F, ρ, us, M, sr, sv, (Rz.sat_bind hm).imp (fun x k F1 ρ1 H1 v g1 sr1 r1 => ⟨F1, ρ1, us, x.2, sr1, sv.mono g1.sf g1.pre, (Rz.sat_bind k).imp (fun y k2 F2 ρ2 H2 v2 g2 sr2 r2 => ?_) fun _ _ _ => kX.go g1⟩) fun _ _ _ h => h⟩
  exact k2 F2 ρ2 H2 (v :: v2) (g1.trans g2) sr2 ⟨v, v2, rfl, r1.mono g2.sf g2.pre, r2⟩
theorem ax_nil : AX X K [] xNil := pa_nil.weak fun _ _ _ q => x_nil q
theorem ax_cons (ha : EX X K e ma) (hr : AX X K es mr) (hs : starEach (e :: es) X.env = (false, eval e X.env) :: starEach es X.env := by rfl) : AX X K (e :: es) (xCons ma mr) := (pa_cons ha hr hs).weak fun _ _ _ q => x_cons q
theorem kx_nil : KX X K [] xNil := pk_nil.weak fun _ _ _ q => x_nil q
theorem kx_cons {nm : Option Str} {kws : List Keyword} {kpos : Pos} (ha : EX X K e ma) (hr : KX X K kws mr) : KX X K (⟨nm, e, kpos⟩ :: kws) (xCons ma mr) := (pk_cons ha hr).weak fun _ _ _ q => x_cons q
end
/-! ### operators -/
def up1 (f : F1) : F1x := fun u M => .of (f u M)
def up2 (f : F2) : F2x := fun u v M => .of (f u v M)
def upF (f : FA) : FAx := fun us M => .of (f us M)
def xUn (f : F1x) (a : Xe) : Xe := fun us M => (a us M).bind fun x => f x.1 x.2
def xBin (f : F2x) (a b : Xe) : Xe := fun us M => (a us M).bind fun x => (b us x.2).bind fun y => f x.1 y.1 y.2
def xCall (f : FAx) (a : Xa) : Xe := fun us M => (a us M).bind fun x => f x.1 x.2
/-- a relation of values is served by a mirror that may raise -/
def VX1 (K : PySem.W.Frag) (E : XK) (r : V → Hp → VK → Prop) (f : F1x) : Prop := ∀ F ρ H M x u Q, Sr K F ρ H M → RU K F ρ u x → (f u M).sat (kV K F ρ H Q) (kX K F ρ H E) → r x H Q
def VX2 (K : PySem.W.Frag) (E : XK) (r : R2) (f : F2x) : Prop := ∀ F ρ H M x y u w Q, Sr K F ρ H M → RU K F ρ u x → RU K F ρ w y → (f u w M).sat (kV K F ρ H Q) (kX K F ρ H E) → r x y H Q
def VXA (K : PySem.W.Frag) (E : XK) (r : List V → Hp → VK → Prop) (f : FAx) : Prop := ∀ F ρ H M x u Q, Sr K F ρ H M → RUs K F ρ u x → (f u M).sat (kV K F ρ H Q) (kX K F ρ H E) → r x H Q
section
variable {X : Cx} {K : PySem.W.Frag} {E : XK} {pos : Pos} {a b : Expr} {ma mb : Xe} {mr : Xa}
theorem vx1_up {r : V → Hp → VK → Prop} {f : F1} (h : VR1 K r f) : VX1 K E r (up1 f) := fun F ρ H M x u Q sr ru hm => by
  obtain ⟨⟨c, M'⟩, e, k⟩ := Rz.sat_of hm
  exact h F ρ H M x u c M' Q sr ru e k
theorem vx2_up {r : R2} {f : F2} (h : VR2 K r f) : VX2 K E r (up2 f) := fun F ρ H M x y u w Q sr ru rw hm => by
  obtain ⟨⟨c, M'⟩, e, k⟩ := Rz.sat_of hm
  exact h F ρ H M x y u w c M' Q sr ru rw e k
theorem vxa_up {r : List V → Hp → VK → Prop} {f : FA} (h : VRA K r f) : VXA K E r (upF f) := fun F ρ H M x u Q sr ru hm => by
  obtain ⟨⟨c, M'⟩, e, k⟩ := Rz.sat_of hm
  exact h F ρ H M x u c M' Q sr ru e k
theorem x_un {r : V → Hp → VK → Prop} {f : F1x} (hf : VX1 K E r f) {σ : L2.St} {H : Hp} {Q : VK} (q : tX K E (xUn f ma) σ H Q) : tUn r (tX K E ma) σ H Q := by
  obtain ⟨F, ρ, us, M, sr, sv, hm⟩ := q
  exact ⟨F, ρ, us, M, sr, sv, (Rz.sat_bind hm).imp (fun x k F1 ρ1 H1 v g1 sr1 r1 => hf F1 ρ1 H1 x.2 v x.1 Q sr1 r1 (k.imp (fun _ => kV.go g1) fun _ _ _ => kX.go g1)) fun _ _ _ h => h⟩
theorem x_op {r : R2} {f : F2x} (hf : VX2 K E r f) {σ : L2.St} {H : Hp} {Q : VK} (q : tX K E (xBin f ma mb) σ H Q) : tOp r (tX K E ma) (tX K E mb) σ H Q := by
  obtain ⟨F, ρ, us, M, sr, sv, hm⟩ := q
  refine ⟨F, ρ, us, M, sr, sv, (Rz.sat_bind hm).imp (fun x k F1 ρ1 H1 v g1 sr1 r1 => ⟨F1, ρ1, us, x.2, sr1, sv.mono g1.sf g1.pre, (Rz.sat_bind k).imp (fun y k2 F2 ρ2 H2 v2 g2 sr2 r2 => ?_) fun _ _ _ => kX.go g1⟩) fun _ _ _ h => h⟩
  have gg := g1.trans g2
  exact hf F2 ρ2 H2 y.2 v v2 x.1 y.1 Q sr2 (r1.mono g2.sf g2.pre) r2 (k2.imp (fun _ => kV.go gg) fun _ _ _ => kX.go gg)
theorem x_call {r : List V → Hp → VK → Prop} {f : FAx} (hf : VXA K E r f) {σ : L2.St} {H : Hp} {Q : VK} (q : tX K E (xCall f mr) σ H Q) : tXA K E mr σ H (fun vs H1 => r vs H1 Q) := by
  obtain ⟨F, ρ, us, M, sr, sv, hm⟩ := q
  exact ⟨F, ρ, us, M, sr, sv, (Rz.sat_bind hm).imp (fun x k F1 ρ1 H1 v g1 sr1 r1 => hf F1 ρ1 H1 x.2 v x.1 Q sr1 r1 (k.imp (fun _ => kV.go g1) fun _ _ _ => kX.go g1)) fun _ _ _ h => h⟩
theorem ex_op {op : Operator} {r : R2} {f : F2x} (ho : OpR X (binaryOp op) r) (hf : VX2 K (Wof X) r f) (ha : EX X K a ma) (hb : EX X K b mb) : EX X K (.BinOp a op b pos) (xBin f ma mb) :=
  (pe_op ho ha hb).weak fun _ _ _ q => x_op hf q
theorem ex_un {op : UnaryOp} {r : V → Hp → VK → Prop} {f : F1x} (ho : UnR X (unaryOp op) r) (hf : VX1 K (Wof X) r f) (ha : EX X K a ma) : EX X K (.UnaryOp op a pos) (xUn f ma) :=
  (pe_un ho ha).weak fun _ _ _ q => x_un hf q
theorem ex_cmp {op : CmpOp} {r : R2} {f : F2x} (ho : OpR X (compareOp op) r) (hf : VX2 K (Wof X) r f) (ha : EX X K a ma) (hb : EX X K b mb) (hm : behindInMarks op b = false) : EX X K (.Compare a [op] [b] pos) (xBin f ma mb) :=
  (pe_cmpR ho ha hb hm).weak fun _ _ _ q => x_op hf q
end
/-! ### tests, choices -/
def xIsB : U × Mm → Rz Mm (Bool × Mm) := fun x => .of (isB x)
def xB (m : Xe) : Xt := fun us M => (m us M).bind xIsB
def xNot (m : Xt) : Xt := fun us M => (m us M).bind fun x => .ok (!x.1, x.2)
def xIfE (t : Xt) (a b : Xe) : Xe := fun us M => (t us M).bind fun x => if x.1 then a us x.2 else b us x.2
section
variable {X : Cx} {K : PySem.W.Frag} {E : XK} {pos : Pos} {e a b c : Expr} {m ma mb : Xe} {t u : Xt}
theorem x_b {σ : L2.St} {H : Hp} {Q : Bool → Hp → Prop} (q : tXT K E (xB m) σ H Q) : tB (tX K E m) σ H Q := by
  obtain ⟨F, ρ, us, M, sr, sv, hm⟩ := q
  refine ⟨F, ρ, us, M, sr, sv, (Rz.sat_bind hm).imp (fun x k F1 ρ1 H1 v g1 sr1 r1 => ?_) fun _ _ _ h => h⟩
  obtain ⟨⟨b, M1⟩, e, k2⟩ := Rz.sat_of k
  have e3 := isB_ok e
  subst e3
  exact ⟨b, r1, k2 _ _ _ g1 sr1⟩
theorem tx_val (h : EX X K e m) (he : ∀ whole, isTrue e X.env whole = (do let v ← whole; standAt e.pos; holding [v] (truthy v)) := by intro _; rfl) : TX X K e (xB m) := (pt_val h he).weak fun _ _ _ q => x_b q
theorem tx_cmp {op : CmpOp} {r : R2} {f : F2x} (ho : OpR X (compareOp op) r) (hf : VX2 K (Wof X) r f) (ha : EX X K a ma) (hb : EX X K b mb) (hm : behindInMarks op b = false) : TX X K (.Compare a [op] [b] pos) (xB (xBin f ma mb)) := by
  refine (pt_cmpR ho ha hb hm).weak fun σ H Q q => ?_
  obtain ⟨F, ρ, us, M, sr, sv, hm⟩ := x_b q
  exact x_op hf ⟨F, ρ, us, M, sr, sv, hm⟩
theorem tx_not (h : TX X K a t) : TX X K (.UnaryOp .Not a pos) (xNot t) := by
  refine (pt_not h).weak fun σ H Q ⟨F, ρ, us, M, sr, sv, hm⟩ => ?_
  exact ⟨F, ρ, us, M, sr, sv, (Rz.sat_bind hm).imp (fun x k => k) fun _ _ _ h => h⟩
theorem ex_ifE (h : TX X K c t) (ha : EX X K a ma) (hb : EX X K b mb) : EX X K (.IfExp c a b pos) (xIfE t ma mb) := by
  refine (pe_ifExp h ha hb).weak fun σ H Q ⟨F, ρ, us, M, sr, sv, hm⟩ => ?_
  refine ⟨F, ρ, us, M, sr, sv, (Rz.sat_bind hm).imp (fun x k F1 ρ1 H1 g1 sr1 => ?_) fun _ _ _ h => h⟩
  obtain ⟨c, M1⟩ := x
  cases c with
  | true => rw [if_pos rfl]; exact ⟨F1, ρ1, us, M1, sr1, sv.mono g1.sf g1.pre, k.imp (fun _ => kV.go g1) fun _ _ _ => kX.go g1⟩
  | false => rw [if_neg Bool.false_ne_true]; exact ⟨F1, ρ1, us, M1, sr1, sv.mono g1.sf g1.pre, k.imp (fun _ => kV.go g1) fun _ _ _ => kX.go g1⟩
end
/-! ### statements -/
def xSeq (a b : Xs) : Xs := fun us M => (a us M).bind fun x => match x with
  | (.nx, us1, M1) => b us1 M1
  | r => .ok r
def xIf (t : Xt) (a b : Xs) : Xs := fun us M => (t us M).bind fun x => if x.1 then a us x.2 else b us x.2
def xRet (a : Xe) : Xs := fun us M => (a us M).bind fun x => .ok (.ret x.1, us, x.2)
def xExpr (a : Xe) : Xs := fun us M => (a us M).bind fun x => .ok (.nx, us, x.2)
def xAsg (a : Xe) (g : Tg) : Xs := fun us M => (a us M).bind fun x => .of ((g x.1 us x.2).map fun y => (.nx, y.1, y.2))
section
variable {X : Cx} {K : PySem.W.Frag} {E : XK} {pos : Pos} {e : Expr} {st : Stmt} {rest : List Stmt} {m : Xe} {ms mr : Xs} {t : Xt}
theorem x_seq {D : Ends} {σ : L2.St} {H : Hp} (q : tXS K E (xSeq ms mr) D σ H) : tSeq (tXS K E ms) (tXS K E mr) D σ H := by
  obtain ⟨F, ρ, us, M, sr, sv, hm⟩ := q
  refine ⟨F, ρ, us, M, sr, sv, (Rz.sat_bind hm).imp (fun x k F1 ρ1 H1 σ1 g1 sr1 => ?_) fun _ _ _ h => h⟩
  obtain ⟨f1, us1, M1⟩ := x
  cases f1 with
  | nx => exact fun sv1 => ⟨F1, ρ1, us1, M1, sr1, sv1, k.imp (fun _ => kS.go g1) fun _ _ _ => kX.go g1⟩
  | ret u => exact k F1 ρ1 H1 σ1 g1 sr1
  | brk => exact k F1 ρ1 H1 σ1 g1 sr1
  | ct => exact k F1 ρ1 H1 σ1 g1 sr1
theorem sx_one (h : SX X K st ms) : SsX X K [st] ms := pss_one h
theorem sx_cons (h : SX X K st ms) (g : SsX X K rest mr) : SsX X K (st :: rest) (xSeq ms mr) := (pss_cons h g).weak fun _ _ _ q => x_seq q
theorem sx_expr (h : EX X K e m) (hs : swapsWith e none pos.line X.env = pure false := by rfl) : SX X K (.Expr e pos) (xExpr m) := (ps_expr h hs).weak fun D σ H ⟨F, ρ, us, M, sr, sv, hm⟩ =>
  ⟨F, ρ, us, M, sr, sv, (Rz.sat_bind hm).imp (fun x k F1 ρ1 H1 v g1 sr1 r1 => k F1 ρ1 H1 σ g1 sr1 (sv.mono g1.sf g1.pre)) fun _ _ _ h => h⟩
theorem sx_ret (h : EX X K e m) : SX X K (.Return (some e) pos) (xRet m) := (ps_ret h).weak fun D σ H ⟨F, ρ, us, M, sr, sv, hm⟩ =>
  ⟨F, ρ, us, M, sr, sv, (Rz.sat_bind hm).imp (fun x k F1 ρ1 H1 v g1 sr1 r1 => k F1 ρ1 H1 σ g1 sr1 v r1) fun _ _ _ h => h⟩
theorem x_if {D : Ends} {σ : L2.St} {H : Hp} (q : tXS K E (xIf t ms mr) D σ H) : tIfS (tXT K E t) (tXS K E ms) (tXS K E mr) D σ H := by
  obtain ⟨F, ρ, us, M, sr, sv, hm⟩ := q
  refine ⟨F, ρ, us, M, sr, sv, (Rz.sat_bind hm).imp (fun x k F1 ρ1 H1 g1 sr1 => ?_) fun _ _ _ h => h⟩
  obtain ⟨c, M1⟩ := x
  cases c with
  | true => rw [if_pos rfl]; exact ⟨F1, ρ1, us, M1, sr1, sv.mono g1.sf g1.pre, k.imp (fun _ => kS.go g1) fun _ _ _ => kX.go g1⟩
  | false => rw [if_neg Bool.false_ne_true]; exact ⟨F1, ρ1, us, M1, sr1, sv.mono g1.sf g1.pre, k.imp (fun _ => kS.go g1) fun _ _ _ => kX.go g1⟩
theorem sx_if {c : Expr} {a b : List Stmt} (hc : TX X K c t) (ha : SsX X K a ms) (hb : SsX X K b mr) : SX X K (.If c a b pos) (xIf t ms mr) := (ps_if hc ha hb).weak fun _ _ _ q => x_if q
theorem sx_asg {tg : Expr} {g : Tg} (he : EX X K e m) (hg : GW X K tg g) (hs : swapsWithSole [tg] e pos.line X.env = pure false := by rfl) (hw : swappedStores [tg] e X.env = pure none := by rfl)
    (h1 : (assignEach [tg] X.env).map (·.2) = [assign tg X.env] := by rfl) : SX X K (.Assign [tg] e pos) (xAsg m g) :=
  (ps_asg he hg hs hw h1).weak fun D σ H ⟨F, ρ, us, M, sr, sv, hm⟩ => by
    refine ⟨F, ρ, us, M, sr, sv, (Rz.sat_bind hm).imp (fun x k F1 ρ1 H1 v g1 sr1 r1 => ?_) fun _ _ _ h => h⟩
    obtain ⟨⟨fl, us', M'⟩, e1, k⟩ := Rz.sat_of k
    obtain ⟨⟨s1, M2⟩, e2, e3⟩ := Option.map_eq_some_iff.mp e1
    cases e3
    exact ⟨F1, ρ1, x.1, us, x.2, _, _, sr1, sv.mono g1.sf g1.pre, r1, e2, fun F' ρ' H' σ' g2 s2 => k F' ρ' H' σ' (g1.trans g2) s2⟩
theorem sx_set {i : Nat} {x : Str} {pos' : Pos} (hN : X.N.Nodup) (hi : X.N[i]? = some x) (hx : Loc X.env.scope x) (he : EX X K e m) (hs : swapsWith e (some (.Name x pos')) pos.line X.env = pure false := by rfl) (hf : X.fn x = true ∨ X.env.scope.names.lookup x = some .local := by first | exact .inl rfl | exact .inr rfl | assumption) :
    SX X K (.Assign [.Name x pos'] e pos) (xAsg m (gNm i)) :=
  (ps_set hN hi hx he hs hf).weak fun D σ H ⟨F, ρ, us, M, sr, sv, hm⟩ => by
    refine ⟨F, ρ, us, M, sr, sv, (Rz.sat_bind hm).imp (fun x k F1 ρ1 H1 v g1 sr1 r1 => ?_) fun _ _ _ h => h⟩
    exact k F1 ρ1 H1 _ g1 sr1 ((sv.mono g1.sf g1.pre).set i r1)
end
end Pz
/-! ### defs and calls that may raise -/
namespace Pz
open PySem PySem.Spec PyProof.Rows L2 He Rt
/-- a def's promise by its mirror -/
def spX (K : PySem.W.Frag) (g : FAx) : Sp := fun vs H Q E => ∃ F ρ us M, Sr K F ρ H M ∧ RUs K F ρ us vs ∧ (g us M).sat (kV K F ρ H Q) (kX K F ρ H E)
def xDef (np nl : Nat) (fin : Nat → U → Mm → Option (U × Mm)) (b : Xs) : FAx := fun us M => if us.length = np then ((b (us.map some ++ List.replicate nl none) M).lift (·.take M.length)).bind fun x => match x with
    | (.nx, _, M1) => .of (fin M.length (.p .non) M1)
    | (.ret u, _, M1) => .of (fin M.length u M1)
    | _ => .no
  else .no
section
variable {K : PySem.W.Frag} {F F1 H H1 : Hp} {ρ ρ1 : List Addr} {M M1 : Mm} {E : XK}
theorem kX.back (sr : Sr K F ρ H M) (g1 : Go F ρ H F1 ρ1 H1) {c : Str} {fs : List (Str × W)} (h : kX K F ρ H E c fs (M1.take M.length)) : kX K F1 ρ1 H1 E c fs M1 := fun F' ρ' H' cls d g s r => by
  refine h F' (ρ'.take M.length) H' cls d ?_ (s.take _) r
  have := (g1.trans g).back
  rw [sr.len] at this
  exact this
theorem kX.take (sr : Sr K F ρ H M) {c : Str} {fs : List (Str × W)} (h : kX K F ρ H E c fs (M1.take M.length)) : kX K F ρ H E c fs M1 := kX.back sr Go.refl h
end
section
variable {P : Program} {w : World} {K : PySem.W.Frag} {mg : Str → Option Value} {base : Heap}
theorem spX_len {np nl : Nat} {fin : Nat → U → Mm → Option (U × Mm)} {b : Xs} {vs : List V} {H : Hp} {Q : VK} {E : XK} (h : spX K (xDef np nl fin b) vs H Q E) : vs.length = np := by
  obtain ⟨F, ρ, us, M, sr, r, hm⟩ := h
  unfold xDef at hm
  split at hm
  · rename_i hl
    rw [← r.length]
    exact hl
  · exact hm.elim
theorem body_okX {np nl : Nat} {fin : Nat → U → Mm → Option (U × Mm)} {b : Xs} {N : List Str} {vs : List V} {H : Hp} {Q : VK} {E : XK} (hf : FinOk K fin) (hN : N.length = np + nl) (h : spX K (xDef np nl fin b) vs H Q E) :
    tXS K E b { nx := fun _ H' => Q .non H', rt := Q } (L2.start N vs) H := by
  have hl := spX_len h
  obtain ⟨F, ρ, us, M, sr, r, hm⟩ := h
  unfold xDef at hm
  split at hm
  · have hs : Sv K F ρ (us.map some ++ List.replicate nl none) (L2.start N vs) := by
      unfold L2.start
      have e : N.length - vs.length = nl := by omega
      rw [e]
      exact Sv.start r nl
    refine ⟨F, ρ, _, M, sr, hs, (Rz.sat_lift (Rz.sat_bind hm)).imp (fun x k F1 ρ1 H1 σ1 g1 sr1 => ?_) fun _ _ _ h => h.take sr⟩
    obtain ⟨fl, s1, M1⟩ := x
    cases fl with
    | nx =>
      intro _
      obtain ⟨⟨u, M'⟩, e2, k2⟩ := Rz.sat_of k
      obtain ⟨F2, ρ2, g2, s2, r2⟩ := hf F ρ H M F1 ρ1 H1 M1 (.p .non) u M' .non sr g1 sr1 rfl e2
      exact k2 F2 ρ2 H1 .non g2 s2 r2
    | ret u1 =>
      intro v rv
      obtain ⟨⟨u, M'⟩, e2, k2⟩ := Rz.sat_of k
      obtain ⟨F2, ρ2, g2, s2, r2⟩ := hf F ρ H M F1 ρ1 H1 M1 u1 u M' v sr g1 sr1 rv e2
      exact k2 F2 ρ2 H1 v g2 s2 r2
    | brk => exact k.elim
    | ct => exact k.elim
  · exact hm.elim
theorem tXS_imp {E E' : XK} {b : Xs} {D : Ends} {σ : L2.St} {H : Hp} (h : ∀ cls d H, E cls d H → E' cls d H) (q : tXS K E b D σ H) : tXS K E' b D σ H := by
  obtain ⟨F, ρ, us, M, sr, sv, hm⟩ := q
  exact ⟨F, ρ, us, M, sr, sv, hm.imp (fun _ h => h) fun _ _ _ k F' ρ' H' cls d g s r => h _ _ _ (k F' ρ' H' cls d g s r)⟩
/-- the context of a def takes its wish -/
theorem wof_cx {N : List Str} {qual : Str} {scope : Scope} {f : Addr} {cd : Value} {A : Around} {outer : List Env} {s : Shared} {H : Hp} {E : XK} {cls : Value} {d : Option Addr} {H' : Hp} (h : E cls d H') :
    Wof (cxOf (L2.CX P w) P w K mg base N qual scope f cd A outer s H E) cls d H' :=
  wof_of (takes_of (X := cxOf (L2.CX P w) P w K mg base N qual scope f cd A outer s H E) (E := E) rfl rfl rfl rfl) h
/-- a def of the text that may raise, by its body's mirror -/
theorem okX {x qual : Str} {st : Stmt} {dvs : List V} {f : Addr} {fd : FuncData} {N ps : List Str} {k nl : Nat} {fin : Nat → U → Mm → Option (U × Mm)} {b : Xs} (F : FnD K x qual st dvs f fd) (S : FnScope N ps (defScope st)) (hf : FinOk K fin) (hN : N.length = ps.length + nl)
    (hbody : ∀ (cdv : Value) (A : Around) (outer : List Env) (s : Shared) (H : Hp) (E : XK), Room k (A.deeper (envOfC qual (defScope st) s.heap.objs.size f cdv)) →
      SsX (cxOf (L2.CX P w) P w K mg base N qual (defScope st) f cdv A outer s H E) K (defBody st) b) : FnOk P w K mg base (L2.CX P w) (k + 1) f fd ps (spX K (xDef ps.length nl fin b)) :=
  F.ok S (fun vs H Q E h => spX_len h) fun cdv A outer s H vs Q E hr h => ⟨_, hbody cdv A outer s H E hr, tXS_imp (fun _ _ _ h => wof_cx h) (body_okX hf hN h)⟩
theorem okXG {x qual : Str} {st : Stmt} {dvs : List V} {f : Addr} {fd : FuncData} {N ps : List Str} {k nl : Nat} {fin : Nat → U → Mm → Option (U × Mm)} {b : Xs} (F : FnD K x qual st dvs f fd) (S : FnScope N ps (defScope st)) (hf : FinOk K fin) (hN : N.length = ps.length + nl)
    (hbody : ∀ (cdv : Value) (A : Around) (outer : List Env) (s : Shared) (H : Hp) (E : XK), A.guards = some [] → Room k (A.deeper (envOfC qual (defScope st) s.heap.objs.size f cdv)) →
      SsX (cxOf (L2.CX P w) P w K mg base N qual (defScope st) f cdv A outer s H E) K (defBody st) b) : FnG P w K mg base (k + 1) f fd ps (spX K (xDef ps.length nl fin b)) := by
  obtain ⟨oc, od, dV, kV, doc, pm, an, cdv, ct, osl, rfl, lk, hcd, _, _⟩ := F.ex
  exact fn_ofG lk hcd S (fun vs H Q E h => spX_len h) fun A outer s H vs Q E hg hr h => ⟨_, hbody cdv A outer s H E hg hr, tXS_imp (fun _ _ _ h => wof_cx h) (body_okX hf hN h)⟩
/-- where it does not raise -/
def optF (g : FAx) : FA := fun us M => (g us M).opt
theorem spW_opt {g : FAx} {vs : List V} {H : Hp} {Q : VK} {E : XK} (h : spW K (optF g) vs H Q E) : spX K g vs H Q E := by
  obtain ⟨F, ρ, us, M, u, M', sr, r, hm, k⟩ := h
  refine ⟨F, ρ, us, M, sr, r, ?_⟩
  rw [Rz.sat_opt hm]
  exact k
end
/-! ### calls -/
def xcallK (n m : Nat) (sc : List Sc) (ds : List U) (g : FAx) (us zs : List U) (M : Mm) : Rz Mm (U × Mm) := if us.length = n ∧ zs.length = m then g (bld sc us ds zs) M else .no
def xGdK (n m : Nat) (sc : List Sc) (ds : List U) (g : FAx) (ma mk : Xa) : Xe := fun us M => (ma us M).bind fun x => (mk us x.2).bind fun z => xcallK n m sc ds g x.1 z.1 z.2
def xMtK (c f : Str) (n m : Nat) (sc : List Sc) (ds : List U) (g : FAx) (mo : Xe) (ma mk : Xa) : Xe := fun us M => (mo us M).bind fun y => match insF c y.2 y.1 with
  | some fs => match lookF f fs with
    | none => (ma us y.2).bind fun x => (mk us x.2).bind fun z => xcallK (n + 1) m sc ds g (y.1 :: x.1) z.1 z.2
    | some _ => .no
  | none => .no
def xCmK (c : Str) (n m : Nat) (sc : List Sc) (ds : List U) (g : FAx) (mo : Xe) (ma mk : Xa) : Xe := fun us M => (mo us M).bind fun y => match y.1 with
  | .p (.cls c') => if c' = c then (ma us y.2).bind fun x => (mk us x.2).bind fun z => xcallK (n + 1) m sc ds g (.p (.cls c) :: x.1) z.1 z.2 else .no
  | _ => .no
def xmk (c : Str) (g : List U → FAx) (us : List U) (M : Mm) : Rz Mm (U × Mm) := ((g us (.m M.length :: us) (M ++ [.ins c []])).lift (·.take M.length)).bind fun y => match y.1 with
    | .p .non => match y.2[M.length]? with
      | some (.ins c' fs) => .ok (.p (.ins c' fs), y.2.take M.length)
      | _ => .no
    | _ => .no
def xMkK (c : Str) (n m : Nat) (sc : List Sc) (ds : List U) (g : FAx) (ma mk : Xa) : Xe := fun us M => (ma us M).bind fun x => (mk us x.2).bind fun z => if x.1.length = n ∧ z.1.length = m then
    xmk c (fun _ us' => g (bld sc us' ds z.1)) x.1 z.2 else .no
section
variable {X : Cx} {K : PySem.W.Frag} {E : XK} {k j n : Nat} {c x m : Str} {g : FAx} {p pos apos : Pos} {o e : Expr} {es : List Expr} {kws : List Keyword} {ks : List Str} {sc : List Sc} {dvs : List V} {ds : List U} {t tk : TA} {ma mk : Xa} {mo : Xe}
theorem vxa_sp : VXA K E (fun vs H Q => spX K g (vs ++ []) H Q E) g := by
  intro F ρ H M x u Q sr ru hm
  rw [List.append_nil]
  exact ⟨F, ρ, u, M, sr, ru, hm⟩
theorem run_kdX {pins : List (Addr × Obj)} {σ : L2.St} {H : Hp} {s : Shared} {Q : VK} {us ws : List Value} {vs zs : List V} {f : Addr} {fd : FuncData} {ps : List Str} {sp : Sp} (F : FnOk X.prog X.w X.K X.mg X.base (L2.CX X.prog X.w) k f fd ps sp) (hr : Room k X.A) (hb : KdR X.K fd ps n ks sc dvs)
    (I : Inv X pins σ H s) (r : Vals vs us) (rz : Vals zs ws) (l1 : vs.length = n) (l2 : zs.length = ks.length) (h : sp (bld sc vs dvs zs) H Q (Wof X)) : wpAny (model X.prog X.w) X.A (call (.ref f) us (ks.zip ws)) (EP X pins σ Q) X.xe s := by
  obtain ⟨its, b⟩ := hb.ex
  exact run_fnN F hr b passW I r rz l1 l2 h
theorem run_kdX' {pins : List (Addr × Obj)} {σ : L2.St} {H : Hp} {s : Shared} {Q : VK} {us ws : List Value} {vs zs : List V} {f : Addr} {fd : FuncData} {ps : List Str} {sp : Sp} (F : FnOk X.prog X.w X.K X.mg X.base (L2.CX X.prog X.w) k f fd ps sp) (hr : Room k X.A) (hb : KdR X.K fd ps n ks sc dvs)
    (I : Inv X pins σ H s) (r : Vals vs us) (rz : Vals zs ws) (l1 : vs.length = n) (l2 : zs.length = ks.length) (h : sp (bld sc vs dvs zs) H Q (Wof X)) :
    codeAny (model X.prog X.w) X.A (.call (.ref f) ⟨us, ks.zip ws⟩) (fun r s' => match r with | .ok (.ret v) => EP X pins σ Q v s' | .ok _ => False | .error e => X.xe e s') s := by
  obtain ⟨its, b⟩ := hb.ex
  have r2 := b.rel r rz
  refine codeAny_mono (F.run X.A X.stack s H ⟨us, ks.zip ws⟩ _ _ Q (Wof X) hr I.env0 (b.to s us ws I.kIn (r.length.symm.trans l1) (rz.length.symm.trans l2)) r2 h) fun r s' hq => ?_
  cases r with
  | error e => exact passW pins σ H s e s' I hq
  | ok fl =>
    cases fl with
    | ret u => exact I.after hq
    | next => exact False.elim hq
    | brk => exact False.elim hq
    | cont => exact False.elim hq
theorem xcallK_ok {F H : Hp} {ρ : List Addr} {M : Mm} {us zs : List U} {vs ws : List V} {Q : VK} {m : Nat} (sr : Sr K F ρ H M) (r : RUs K F ρ us vs) (rz : RUs K F ρ zs ws) (hd : Flat ds dvs) (hm : (xcallK n m sc ds g us zs M).sat (kV K F ρ H Q) (kX K F ρ H E)) :
    (vs.length = n ∧ ws.length = m) ∧ spX K g (bld sc vs dvs ws) H Q E := by
  unfold xcallK at hm
  split at hm
  · rename_i hl
    exact ⟨⟨(rus_len r).symm.trans hl.1, (rus_len rz).symm.trans hl.2⟩, F, ρ, _, M, sr, bld_rus r (hd _ _ _) rz sc, hm⟩
  · exact hm.elim
/-- positions, then keywords: what follows sees both -/
theorem x_args {fm : List U × Mm → List U × Mm → Rz Mm (U × Mm)} {σ : L2.St} {H : Hp} {Q : VK} {F : Hp} {ρ : List Addr} {us : Sl} {M : Mm} {R : List V → List V → Hp → Prop} (sr : Sr K F ρ H M) (sv : Sv K F ρ us σ) (hm : ((ma us M).bind fun x => (mk us x.2).bind fun z => fm x z).sat (kV K F ρ H Q) (kX K F ρ H E))
    (hR : ∀ F2 ρ2 H2 x z vs zs, Go F ρ H F2 ρ2 H2 → Sr K F2 ρ2 H2 z.2 → RUs K F2 ρ2 x.1 vs → RUs K F2 ρ2 z.1 zs → (fm x z).sat (kV K F2 ρ2 H2 Q) (kX K F2 ρ2 H2 E) → R vs zs H2) : tXA K E ma σ H fun vs H1 => tXA K E mk σ H1 fun zs H2 => R vs zs H2 := by
  refine ⟨F, ρ, us, M, sr, sv, (Rz.sat_bind hm).imp (fun x k F1 ρ1 H1 vs g1 sr1 r1 => ⟨F1, ρ1, us, x.2, sr1, sv.mono g1.sf g1.pre, (Rz.sat_bind k).imp (fun z k2 F2 ρ2 H2 zs g2 sr2 r2 => ?_) fun _ _ _ => kX.go g1⟩) fun _ _ _ h => h⟩
  have gg := g1.trans g2
  exact hR F2 ρ2 H2 x z vs zs gg sr2 (r1.mono g2.sf g2.pre) r2 (k2.imp (fun _ => kV.go gg) fun _ _ _ => kX.go gg)
theorem x_args0 {fm : List U × Mm → List U × Mm → Rz Mm (U × Mm)} {σ : L2.St} {H : Hp} {Q : VK} {F : Hp} {ρ : List Addr} {us : Sl} {M : Mm} {R : List V → List V → Hp → Prop} (sr : Sr K F ρ H M) (sv : Sv K F ρ us σ) (hm : ((xNil us M).bind fun x => (mk us x.2).bind fun z => fm x z).sat (kV K F ρ H Q) (kX K F ρ H E))
    (hR : ∀ F2 ρ2 H2 x z vs zs, Go F ρ H F2 ρ2 H2 → Sr K F2 ρ2 H2 z.2 → RUs K F2 ρ2 x.1 vs → RUs K F2 ρ2 z.1 zs → (fm x z).sat (kV K F2 ρ2 H2 Q) (kX K F2 ρ2 H2 E) → R vs zs H2) : tXA K E mk σ H fun zs H2 => R [] zs H2 := by
  have hm : ((mk us M).bind fun z => fm ([], M) z).sat (kV K F ρ H Q) (kX K F ρ H E) := hm
  exact ⟨F, ρ, us, M, sr, sv, (Rz.sat_bind hm).imp (fun z k2 F2 ρ2 H2 zs g2 sr2 r2 => hR F2 ρ2 H2 ([], M) z [] zs g2 sr2 rfl r2 (k2.imp (fun _ => kV.go g2) fun _ _ _ => kX.go g2)) fun _ _ _ h => h⟩
/-- f(a, .., k = b, ..) -/
theorem ex_gdK (c : GdK X.prog X.w X.K X.mg X.base k x (spX K g) n ks sc dvs) (hd : Flat ds dvs) (hr : Room j X.A) (ha : AX X K (e :: es) ma) (hkw : KX X K kws mk) (hg : Gl X x := by rfl) (hk : k ≤ j := by decide)
    (hall : (backToKw pos (keywordEach kws X.env)).all (·.1.isSome) = true := by rfl) (hks : (backToKw pos (keywordEach kws X.env)).filterMap (·.1) = ks := by rfl)
    (hdb : (x == ("__debug__" : Str)) = false := by decide) (he : starEach (e :: es) X.env = (false, eval e X.env) :: starEach es X.env := by rfl)
    (hpl : ((backTo pos (starEach (e :: es) X.env)).any (·.1) || (backToKw pos (keywordEach kws X.env)).any (·.1.isNone)) = false := by rfl) : EX X K (.Call (.Name x p) (e :: es) kws pos) (xGdK n ks.length sc ds g ma mk) := by
  obtain ⟨f, fd, ps, F, m, kp, b⟩ := c.ex
  refine ⟨fun pins s σ H Q I ⟨F0, ρ, us, M, sr, sv, hm⟩ => ?_⟩
  refine wpAny_Call_Name_kw (ld_glob I hg m ?_ hdb)
  exact cw_gen (P := X.K.In) (first := []) (R := fun vs zs H2 => (vs.length = n ∧ zs.length = ks.length) ∧ spX K g (bld sc vs dvs zs) H2 Q (Wof X)) I (PySem.W.keeps_K kp) he hall hks hpl ha hkw
    (x_args sr sv hm fun F2 ρ2 H2 x z vs zs g2 sr2 r1 r2 hm2 => xcallK_ok sr2 r1 r2 hd hm2)
    fun vs zs us ws H2 s2 I2 r rz q => ⟨I2.kIn, run_kdX F (hr.mono hk) b I2 r rz q.1.1 q.1.2 q.2⟩
theorem ex_gdK0 (c : GdK X.prog X.w X.K X.mg X.base k x (spX K g) n ks sc dvs) (hd : Flat ds dvs) (hr : Room j X.A) (hkw : KX X K kws mk) (hg : Gl X x := by rfl) (hk : k ≤ j := by decide)
    (hall : (backToKw pos (keywordEach kws X.env)).all (·.1.isSome) = true := by rfl) (hks : (backToKw pos (keywordEach kws X.env)).filterMap (·.1) = ks := by rfl)
    (hdb : (x == ("__debug__" : Str)) = false := by decide)
    (hpl : ((backTo pos (starEach [] X.env)).any (·.1) || (backToKw pos (keywordEach kws X.env)).any (·.1.isNone)) = false := by rfl) : EX X K (.Call (.Name x p) [] kws pos) (xGdK n ks.length sc ds g xNil mk) := by
  obtain ⟨f, fd, ps, F, m, kp, b⟩ := c.ex
  refine ⟨fun pins s σ H Q I ⟨F0, ρ, us, M, sr, sv, hm⟩ => ?_⟩
  refine wpAny_Call_Name_kw (ld_glob I hg m ?_ hdb)
  exact cw_gen0 (P := X.K.In) (first := []) (R := fun vs zs H2 => (vs.length = n ∧ zs.length = ks.length) ∧ spX K g (bld sc vs dvs zs) H2 Q (Wof X)) I (PySem.W.keeps_K kp) hall hks hpl hkw
    (x_args0 sr sv hm fun F2 ρ2 H2 x z vs zs g2 sr2 r1 r2 hm2 => xcallK_ok sr2 r1 r2 hd hm2)
    fun vs zs us ws H2 s2 I2 r rz q => ⟨I2.kIn, run_kdX F (hr.mono hk) b I2 r rz q.1.1 q.1.2 q.2⟩
/-- f(e, ..), all parameters by position -/
theorem ex_gd (c : Gd X.prog X.w X.K X.mg X.base k x (spX K g)) (hr : Room j X.A) (ha : AX X K (e :: es) ma) (hg : Gl X x := by rfl) (hk : k ≤ j := by decide)
    (hdb : (x == ("__debug__" : Str)) = false := by decide) (he : starEach (e :: es) X.env = (false, eval e X.env) :: starEach es X.env := by rfl) (hpl : (backTo pos (starEach es X.env)).any (·.1) = false := by rfl) : EX X K (.Call (.Name x p) (e :: es) [] pos) (xCall g ma) := by
  obtain ⟨f, fd, ps, F, m, kp, b⟩ := c.ex
  exact (pe_call F (hr.mono hk) hg m kp b .nil passW ha hdb he hpl).weak fun _ _ _ q => x_call vxa_sp q
theorem ex_gd0 (c : Gd X.prog X.w X.K X.mg X.base k x (spX K g)) (hr : Room j X.A) (hg : Gl X x := by rfl) (hk : k ≤ j := by decide) (hdb : (x == ("__debug__" : Str)) = false := by decide) : EX X K (.Call (.Name x p) [] [] pos) (xCall g xNil) := by
  obtain ⟨f, fd, ps, F, m, kp, b⟩ := c.ex
  exact (pe_call0 F (hr.mono hk) hg m kp b .nil passW hdb).weak fun _ _ _ q => x_nil (x_call vxa_sp q)
/-- o.m(e, .., k = b, ..) -/
theorem ex_mtK {pl : Sem Bool} (cm : MthK X.prog X.w X.K X.mg X.base k (ga K c) m (spX K g) n ks sc dvs) (hd : Flat ds dvs) (hr : Room j X.A) (ho : EX X K o mo) (ha : AX X K (e :: es) ma) (hkw : KX X K kws mk) (hk : k ≤ j := by decide)
    (hall : (backToKw pos (keywordEach kws X.env)).all (·.1.isSome) = true := by rfl) (hks : (backToKw pos (keywordEach kws X.env)).filterMap (·.1) = ks := by rfl)
    (he : starEach (e :: es) X.env = (false, eval e X.env) :: starEach es X.env := by rfl)
    (hpl : ((backTo pos (starEach (e :: es) X.env)).any (·.1) || (backToKw pos (keywordEach kws X.env)).any (·.1.isNone)) = false := by rfl)
    (ht : eval (.Call (.Attribute o m apos) (e :: es) kws pos) X.env = (do
      let ov ← eval o X.env
      standAt apos.atName
      let (f, first) ← holding [ov] (getMethod ov m pl)
      callWith pos f first (backTo pos (starEach (e :: es) X.env)) (backToKw pos (keywordEach kws X.env))) := by rfl)
    : EX X K (.Call (.Attribute o m apos) (e :: es) kws pos) (xMtK c m n ks.length sc ds g mo ma mk) := by
  obtain ⟨cl, f, fd, ps, F, hm, b⟩ := cm.ex
  refine ⟨fun pins s σ H Q I ⟨F0, ρ, us, M, sr, sv, hmm⟩ => ?_⟩
  refine PySem.W.methodCall_KW (pl := pl) (thn (ho.run pins s σ H (fun v H1 => ∃ a dx fs, v = .ref a ∧ H1 a = some (.ins (ga K c) dx fs) ∧ fs.lookup m = none ∧ (tXA K (Wof X) ma σ H1 fun vs H2 => tXA K (Wof X) mk σ H2 fun zs H3 => ((V.ref a :: vs).length = n + 1 ∧ zs.length = ks.length) ∧ spX K g (bld sc (.ref a :: vs) dvs zs) H3 Q (Wof X))) I
    ⟨F0, ρ, us, M, sr, sv, (Rz.sat_bind hmm).imp (fun y k1 F1 ρ1 H1 v g1 sr1 r1 => ?_) fun _ _ _ h => h⟩) fun u0 s1 ⟨v, H1, I1, rx, a, dx, fs, ev, ea, l, q⟩ => ?_) ht
  · split at k1
    · rename_i fs hf
      split at k1
      · rename_i hl
        obtain ⟨a, dx, gs, rfl, e6, q⟩ := insF_ok sr1 hf r1
        refine ⟨a, dx, gs, rfl, e6, (lookF_ok (f := m) q).2 hl, x_args sr1 (sv.mono g1.sf g1.pre) (k1.imp (fun _ => kV.go g1) fun _ _ _ => kX.go g1) fun F2 ρ2 H2 x z vs zs g2 sr2 r1' r2 hm2 => ?_⟩
        exact xcallK_ok (us := y.1 :: x.1) (vs := .ref a :: vs) sr2 ⟨_, _, rfl, r1.mono g2.sf g2.pre, r1'⟩ r2 hd hm2
      · exact k1.elim
    · exact k1.elim
  · subst ev
    obtain rfl : u0 = Value.ref a := rx
    refine getmeth_ok I1 ea cl hm l ?_
    exact cw_gen (P := X.K.In) (first := [.ref a]) (R := fun vs zs H3 => ((V.ref a :: vs).length = n + 1 ∧ zs.length = ks.length) ∧ spX K g (bld sc (.ref a :: vs) dvs zs) H3 Q (Wof X)) I1 (PySem.W.keeps_K hm.kp) he hall hks hpl ha hkw q
      fun vs zs us ws H2 s2 I2 r rz q => ⟨I2.kIn, run_kdX (us := .ref a :: us) (vs := .ref a :: vs) F (hr.mono hk) b I2 (.cons rfl r) rz q.1.1 q.1.2 q.2⟩
theorem ex_mtK0 {pl : Sem Bool} (cm : MthK X.prog X.w X.K X.mg X.base k (ga K c) m (spX K g) n ks sc dvs) (hd : Flat ds dvs) (hr : Room j X.A) (ho : EX X K o mo) (hkw : KX X K kws mk) (hk : k ≤ j := by decide)
    (hall : (backToKw pos (keywordEach kws X.env)).all (·.1.isSome) = true := by rfl) (hks : (backToKw pos (keywordEach kws X.env)).filterMap (·.1) = ks := by rfl)
    (hpl : ((backTo pos (starEach [] X.env)).any (·.1) || (backToKw pos (keywordEach kws X.env)).any (·.1.isNone)) = false := by rfl)
    (ht : eval (.Call (.Attribute o m apos) [] kws pos) X.env = (do
      let ov ← eval o X.env
      standAt apos.atName
      let (f, first) ← holding [ov] (getMethod ov m pl)
      callWith pos f first (backTo pos (starEach [] X.env)) (backToKw pos (keywordEach kws X.env))) := by rfl)
    : EX X K (.Call (.Attribute o m apos) [] kws pos) (xMtK c m n ks.length sc ds g mo xNil mk) := by
  obtain ⟨cl, f, fd, ps, F, hm, b⟩ := cm.ex
  refine ⟨fun pins s σ H Q I ⟨F0, ρ, us, M, sr, sv, hmm⟩ => ?_⟩
  refine PySem.W.methodCall_KW (pl := pl) (thn (ho.run pins s σ H (fun v H1 => ∃ a dx fs, v = .ref a ∧ H1 a = some (.ins (ga K c) dx fs) ∧ fs.lookup m = none ∧ (tXA K (Wof X) mk σ H1 fun zs H3 => ((V.ref a :: []).length = n + 1 ∧ zs.length = ks.length) ∧ spX K g (bld sc (.ref a :: []) dvs zs) H3 Q (Wof X))) I
    ⟨F0, ρ, us, M, sr, sv, (Rz.sat_bind hmm).imp (fun y k1 F1 ρ1 H1 v g1 sr1 r1 => ?_) fun _ _ _ h => h⟩) fun u0 s1 ⟨v, H1, I1, rx, a, dx, fs, ev, ea, l, q⟩ => ?_) ht
  · split at k1
    · rename_i fs hf
      split at k1
      · rename_i hl
        obtain ⟨a, dx, gs, rfl, e6, q⟩ := insF_ok sr1 hf r1
        refine ⟨a, dx, gs, rfl, e6, (lookF_ok (f := m) q).2 hl, x_args0 (R := fun vs zs H3 => ((V.ref a :: vs).length = n + 1 ∧ zs.length = ks.length) ∧ spX K g (bld sc (.ref a :: vs) dvs zs) H3 Q (Wof X)) sr1 (sv.mono g1.sf g1.pre) (k1.imp (fun _ => kV.go g1) fun _ _ _ => kX.go g1) fun F2 ρ2 H2 x z vs zs g2 sr2 r1' r2 hm2 => ?_⟩
        exact xcallK_ok (us := y.1 :: x.1) (vs := .ref a :: vs) sr2 ⟨_, _, rfl, r1.mono g2.sf g2.pre, r1'⟩ r2 hd hm2
      · exact k1.elim
    · exact k1.elim
  · subst ev
    obtain rfl : u0 = Value.ref a := rx
    refine getmeth_ok I1 ea cl hm l ?_
    exact cw_gen0 (P := X.K.In) (first := [.ref a]) (R := fun vs zs H3 => ((V.ref a :: vs).length = n + 1 ∧ zs.length = ks.length) ∧ spX K g (bld sc (.ref a :: vs) dvs zs) H3 Q (Wof X)) I1 (PySem.W.keeps_K hm.kp) hall hks hpl hkw q
      fun vs zs us ws H2 s2 I2 r rz q => ⟨I2.kIn, run_kdX (us := .ref a :: us) (vs := .ref a :: vs) F (hr.mono hk) b I2 (.cons rfl r) rz q.1.1 q.1.2 q.2⟩
/-- C.m(e, .., k = b, ..), a classmethod -/
theorem ex_cmK {pl : Sem Bool} (cm : CmtK X.prog X.w X.K X.mg X.base k (ga K c) m (spX K g) n ks sc dvs) (hd : Flat ds dvs) (hr : Room j X.A) (ho : EX X K o mo) (ha : AX X K (e :: es) ma) (hkw : KX X K kws mk) (hk : k ≤ j := by decide)
    (hall : (backToKw pos (keywordEach kws X.env)).all (·.1.isSome) = true := by rfl) (hks : (backToKw pos (keywordEach kws X.env)).filterMap (·.1) = ks := by rfl)
    (he : starEach (e :: es) X.env = (false, eval e X.env) :: starEach es X.env := by rfl)
    (hpl : ((backTo pos (starEach (e :: es) X.env)).any (·.1) || (backToKw pos (keywordEach kws X.env)).any (·.1.isNone)) = false := by rfl)
    (ht : eval (.Call (.Attribute o m apos) (e :: es) kws pos) X.env = (do
      let ov ← eval o X.env
      standAt apos.atName
      let (f, first) ← holding [ov] (getMethod ov m pl)
      callWith pos f first (backTo pos (starEach (e :: es) X.env)) (backToKw pos (keywordEach kws X.env))) := by rfl)
    : EX X K (.Call (.Attribute o m apos) (e :: es) kws pos) (xCmK c n ks.length sc ds g mo ma mk) := by
  obtain ⟨mc, p, f, fd, ps, rd, cmt, F, b⟩ := cm.ex
  refine ⟨fun pins s σ H Q I ⟨F0, ρ, us, M, sr, sv, hmm⟩ => ?_⟩
  refine PySem.W.methodCall_KW (pl := pl) (thn (ho.run pins s σ H (fun v H1 => v = .ref (ga K c) ∧ (tXA K (Wof X) ma σ H1 fun vs H2 => tXA K (Wof X) mk σ H2 fun zs H3 => ((V.ref (ga K c) :: vs).length = n + 1 ∧ zs.length = ks.length) ∧ spX K g (bld sc (.ref (ga K c) :: vs) dvs zs) H3 Q (Wof X))) I
    ⟨F0, ρ, us, M, sr, sv, (Rz.sat_bind hmm).imp (fun y k1 F1 ρ1 H1 v g1 sr1 r1 => ?_) fun _ _ _ h => h⟩) fun u0 s1 ⟨v, H1, I1, rx, ev, q⟩ => ?_) ht
  · obtain ⟨y, M1⟩ := y
    dsimp only at k1 r1
    split at k1
    · split at k1
      · rename_i c' hc
        subst hc
        cases r1
        refine ⟨rfl, x_args sr1 (sv.mono g1.sf g1.pre) (k1.imp (fun _ => kV.go g1) fun _ _ _ => kX.go g1) fun F2 ρ2 H2 x z vs zs g2 sr2 r1' r2 hm2 => ?_⟩
        exact xcallK_ok (us := .p (.cls _) :: x.1) (vs := .ref _ :: vs) sr2 ⟨_, _, rfl, rfl, r1'⟩ r2 hd hm2
      · exact k1.elim
    · exact k1.elim
  · subst ev
    obtain rfl : u0 = Value.ref (ga K c) := rx
    refine ClX.getmethcm_ok I1 rd cmt fun s2 I2 => ?_
    refine thn (Q := EP X ((s1.heap.objs.size, PySem.W.methodObj (.ref f) (.ref (ga K c))) :: pins) σ Q) ?_ fun _ _ y => ClX.unpinE y
    exact cw_gen (P := PySem.W.MethP X.K _ f (.ref (ga K c))) (first := []) (R := fun vs zs H3 => ((V.ref (ga K c) :: vs).length = n + 1 ∧ zs.length = ks.length) ∧ spX K g (bld sc (.ref (ga K c) :: vs) dvs zs) H3 Q (Wof X)) I2 (PySem.W.keeps_M cmt.fi) he hall hks hpl ha hkw q
      fun vs zs us ws H2 s3 I3 r rz q => ⟨⟨ClX.pin_at I3, I3.kIn⟩, wpAny_call (PySem.W.method_call (ClX.pin_at I3) ((run_kdX' (us := .ref (ga K c) :: us) (vs := .ref (ga K c) :: vs) F (hr.mono hk) b I3 (.cons rfl r) rz q.1.1 q.1.2 q.2)))⟩
theorem ex_cmK0 {pl : Sem Bool} (cm : CmtK X.prog X.w X.K X.mg X.base k (ga K c) m (spX K g) n ks sc dvs) (hd : Flat ds dvs) (hr : Room j X.A) (ho : EX X K o mo) (hkw : KX X K kws mk) (hk : k ≤ j := by decide)
    (hall : (backToKw pos (keywordEach kws X.env)).all (·.1.isSome) = true := by rfl) (hks : (backToKw pos (keywordEach kws X.env)).filterMap (·.1) = ks := by rfl)
    (hpl : ((backTo pos (starEach [] X.env)).any (·.1) || (backToKw pos (keywordEach kws X.env)).any (·.1.isNone)) = false := by rfl)
    (ht : eval (.Call (.Attribute o m apos) [] kws pos) X.env = (do
      let ov ← eval o X.env
      standAt apos.atName
      let (f, first) ← holding [ov] (getMethod ov m pl)
      callWith pos f first (backTo pos (starEach [] X.env)) (backToKw pos (keywordEach kws X.env))) := by rfl)
    : EX X K (.Call (.Attribute o m apos) [] kws pos) (xCmK c n ks.length sc ds g mo xNil mk) := by
  obtain ⟨mc, p, f, fd, ps, rd, cmt, F, b⟩ := cm.ex
  refine ⟨fun pins s σ H Q I ⟨F0, ρ, us, M, sr, sv, hmm⟩ => ?_⟩
  refine PySem.W.methodCall_KW (pl := pl) (thn (ho.run pins s σ H (fun v H1 => v = .ref (ga K c) ∧ (tXA K (Wof X) mk σ H1 fun zs H3 => ((V.ref (ga K c) :: []).length = n + 1 ∧ zs.length = ks.length) ∧ spX K g (bld sc (.ref (ga K c) :: []) dvs zs) H3 Q (Wof X))) I
    ⟨F0, ρ, us, M, sr, sv, (Rz.sat_bind hmm).imp (fun y k1 F1 ρ1 H1 v g1 sr1 r1 => ?_) fun _ _ _ h => h⟩) fun u0 s1 ⟨v, H1, I1, rx, ev, q⟩ => ?_) ht
  · obtain ⟨y, M1⟩ := y
    dsimp only at k1 r1
    split at k1
    · split at k1
      · rename_i c' hc
        subst hc
        cases r1
        refine ⟨rfl, x_args0 (R := fun vs zs H3 => ((V.ref (ga K _) :: vs).length = n + 1 ∧ zs.length = ks.length) ∧ spX K g (bld sc (.ref (ga K _) :: vs) dvs zs) H3 Q (Wof X)) sr1 (sv.mono g1.sf g1.pre) (k1.imp (fun _ => kV.go g1) fun _ _ _ => kX.go g1) fun F2 ρ2 H2 x z vs zs g2 sr2 r1' r2 hm2 => ?_⟩
        exact xcallK_ok (us := .p (.cls _) :: x.1) (vs := .ref _ :: vs) sr2 ⟨_, _, rfl, rfl, r1'⟩ r2 hd hm2
      · exact k1.elim
    · exact k1.elim
  · subst ev
    obtain rfl : u0 = Value.ref (ga K c) := rx
    refine ClX.getmethcm_ok I1 rd cmt fun s2 I2 => ?_
    refine thn (Q := EP X ((s1.heap.objs.size, PySem.W.methodObj (.ref f) (.ref (ga K c))) :: pins) σ Q) ?_ fun _ _ y => ClX.unpinE y
    exact cw_gen0 (P := PySem.W.MethP X.K _ f (.ref (ga K c))) (first := []) (R := fun vs zs H3 => ((V.ref (ga K c) :: vs).length = n + 1 ∧ zs.length = ks.length) ∧ spX K g (bld sc (.ref (ga K c) :: vs) dvs zs) H3 Q (Wof X)) I2 (PySem.W.keeps_M cmt.fi) hall hks hpl hkw q
      fun vs zs us ws H2 s3 I3 r rz q => ⟨⟨ClX.pin_at I3, I3.kIn⟩, wpAny_call (PySem.W.method_call (ClX.pin_at I3) ((run_kdX' (us := .ref (ga K c) :: us) (vs := .ref (ga K c) :: vs) F (hr.mono hk) b I3 (.cons rfl r) rz q.1.1 q.1.2 q.2)))⟩
/-- a new instance -/
theorem xmk_ok {F H : Hp} {ρ : List Addr} {M : Mm} {us : List U} {vs : List V} {G : List U → FAx} {sp : List V → Hp → VK → XK → Prop} {Q : VK} (sr : Sr K F ρ H M) (ru : RUs K F ρ us vs)
    (hsp : ∀ x F2 ρ2 H2 Q2 M2, Go F ρ H F2 ρ2 H2 → Sr K F2 ρ2 H2 M2 → RUs K F2 ρ2 (.m M.length :: us) (.ref x :: vs) → (G us (.m M.length :: us) M2).sat (kV K F2 ρ2 H2 Q2) (kX K F2 ρ2 H2 E) → sp (.ref x :: vs) H2 Q2 E)
    (hm : (xmk c G us M).sat (kV K F ρ H Q) (kX K F ρ H E)) : ∀ x dx, H x = none → H dx = none → dx ≠ x → sp (.ref x :: vs) (upd (upd H dx (.own x)) x (.ins (ga K c) dx [])) (fun v H2 => v = .non ∧ Q (.ref x) H2) E := by
  intro x dx hx hdx hne
  have s1 : Sr K F ρ (upd H dx (.own x)) M := sr.updX (fun z => sr.occ dx z hdx) (sr.fnone hdx) (fun _ z => by rw [hdx] at z; cases z)
  have hx1 : upd H dx (.own x) x = none := by rw [upd_ne (Ne.symm hne)]; exact hx
  have f1 := s1.fnone hx1
  have s2 : Sr K F (ρ ++ [x]) (upd (upd H dx (.own x)) x (.ins (ga K c) dx [])) (M ++ [.ins c []]) := s1.newC hx1 ⟨f1, dx, [], rfl, rfl⟩
  have g1 : Go F ρ H F (ρ ++ [x]) (upd (upd H dx (.own x)) x (.ins (ga K c) dx [])) := (Go.hp hdx).trans (Sr.goC hx1)
  have hl := sr.len
  have hix : (ρ ++ [x])[M.length]? = some x := by rw [← hl]; simp
  refine hsp x F (ρ ++ [x]) _ _ _ g1 s2 ⟨_, _, rfl, ⟨x, hix, rfl⟩, ru.mono g1.sf g1.pre⟩ ((Rz.sat_lift (Rz.sat_bind hm)).imp (fun y e2 F2 ρ2 H2 v g2 sr2 r2 => ?_) fun _ _ _ h => kX.back sr g1 h)
  obtain ⟨u1, M1⟩ := y
  dsimp only at e2 sr2 r2
  split at e2
  · cases r2
    refine ⟨rfl, ?_⟩
    split at e2
    · rename_i c' fs hc
      have hx2 : ρ2[M.length]? = some x := pre_get g2.pre hix
      obtain ⟨F3, ρ3, g3, sr3, r3⟩ := finP_ok F ρ H M F2 ρ2 H2 M1 (.m M.length) (.p (.ins c' fs)) (M1.take M.length) (.ref x) sr (g1.trans g2) sr2 ⟨x, hx2, rfl⟩ (by
        unfold finP
        dsimp only
        rw [if_neg (Nat.lt_irrefl _), hc])
      exact e2 F3 ρ3 H2 _ g3 sr3 r3
    · exact e2.elim
  · exact e2.elim
theorem mkX_ok {F H : Hp} {ρ : List Addr} {M : Mm} {us zs : List U} {vs ws : List V} {m : Nat} {Q : VK} (sr : Sr K F ρ H M) (ru : RUs K F ρ us vs) (rz : RUs K F ρ zs ws) (hd : Flat ds dvs)
    (hm : ((if us.length = n ∧ zs.length = m then xmk c (fun _ us' => g (bld sc us' ds zs)) us M else .no) : Rz Mm (U × Mm)).sat (kV K F ρ H Q) (kX K F ρ H E)) :
    (vs.length = n ∧ ws.length = m) ∧ ∀ x dx, H x = none → H dx = none → dx ≠ x → spX K g (bld sc (.ref x :: vs) dvs ws) (upd (upd H dx (.own x)) x (.ins (ga K c) dx [])) (fun v H2 => v = .non ∧ Q (.ref x) H2) E := by
  split at hm
  · rename_i hl
    refine ⟨⟨(rus_len ru).symm.trans hl.1, (rus_len rz).symm.trans hl.2⟩, ?_⟩
    exact xmk_ok (sp := fun vs' H2 Q2 E2 => spX K g (bld sc vs' dvs ws) H2 Q2 E2) sr ru (fun x F2 ρ2 H2 Q2 M2 g2 sr2 r2 hm2 => ⟨F2, ρ2, _, M2, sr2, bld_rus r2 (hd _ _ _) (rz.mono g2.sf g2.pre) sc, hm2⟩) hm
  · exact hm.elim
theorem ex_mkK (cm : MkrN X.prog X.w X.K X.mg X.base k x (ga K c) (spX K g) n ks sc dvs) (hd : Flat ds dvs) (hr : Room j X.A) (ha : AX X K (e :: es) ma) (hkw : KX X K kws mk) (hg : Gl X x := by rfl) (hk : k + 1 ≤ j := by decide)
    (hall : (backToKw pos (keywordEach kws X.env)).all (·.1.isSome) = true := by rfl) (hks : (backToKw pos (keywordEach kws X.env)).filterMap (·.1) = ks := by rfl)
    (hdb : (x == ("__debug__" : Str)) = false := by decide)
    (he : starEach (e :: es) X.env = (false, eval e X.env) :: starEach es X.env := by rfl)
    (hpl : ((backTo pos (starEach (e :: es) X.env)).any (·.1) || (backToKw pos (keywordEach kws X.env)).any (·.1.isNone)) = false := by rfl) : EX X K (.Call (.Name x p) (e :: es) kws pos) (xMkK c n ks.length sc ds g ma mk) := by
  obtain ⟨f, fd, ps, Mk, F, m, b⟩ := cm.ex
  obtain ⟨its, b⟩ := b.ex
  refine ⟨fun pins s σ H Q I ⟨F0, ρ, us, M, sr, sv, hm⟩ => ?_⟩
  refine wpAny_Call_Name_kw (ld_glob I hg m ?_ hdb)
  exact cw_gen (P := X.K.In) (first := []) (R := fun vs zs H2 => (vs.length = n ∧ zs.length = ks.length) ∧ ∀ x dx, H2 x = none → H2 dx = none → dx ≠ x → spX K g (bld sc (.ref x :: vs) dvs zs) (upd (upd H2 dx (.own x)) x (.ins (ga K c) dx [])) (fun v H3 => v = .non ∧ Q (.ref x) H3) (Wof X)) I (PySem.W.keeps_K Mk.kp) he hall hks hpl ha hkw
    (x_args sr sv hm fun F2 ρ2 H2 x z vs zs g2 sr2 r1 r2 hm2 => mkX_ok sr2 r1 r2 hd hm2)
    fun vs zs us ws H2 s2 I2 r rz q => ⟨I2.kIn, run_makeN Mk F (hr.mono hk) b passW I2 r rz q.1.1 q.1.2 q.2⟩
theorem ex_mkK0 (cm : MkrN X.prog X.w X.K X.mg X.base k x (ga K c) (spX K g) n ks sc dvs) (hd : Flat ds dvs) (hr : Room j X.A) (hkw : KX X K kws mk) (hg : Gl X x := by rfl) (hk : k + 1 ≤ j := by decide)
    (hall : (backToKw pos (keywordEach kws X.env)).all (·.1.isSome) = true := by rfl) (hks : (backToKw pos (keywordEach kws X.env)).filterMap (·.1) = ks := by rfl)
    (hdb : (x == ("__debug__" : Str)) = false := by decide)
    (hpl : ((backTo pos (starEach [] X.env)).any (·.1) || (backToKw pos (keywordEach kws X.env)).any (·.1.isNone)) = false := by rfl) : EX X K (.Call (.Name x p) [] kws pos) (xMkK c n ks.length sc ds g xNil mk) := by
  obtain ⟨f, fd, ps, Mk, F, m, b⟩ := cm.ex
  obtain ⟨its, b⟩ := b.ex
  refine ⟨fun pins s σ H Q I ⟨F0, ρ, us, M, sr, sv, hm⟩ => ?_⟩
  refine wpAny_Call_Name_kw (ld_glob I hg m ?_ hdb)
  exact cw_gen0 (P := X.K.In) (first := []) (R := fun vs zs H2 => (vs.length = n ∧ zs.length = ks.length) ∧ ∀ x dx, H2 x = none → H2 dx = none → dx ≠ x → spX K g (bld sc (.ref x :: vs) dvs zs) (upd (upd H2 dx (.own x)) x (.ins (ga K c) dx [])) (fun v H3 => v = .non ∧ Q (.ref x) H3) (Wof X)) I (PySem.W.keeps_K Mk.kp) hall hks hpl hkw
    (x_args0 sr sv hm fun F2 ρ2 H2 x z vs zs g2 sr2 r1 r2 hm2 => mkX_ok sr2 r1 r2 hd hm2)
    fun vs zs us ws H2 s2 I2 r rz q => ⟨I2.kIn, run_makeN Mk F (hr.mono hk) b passW I2 r rz q.1.1 q.1.2 q.2⟩
end
end Pz
/-! ### raise; own operators that may raise; loops -/
namespace Pz
open PySem PySem.Spec PyProof.Rows L2 He Rt
/-- C() -/
theorem pmk_own0 {X : Cx} {C : Addr} {bmB : List Value} {B newId initId : String} {x : Str} {p pos : Pos} (F : ExcBaseFacts B newId initId bmB) (q : PySem.W.excIn X.K C bmB newId = true) (gC : X.mg x = some (.ref C)) (kC : PySem.W.keepIn X.K (.ref C) = true) (r : Raises X (.ref C)) (hg : Gl X x)
    (hdb : (x == ("__debug__" : Str)) = false := by decide) : PMk X (.Call (.Name x p) [] [] pos) (fun _ H Q => Q (.ref C) none H) := by
  intro pins s σ H Q I h
  refine wpAny_Call_Name_kw (ld_glob I hg gC ?_ hdb)
  refine PySem.W.callWith_K0 I.kIn kC ?_
  obtain ⟨bm, N, nm, qn, bs, hdct, sn, sub, ab, col, dd, k0, k1, k2, k3, k5, mN, hC, hN, hni, T⟩ := exc_obj I.kIn q
  exact wpAny_call_exc_subT F T hC hN hni (fun h' e hm => mk_of I hm r h (I.hok.gone hm.new)) (by show 0 ≤ sizeLine; exact Nat.zero_le _)
def xRaise0 (c : Str) : Xs := fun _ M => .ex c [] M
def fldsX (ns : List Str) (ws : List W) : List (Str × W) := (ns.zip ws).reverse
def xRaise (c : Str) (ns : List Str) (a : Xa) : Xs := fun us M => (a us M).bind fun x => match pures x.1 with
  | some ws => if ws.length = ns.length then .ex c (fldsX ns ws) x.2 else .no
  | none => .no
section
variable {X : Cx} {K : PySem.W.Frag} {c x f g : Str} {p pos pos' : Pos} {e : Expr} {es : List Expr} {ma : Xa} {B newId initId : String} {bmB : List Value} {k j : Nat} {fI : Addr} {fd : FuncData} {ps : List Str}
theorem sx_raise0 (F : ExcBaseFacts B newId initId bmB) (q : PySem.W.excIn X.K (ga K c) bmB newId = true) (gC : X.mg x = some (.ref (ga K c))) (kC : PySem.W.keepIn X.K (.ref (ga K c)) = true) (r : Raises X (.ref (ga K c))) (hc : X.calm = true) (hg : Gl X x := by rfl)
    (hdb : (x == ("__debug__" : Str)) = false := by decide) : SX X K (.Raise (some (.Call (.Name x p) [] [] pos)) none pos') (xRaise0 c) :=
  (ps_raise hc takes_wof (pmk_own0 F q gC kC r hg hdb)).weak fun D σ H ⟨F, ρ, us, M, sr, sv, hm⟩ => hm F ρ H _ _ Go.refl sr ⟨rfl, .inl ⟨rfl, rfl⟩⟩
theorem upd_del {H1 : Hp} {a dx : Addr} {o o2 o3 o4 : HO} (ha : H1 a = none) : upd (del (upd (upd (upd H1 a o) dx o2) a o3) a) dx o4 = upd H1 dx o4 := by
  funext b
  by_cases hb : b = dx
  · subst hb; rw [upd_same, upd_same]
  · rw [upd_ne hb, upd_ne hb]
    by_cases hba : b = a
    · subst hba; rw [del_same, ha]
    · rw [del_ne hba, upd_ne hba, upd_ne hb, upd_ne hba]
theorem upd_del2 {H1 : Hp} {a dx : Addr} {o o2 o3 o4 o5 : HO} (ha : H1 a = none) (hne : dx ≠ a) : upd (del (upd (upd (upd (upd H1 a o) dx o2) a o3) dx o5) a) dx o4 = upd H1 dx o4 := by
  funext b
  by_cases hb : b = dx
  · subst hb; rw [upd_same, upd_same]
  · rw [upd_ne hb, upd_ne hb]
    by_cases hba : b = a
    · subst hba; rw [del_same, ha]
    · rw [del_ne hba, upd_ne hb, upd_ne hba, upd_ne hb, upd_ne hba]
/-- raise C(e), C's __init__ stores its parameter as f -/
theorem sx_raise1 (FB : ExcBaseFacts B newId initId bmB) (T : XcC X.K (ga K c) bmB newId) (Rs : Raises X (.ref (ga K c))) (iC : PySem.W.findIn X.K (.ref (ga K c)) "__init__" = some (some (.ref fI))) (tI : PySem.W.typeIn X.K (.ref fI) = some (.type "function"))
    (F1 : FnOk X.prog X.w X.K X.mg X.base (L2.CX X.prog X.w) k fI fd ps (spX1 (ga K c) f)) (hr : Room j X.A) (hb : Binds X.K fd ps []) (hc : X.calm = true) (hm : X.mg x = some (.ref (ga K c))) (ha : AX X K (e :: es) ma) (hg : Gl X x := by rfl) (hk : k + 1 ≤ j := by decide)
    (hdb : (x == ("__debug__" : Str)) = false := by decide) (he : starEach (e :: es) X.env = (false, eval e X.env) :: starEach es X.env := by rfl) (hpl : (backTo pos (starEach es X.env)).any (·.1) = false := by rfl) :
    SX X K (.Raise (some (.Call (.Name x p) (e :: es) [] pos)) none pos') (xRaise c [f] ma) := by
  refine (ps_raise hc takes_wof (pmk_X FB T Rs iC tI F1 hr hb hg hm ha hk hdb he hpl)).weak fun D σ H ⟨F, ρ, us, M, sr, sv, hm⟩ => ?_
  refine ⟨F, ρ, us, M, sr, sv, (Rz.sat_bind hm).imp (fun y k1 F1 ρ1 H1 vs g1 sr1 r1 => ?_) fun _ _ _ h => h⟩
  split at k1
  · rename_i ws hp
    split at k1
    · rename_i hl
      have rl := pures_rp hp r1
      match ws, hl, rl, k1 with
      | [w], _, ⟨v, r, ev, rw, er⟩, k1 =>
        subst ev er
        refine ⟨by simp, fun a ha => ⟨a, v, rfl, upd_same, fun dx hdx hne => ⟨rfl, dx, [(f, v)], upd_same, by rw [upd_ne hne, upd_same], ?_, ?_⟩⟩⟩
        · rw [upd_ne hne] at hdx; exact hdx
        · rw [upd_del ha]
          rw [upd_ne hne] at hdx
          obtain ⟨s1, s2⟩ := sr1.newF (o := .xd [(f, v)]) hdx
          exact k1 _ ρ1 _ _ _ (g1.trans (sr1.goF hdx)) s1 ⟨rfl, .inr ⟨dx, [(f, v)], rfl, upd_same, fun me => ⟨v, [], rfl, .inl (rw.mono s2), rfl⟩⟩⟩
    · exact k1.elim
  · exact k1.elim
/-- raise C(e, e'), C's __init__ stores its parameters as f, then g -/
theorem sx_raise2 (FB : ExcBaseFacts B newId initId bmB) (T : XcC X.K (ga K c) bmB newId) (Rs : Raises X (.ref (ga K c))) (iC : PySem.W.findIn X.K (.ref (ga K c)) "__init__" = some (some (.ref fI))) (tI : PySem.W.typeIn X.K (.ref fI) = some (.type "function"))
    (F1 : FnOk X.prog X.w X.K X.mg X.base (L2.CX X.prog X.w) k fI fd ps (spX2 (ga K c) f g)) (hr : Room j X.A) (hb : Binds X.K fd ps []) (hc : X.calm = true) (hm : X.mg x = some (.ref (ga K c))) (ha : AX X K (e :: es) ma) (hg : Gl X x := by rfl) (hk : k + 1 ≤ j := by decide)
    (hdb : (x == ("__debug__" : Str)) = false := by decide) (he : starEach (e :: es) X.env = (false, eval e X.env) :: starEach es X.env := by rfl) (hpl : (backTo pos (starEach es X.env)).any (·.1) = false := by rfl) :
    SX X K (.Raise (some (.Call (.Name x p) (e :: es) [] pos)) none pos') (xRaise c [f, g] ma) := by
  refine (ps_raise hc takes_wof (pmk_X FB T Rs iC tI F1 hr hb hg hm ha hk hdb he hpl)).weak fun D σ H ⟨F, ρ, us, M, sr, sv, hm⟩ => ?_
  refine ⟨F, ρ, us, M, sr, sv, (Rz.sat_bind hm).imp (fun y k1 F1 ρ1 H1 vs g1 sr1 r1 => ?_) fun _ _ _ h => h⟩
  split at k1
  · rename_i ws hp
    split at k1
    · rename_i hl
      have rl := pures_rp hp r1
      match ws, hl, rl, k1 with
      | [w, w2], _, ⟨v, r, ev, rw, v2, r2, ev2, rw2, er⟩, k1 =>
        subst ev ev2 er
        refine ⟨by simp, fun a ha => ⟨a, v, v2, rfl, upd_same, fun dx hdx hne => ⟨rfl, dx, [(g, v2), (f, v)], by rw [upd_ne (Ne.symm hne), upd_same], upd_same, ?_, ?_⟩⟩⟩
        · rw [upd_ne hne] at hdx; exact hdx
        · rw [upd_del2 ha hne]
          rw [upd_ne hne] at hdx
          obtain ⟨s1, s2⟩ := sr1.newF (o := .xd [(g, v2), (f, v)]) hdx
          exact k1 _ ρ1 _ _ _ (g1.trans (sr1.goF hdx)) s1 ⟨rfl, .inr ⟨dx, [(g, v2), (f, v)], rfl, upd_same, fun me => ⟨v2, _, rfl, .inl (rw2.mono s2), v, [], rfl, .inl (rw.mono s2), rfl⟩⟩⟩
    · exact k1.elim
  · exact k1.elim
end
/-! ### own operators -/
/-- x op y by own defs, which may raise -/
def rBinE (C : Addr) (sp spr : Sp) (E : XK) : R2 := fun x y H Q =>
  (∃ a dx fs b dy gs, x = .ref a ∧ y = .ref b ∧ H a = some (.ins C dx fs) ∧ H b = some (.ins C dy gs) ∧ sp [x, y] H (fun v H' => ∃ r, v = .ref r ∧ Q (.ref r) H') E) ∨
  (∃ a dx fs i, x = .ref a ∧ y = .int i ∧ H a = some (.ins C dx fs) ∧ sp [x, y] H (fun v H' => ∃ r, v = .ref r ∧ Q (.ref r) H') E) ∨
  ∃ i b dy gs, x = .int i ∧ y = .ref b ∧ H b = some (.ins C dy gs) ∧ spr [y, x] H (fun v H' => ∃ r, v = .ref r ∧ Q (.ref r) H') E
section
variable {X : Cx}
theorem op_binE {op : Operator} {k : Nat} {C : Addr} {m mr : Str} {sp spr : Sp} {id : String} (c : Sm X.prog X.w X.K X.mg X.base k C m sp) (cr : Sm X.prog X.w X.K X.mg X.base k C mr spr) (hr : Room k X.A) (hc : PySem.W.selfFirst X.K C = true) (hm : PySem.dunder op.info.2 = m) (hmr : dunderR op.info.2 = mr)
    (h1 : ∃ fo, PySem.W.findIn X.K (.type "int") (PySem.dunder op.info.2) = some fo) (h2 : ∃ ro, PySem.W.findIn X.K (.type "int") (dunderR op.info.2) = some ro) (fl : fillsNumberSlot (.type "int") op.info.2 = pure true) (S : Slot "int" (PySem.dunder op.info.2) id)
    (hu : PySem.W.subIn X.K (.ref C) (.type "int") = some false) (no : ∀ {A : Around} {E : Value → Shared → Prop} {s : Shared} {b dx : Addr} {i : Int} {t : Tok} {Q : Value → Shared → Prop}, s.heap.get? b = some (PySem.W.instObj C dx) → Q .notImplemented s → wpAny (model X.prog X.w) A (call (.builtin id) [.int i t, .ref b]) Q E s) :
    OpR X (binaryOp op) (rBinE C sp spr (Wof X)) := by
  intro pins s σ H x y v u Q I rx ry h
  obtain ⟨f, fd, ps, F, hs, hf, kp, b⟩ := c.ex
  obtain ⟨f', fd', ps', F', hs', hf', kp', b'⟩ := cr.ex
  obtain ⟨m', hF⟩ := I.fr
  rcases h with ⟨a, dx, fs, a2, dy, gs, rfl, rfl, ea, eb, q⟩ | ⟨a, dx, fs, i, rfl, rfl, ea, q⟩ | ⟨i, a, dx, fs, rfl, rfl, ea, q⟩
  · cases (show v = Value.ref a from rx)
    cases (show u = Value.ref a2 from ry)
    obtain ⟨od, J⟩ := ins_at I ea
    obtain ⟨od2, J2⟩ := ins_at I eb
    exact PySem.W.binop_K hF I.ok.mod.kin J J2.type hc (by rw [hm]; exact hs) hf (thn (run_at (vs := [.ref a, .ref a2]) (Sub.here hr) F b passW I (.cons rfl (.cons rfl .nil)) q) fun w s' hw => ref_end hw)
  · cases (show v = Value.ref a from rx)
    obtain ⟨t, rfl⟩ := (show ∃ t, u = Value.int i t from ry)
    obtain ⟨od, J⟩ := ins_at I ea
    obtain ⟨fo, h1⟩ := h1
    obtain ⟨ro, h2⟩ := h2
    exact PySem.W.ksp_binT (T := "int") hF I.ok.mod.kin J rfl hc (by rw [hm]; exact hs) hf (by rw [hmr]; exact hs') (.inr ⟨_, rfl⟩) h1 h2 rfl (thn (run_at (vs := [.ref a, .int i]) (Sub.here hr) F b passW I (.cons rfl (.cons ⟨t, rfl⟩ .nil)) q) fun w s' hw => ref_end hw)
  · obtain ⟨t, rfl⟩ := (show ∃ t, v = Value.int i t from rx)
    cases (show u = Value.ref a from ry)
    obtain ⟨od, J⟩ := ins_at I ea
    exact bin_right I.kIn J hc (by rw [hm]; exact hs) (by rw [hmr]; exact hs') hf' fl S hu (fun R r => no J.at_ r) (thn (run_at (vs := [.ref a, .int i]) (Sub.here hr) F' b' passW I (.cons rfl (.cons ⟨t, rfl⟩ .nil)) q) fun w s' hw => ref_end hw)
theorem op_floordivE {k j : Nat} {C : Addr} {sp spr : Sp} (c : Sm X.prog X.w X.K X.mg X.base k C "__floordiv__" sp) (cr : Sm X.prog X.w X.K X.mg X.base j C "__rfloordiv__" spr) (hr : Room (max k j) X.A) (hc : PySem.W.selfFirst X.K C = true) (hu : PySem.W.subIn X.K (.ref C) (.type "int") = some false) : OpR X (binaryOp .FloorDiv) (rBinE C sp spr (Wof X)) :=
  op_binE (m := "__floordiv__") (mr := "__rfloordiv__") (c.up (Nat.le_max_left ..)) (cr.up (Nat.le_max_right ..)) hr hc (by decide +kernel) (by decide +kernel) ⟨some (.builtin "int.__floordiv__"), by kernel_rfl⟩ ⟨some (.builtin "int.__rfloordiv__"), by kernel_rfl⟩ PySem.F.fills_int_floordiv PySem.F.slot_int_floordiv hu fun hb q => no_floordiv hb q
theorem op_modE {k j : Nat} {C : Addr} {sp spr : Sp} (c : Sm X.prog X.w X.K X.mg X.base k C "__mod__" sp) (cr : Sm X.prog X.w X.K X.mg X.base j C "__rmod__" spr) (hr : Room (max k j) X.A) (hc : PySem.W.selfFirst X.K C = true) (hu : PySem.W.subIn X.K (.ref C) (.type "int") = some false) : OpR X (binaryOp .Mod) (rBinE C sp spr (Wof X)) :=
  op_binE (m := "__mod__") (mr := "__rmod__") (c.up (Nat.le_max_left ..)) (cr.up (Nat.le_max_right ..)) hr hc (by decide +kernel) (by decide +kernel) ⟨some (.builtin "int.__mod__"), by kernel_rfl⟩ ⟨some (.builtin "int.__rmod__"), by kernel_rfl⟩ PySem.F.fills_int_mod PySem.F.slot_int_mod hu fun hb q => no_mod hb q
end
def xrf (r : Rz Mm (U × Mm)) : Rz Mm (U × Mm) := r.bind fun y => if refU y.1 = true then .ok y else .no
def xbinO (c : Str) (g gr : FAx) : F2x := fun a b M => match insF c M a with
  | some _ => match b with
    | .p (.int _) => xrf (g [a, b] M)
    | b => match insF c M b with
      | some _ => xrf (g [a, b] M)
      | none => .no
  | none => match a with
    | .p (.int _) => match insF c M b with
      | some _ => xrf (gr [b, a] M)
      | none => .no
    | _ => .no
section
variable {X : Cx} {K : PySem.W.Frag} {E : XK} {c : Str} {g gr : FAx}
theorem spx_ref {F H : Hp} {ρ : List Addr} {M : Mm} {us : List U} {vs : List V} {Q : VK} (sr : Sr K F ρ H M) (ru : RUs K F ρ us vs) (hm : (xrf (g us M)).sat (kV K F ρ H Q) (kX K F ρ H E)) : spX K g vs H (fun v H' => ∃ r, v = .ref r ∧ Q (.ref r) H') E := by
  refine ⟨F, ρ, us, M, sr, ru, (Rz.sat_bind hm).imp (fun y k F' ρ' H' v g' s' r' => ?_) fun _ _ _ h => h⟩
  split at k
  · rename_i hr
    obtain ⟨a, rfl⟩ := refU_ok hr r'
    exact ⟨a, rfl, k _ _ _ _ g' s' r'⟩
  · exact k.elim
theorem vx_binO : VX2 K E (rBinE (ga K c) (spX K g) (spX K gr) E) (xbinO c g gr) := by
  intro F ρ H M x y u w Q sr ru rw' hm
  unfold xbinO at hm
  split at hm
  · rename_i fs hf
    obtain ⟨a, dx, gs, rfl, e1, q1⟩ := insF_ok sr hf ru
    split at hm
    · rename_i i
      cases rw'
      exact .inr (.inl ⟨a, dx, gs, i, rfl, rfl, e1, spx_ref sr (rus2 (u2 := .p (.int i)) ru rfl) hm⟩)
    · split at hm
      · rename_i fs2 hf2
        obtain ⟨b, dy, hs, rfl, e2, q2⟩ := insF_ok sr hf2 rw'
        exact .inl ⟨a, dx, gs, b, dy, hs, rfl, rfl, e1, e2, spx_ref sr (rus2 ru rw') hm⟩
      · exact hm.elim
  · split at hm
    · rename_i i _
      cases ru
      split at hm
      · rename_i fs2 hf2
        obtain ⟨b, dy, hs, rfl, e2, q2⟩ := insF_ok sr hf2 rw'
        exact .inr (.inr ⟨i, b, dy, hs, rfl, rfl, e2, spx_ref sr (rus2 (u2 := .p (.int i)) rw' rfl) hm⟩)
      · exact hm.elim
    · exact hm.elim
end
end Pz
/-! ### the head and the law's call, with tables of code objects -/
namespace Rt
open PySem PySem.Spec PyProof.Rows L2 He LamX
/-- the tests, the defs, the tables: empty, not in the written part -/
def obsRT (n : Nat) (fx : List (PySem.W.Frag → Bool)) (fn : List He5.DefA) (tf : List Defn) (g : Addr → Option Obj) : He.AlD × Bool := (obsR fx fn (frT g (He5.asA g n)), tabsB g tf (frT g (He5.asA g n)))
structure SaysRT (fx : List (PySem.W.Frag → Bool)) (fn : List He5.DefA) (tf : List Defn) (h : Heap) (K : PySem.W.Frag) : Prop where
  r : SaysR fx fn K
  hd : ∀ p ∈ tf, PySem.W.codeHdIn K (cT K p).1 (cT K p).2 = true
  out : ∀ p ∈ tf, K.lookup (cT K p).2 = none
  empty : ∀ p ∈ tf, h.get? (cT K p).2 = some { cls := .none, data := .fields #[] }
theorem saysRT_of {n : Nat} {fx : List (PySem.W.Frag → Bool)} {fn : List He5.DefA} {tf : List Defn} {h : Heap} (e : obsRT n fx fn tf h.get? = (He5.valA fn, true)) : SaysRT fx fn tf h (frT h.get? (He5.asA h.get? n)) := by
  have e1 : obsR fx fn (frT h.get? (He5.asA h.get? n)) = He5.valA fn := congrArg (fun z : He.AlD × Bool => z.1) e
  have e2 : tabsB h.get? tf (frT h.get? (He5.asA h.get? n)) = true := congrArg (fun z : He.AlD × Bool => z.2) e
  have key : ∀ p ∈ tf, PySem.W.codeHdIn (frT h.get? (He5.asA h.get? n)) (cT (frT h.get? (He5.asA h.get? n)) p).1 (cT (frT h.get? (He5.asA h.get? n)) p).2 = true ∧ ∃ o, h.get? (cT (frT h.get? (He5.asA h.get? n)) p).2 = some o ∧ emptyTab o = true := fun p hp => by
    obtain ⟨h1, h2⟩ := ba (List.all_eq_true.mp e2 p hp)
    refine ⟨h1, ?_⟩
    split at h2
    · rename_i o q
      exact ⟨o, q, h2⟩
    · cases h2
  refine ⟨e1, fun p hp => (key p hp).1, fun p hp => ?_, fun p hp => ?_⟩
  · obtain ⟨_, o, q, z⟩ := key p hp
    exact frT_none q z
  · obtain ⟨_, o, q, z⟩ := key p hp
    rw [q, emptyTab_eq z]
def hookRT (n : Nat) (fx : List (PySem.W.Frag → Bool)) (fn : List He5.DefA) (tf : List Defn) : PySem.W.Hook where
  α := He.AlD × Bool
  obs := fun s => obsRT n fx fn tf s.heap.get?
  val := fun _ => (He5.valA fn, true)
  says := fun _ h => ∃ K : PySem.W.Frag, K.In h ∧ SaysRT fx fn tf h K
  of := fun _ _ e => ⟨_, frT_in, saysRT_of e⟩
  keeps := fun _ _ _ ⟨K, hK, c⟩ k => ⟨K, PySem.W.Frag.In.keeps hK k, ⟨c.r, c.hd, c.out, fun p hp => k _ _ (c.empty p hp)⟩⟩
theorem obsRT_eq {n : Nat} {fx : List (PySem.W.Frag → Bool)} {fn : List He5.DefA} {tf : List Defn} {g : Addr → Option Obj} {s : Shared} (h : ∀ a, g a = s.heap.get? a) : obsRT n fx fn tf g = (hookRT n fx fn tf).obs s := by
  have e : g = s.heap.get? := funext h
  rw [e] <;> rfl
section
variable {P : Program} {w : World} {K : PySem.W.Frag} {mg mb : Str → Option Value} {k : Nat} {fa a : Addr} {fd : FuncData} {x : Str} {sp : Sp} {s : Shared} {vs : List Value} {ns : List Int} {tf : List Defn}
/-- what may be tracked at the law's entry -/
def TrkT (K : PySem.W.Frag) (tf : List Defn) (a : Addr) (H : Hp) : Prop := ∀ b u, H b = some u → (b = a ∧ K.lookup b = none ∧ ∃ o xs, u = .frz o (.lst xs)) ∨ ∃ p ∈ tf, b = (cT K p).2 ∧ u = .tbl #[]
theorem top_runT {H : Hp} (KX : K.In s.heap) (hns : s.heap.Ns mainGlobals mg) (hb : s.heap.Ns builtinsNs mb) (hbb : ∀ y : Str, y ≠ "__name__" → mb y = bootBuiltins y) (hlim : s.heap.NoLimit) (hg : s.gens = #[])
    (hbm : ∃ (bm : Addr) (ob : Obj), mg "__builtins__" = some (.ref bm) ∧ bm ≠ builtinsNs ∧ s.heap.get? bm = some ob ∧ ob.cls = .type "module" ∧ ob.dict = some builtinsNs ∧ ob.data = .plain)
    (hd : ∀ p ∈ tf, PySem.W.CodeHd s.heap (cT K p).1 (cT K p).2) (out : ∀ p ∈ tf, K.lookup (cT K p).2 = none) (emp : ∀ p ∈ tf, s.heap.get? (cT K p).2 = some { cls := .none, data := .fields #[] })
    (ha : s.heap.get? a = some { cls := .type "list", data := .seq vs.toArray }) (hr : Room k callerA) (tr : TrkT K tf a H) (hok : HOk P w H s.heap) (hT : ∀ p ∈ tf, H (cT K p).2 = some (.tbl #[]))
    (F : ∀ base : Heap, (∀ p ∈ tf, TabB base mg (cT K p).1 (cT K p).2) → FnG P w K mg base k fa fd [x] sp) (hbind : ∀ (s : Shared) (u : Value), BindsTo s fd ⟨[u], []⟩ [(x, u)]) (h : sp [.ref a] H (fun v _ => v = .bl true) fun _ _ _ => False) :
    codeAny (model P w) callerA (.call (.ref fa) ⟨[.ref a], []⟩) (fun r s' => r = .ok (.ret (.bool true)) ∧ OldK s.heap s'.heap ∧ s'.os = s.os ∧ AllBare s'.gens) s := by
  -- a tracked thing is the script's list or an empty table
  have what : ∀ {b : Addr} {u : HO} {o : Obj}, H b = some u → s.heap.get? b = some o → (o.data = .seq vs.toArray ∨ o.data = .fields #[]) := fun {b u o} q e => by
    rcases tr b u q with ⟨z, _⟩ | ⟨p, hp, z, _⟩
    · rw [z, ha] at e; cases e; exact .inl rfl
    · rw [z, emp p hp] at e; cases e; exact .inr rfl
  have free : ∀ {b : Addr} {o : Obj}, s.heap.get? b = some o → o.data ≠ .seq vs.toArray → o.data ≠ .fields #[] → H b = none := fun {b o} e n1 n2 => by
    cases q : H b with
    | none => rfl
    | some u => exact ((what q e).elim n1 n2).elim
  have names : ∀ {b : Addr} {m : Str → Option Value}, s.heap.Ns b m → (hidT s.heap H).Ns b m := fun {b m} ⟨o, es, ep, e, d, r⟩ =>
    ⟨o, es, ep, hidT_get e (free e (by rw [d]; exact fun z => by cases z) (by rw [d]; exact fun z => by cases z)), d, r⟩
  have written : K.In (hidT s.heap H) := fun b o e => by
    refine hidT_get (KX b o e) ?_
    cases q : H b with
    | none => rfl
    | some u =>
      rcases tr b u q with ⟨_, z, _⟩ | ⟨p, hp, z, _⟩
      · rw [z] at e; cases e
      · rw [z, out p hp] at e; cases e
  obtain ⟨mc, c1, c2⟩ := hlim
  have tabs : ∀ p ∈ tf, TabB (hidT s.heap H) mg (cT K p).1 (cT K p).2 := fun p hp => by
    have et := emp p hp
    refine ⟨?_, ?_, fun z => ?_⟩
    · obtain ⟨o, us, file, tf', flags, tg, inF, text, tt, e1, r1, r2, r3, r⟩ := hd p hp
      refine ⟨o, us, file, tf', flags, tg, inF, text, tt, hidT_get e1 (free e1 (by rw [r2]; exact fun z => by cases z) ?_), r1, r2, r3, r⟩
      rw [r2]
      intro z
      cases z
      simp at r3
    · obtain ⟨bm, ob, b1, b2, b3, b4, b5, b6⟩ := hbm
      have nG : bm ≠ mainGlobals := fun q => by
        obtain ⟨o, es, ep, e, hd', _⟩ := hns
        rw [q, e] at b3
        cases b3
        rw [hd'] at b6
        cases b6
      have nP : bm ≠ (cT K p).2 := fun q => by
        rw [q, et] at b3
        cases b3
        cases b6
      exact ⟨bm, ob, b1, b2, nG, nP, hidT_get b3 (free b3 (by rw [b6]; exact fun z => by cases z) (by rw [b6]; exact fun z => by cases z)), b4, b5, b6⟩
    · obtain ⟨o, es, ep, e, hd', _⟩ := hns
      rw [z, et] at e
      cases e
      cases hd'
  have env : Env0 P w K mg (hidT s.heap H) callerA [] s H := ⟨rfl, ⟨written, names hns, ⟨mb, names hb, hbb⟩, ⟨mc, names c1, c2⟩⟩, fun b o e => of_hidT e, Nat.le_of_eq (hidT_size _ _), trivial, fun b z => (List.not_mem_nil (show b ∈ ([] : List Addr) from z)).elim, hok, .of_eq hg⟩
  refine codeAny_mono ((F _ tabs).run callerA [] s H ⟨[.ref a], []⟩ [.ref a] [.ref a] _ _ rfl hr env (hbind s (.ref a)) (.cons rfl .nil) h) fun r s' q => ?_
  cases r with
  | error e =>
    obtain ⟨_, _, _, _, _, _, _, _, _, _, _, _, z⟩ := q
    exact z.elim
  | ok fl =>
    cases fl with
    | next => exact q.elim
    | brk => exact q.elim
    | cont => exact q.elim
    | ret u =>
      obtain ⟨v, H', os, bare, un, hok', rv, e⟩ := q
      cases (show v = V.bl true from e)
      cases (show u = Value.bool true from rv)
      have nofr : ∀ b : Addr, b ∉ frs ([] : List Env) := fun b z => List.not_mem_nil (show b ∈ ([] : List Addr) from z)
      refine ⟨rfl, ⟨fun b o e => ?_, fun b o e => un.there b o e (by simp)⟩, os, bare⟩
      cases q : H b with
      | none => exact .inl (un.keep b o e q (nofr b) (by simp))
      | some t =>
        rcases tr b t q with ⟨_, _, ob, xs, rfl⟩ | ⟨p, hp, eb, rfl⟩
        · have o1 := (hok b _ q).1
          have o2 := (hok' b _ (un.frzs b ob _ q)).1
          rw [o1] at e
          cases e
          exact .inl o2
        · obtain ⟨more, z⟩ := un.tbls b #[] q
          have hm : s'.heap.get? b = some { cls := .none, data := .fields (#[] ++ more) } := hok' b _ z
          have e' := e
          rw [eb, emp p hp] at e'
          cases e'
          have ct := ((hd p hp).tab (emp p hp)).isCodeTable
          rw [← eb] at ct
          exact .inr (.inl ⟨ct, rfl, #[], more, rfl, hm⟩)
end
theorem walk_ofGT {l : PySem.W.OpenLaw} {n k : Nat} {q : Program} {loose : List Str} {XP : (Str → Option Value) → Heap → Prop} {YP : World → Heap → Prop} {d : DefRec} {x : Str} (hn : l.most = some n) (hn2 : n ≤ sizeLine) (hdf : d.params.defaults = []) (hr : Room k callerA)
    (F : ∀ (w : World) (mg : Str → Option Value) (fa : Addr) (h : Heap), YP w h → h.Ns mainGlobals mg → mg d.name = some (.ref fa) → ∃ (K : PySem.W.Frag) (tf : List Defn) (fd : FuncData) (sp : Sp), K.In h ∧ ((∀ p ∈ tf, PySem.W.codeHdIn K (cT K p).1 (cT K p).2 = true) ∧ (∀ p ∈ tf, K.lookup (cT K p).2 = none) ∧ ∀ p ∈ tf, h.get? (cT K p).2 = some { cls := .none, data := .fields #[] }) ∧
      (∀ (s : Shared) (u : Value), BindsTo s fd ⟨[u], []⟩ [(x, u)]) ∧
      (∀ (H : Hp) (a : Addr) (ns : List Int), ns.length ≤ n → (∀ z ∈ ns, Builtin.Int.intBits z ≤ 1048576) → (∀ p ∈ tf, H (cT K p).2 = some (.tbl #[])) → SqL K H a (ns.map V.int) → sp [.ref a] H (fun v _ => v = .bl true) fun _ _ _ => False) ∧
      ∀ base : Heap, (∀ p ∈ tf, TabB base mg (cT K p).1 (cT K p).2) → FnG l.prog w K mg base k fa fd [x] sp) :
    PySem.W.WalkO q loose XP YP l.row.toRowW d [] (fun f vs => PySem.call f vs) := by
  refine Att.attach_callB hn hdf fun w s₀ s₁ mg mb fa o pm cd doc a vs ns G Y ho hd hcd hmg hobj hints hlen hbits hg => ?_
  obtain ⟨K, tf, fd, sp, KX, ⟨t1, t2, t3⟩, hb, hsp, hF⟩ := F w mg fa _ Y G.T.g hmg
  have rv := vals_ints hints
  have lv := hints.length
  have lz : ns.length ≤ sizeLine := Nat.le_trans hlen hn2
  have ch : ∀ p ∈ tf, PySem.W.CodeHd s₁.heap (cT K p).1 (cT K p).2 := fun p hp => PySem.W.codeHd_of_K KX (t1 p hp)
  have naT : ∀ p ∈ tf, (cT K p).2 ≠ a := fun p hp z => by
    have e := t3 p hp
    rw [z, hobj] at e
    cases e
  cases hk : K.lookup a with
  | some ob =>
    have e := KX a ob hk
    rw [hobj] at e
    cases e
    have mem : ∀ b u, (fun b => if b ∈ tf.map (fun p => (cT K p).2) then some (HO.tbl #[]) else none) b = some u → ∃ p ∈ tf, b = (cT K p).2 ∧ u = .tbl #[] := fun b u z => by
      dsimp only at z
      split at z
      · rename_i hm
        obtain ⟨p, hp, e⟩ := List.mem_map.mp hm
        cases z
        exact ⟨p, hp, e.symm, rfl⟩
      · cases z
    have hT : ∀ p ∈ tf, (fun b => if b ∈ tf.map (fun p => (cT K p).2) then some (HO.tbl #[]) else none) (cT K p).2 = some (.tbl #[]) := fun p hp => if_pos (List.mem_map.mpr ⟨p, hp, rfl⟩)
    refine top_runT (H := fun b => if b ∈ tf.map (fun p => (cT K p).2) then some (.tbl #[]) else none) KX G.T.g G.T.b G.T.builtins G.T.nolimit hg G.T.bmain ch t2 t3 hobj hr (fun b u z => .inr (mem b u z)) (fun b u z => ?_) hT hF hb
      (hsp _ a ns hlen hbits hT (.inr ⟨_, vs.toArray, _, hk, rfl, rfl, rfl, by rw [List.size_toArray, lv]; exact lz, by simpa using rv⟩))
    obtain ⟨p, hp, rfl, rfl⟩ := mem b u z
    exact t3 p hp
  | none =>
    have at_ : ∀ b u, (fun b => if b = a then some (HO.frz { cls := .type "list", data := .seq vs.toArray } (.lst (ns.map V.int))) else if b ∈ tf.map (fun p => (cT K p).2) then some (HO.tbl #[]) else none) b = some u →
        (b = a ∧ u = .frz { cls := .type "list", data := .seq vs.toArray } (.lst (ns.map V.int))) ∨ ∃ p ∈ tf, b = (cT K p).2 ∧ u = .tbl #[] := fun b u z => by
      dsimp only at z
      split at z
      · rename_i e
        cases z
        exact .inl ⟨e, rfl⟩
      · split at z
        · rename_i hm
          obtain ⟨p, hp, e⟩ := List.mem_map.mp hm
          cases z
          exact .inr ⟨p, hp, e.symm, rfl⟩
        · cases z
    have hT : ∀ p ∈ tf, (fun b => if b = a then some (HO.frz { cls := .type "list", data := .seq vs.toArray } (.lst (ns.map V.int))) else if b ∈ tf.map (fun p => (cT K p).2) then some (HO.tbl #[]) else none) (cT K p).2 = some (.tbl #[]) := fun p hp => by
      dsimp only
      rw [if_neg (naT p hp), if_pos (List.mem_map.mpr ⟨p, hp, rfl⟩)]
    refine top_runT (H := fun b => if b = a then some (.frz { cls := .type "list", data := .seq vs.toArray } (.lst (ns.map V.int))) else if b ∈ tf.map (fun p => (cT K p).2) then some (.tbl #[]) else none) KX G.T.g G.T.b G.T.builtins G.T.nolimit hg G.T.bmain ch t2 t3 hobj hr (fun b u z => ?_) (fun b u z => ?_) hT hF hb (hsp _ a ns hlen hbits hT (.inl (.inr ⟨_, if_pos rfl⟩)))
    · rcases at_ b u z with ⟨rfl, rfl⟩ | h
      · exact .inl ⟨rfl, hk, _, _, rfl⟩
      · exact .inr h
    · rcases at_ b u z with ⟨rfl, rfl⟩ | ⟨p, hp, rfl, rfl⟩
      · exact ⟨hobj, by rw [List.length_map]; exact lz, vs, _, rv, hobj⟩
      · exact t3 p hp
end Rt
/-! ### defs that are called while an exception is handled: they raise nothing and walk nothing -/
namespace Pz
open PySem PySem.Spec PyProof.Rows L2 He Rt
structure RoomA (k : Nat) (A : Around) : Prop where
  dp : A.depth + 3 * k + 5 < recursionLimit
  un : A.units + 16 * k + 200 < cLine
  gd : A.guards = some []
section
variable {A : Around}
theorem RoomA.mono {j k : Nat} (r : RoomA k A) (h : j ≤ k) : RoomA j A := ⟨by have := r.dp; omega, by have := r.un; omega, r.gd⟩
theorem RoomA.deeper {k : Nat} (r : RoomA (k + 1) A) (env : Env) : RoomA k (A.deeper env) :=
  ⟨by have := r.dp; show A.depth + 1 + 3 * k + 5 < _; omega, by have := r.un; show A.units + 3 + 16 * k + 200 < _; omega, r.gd⟩
theorem RoomA.of {k : Nat} (r : Room k A) (h : A.guards = some []) : RoomA k A := ⟨r.dp, r.un, h⟩
theorem RoomA.mark {k : Nat} (r : RoomA k A) (u : Option Value) : RoomA k (A.mark u) := ⟨r.dp, r.un, r.gd⟩
theorem RoomA.u64 {k : Nat} (r : RoomA k A) : A.units + 64 < cLine := by have := r.un; omega
end
structure FnA (P : Program) (w : World) (K : PySem.W.Frag) (mg : Str → Option Value) (base : Heap) (k : Nat) (f : Addr) (fd : FuncData) (ps : List Str) (sp : Sp) : Prop where
  len : ∀ vs H Q E, sp vs H Q E → vs.length = ps.length
  run : ∀ (A : Around) (outer : List Env) (s : Shared) (H : Hp) (args : Args) (us : List Value) (vs : List V) (Q : VK) (E : XK), RoomA k A → Env0 P w K mg base A outer s H → BindsTo s fd args (ps.zip us) → Vals vs us → sp vs H Q E →
    codeAny (model P w) A (.call (.ref f) args) (CR (L2.CX P w) outer P w H s Q E) s
/-- the context of such a def's body -/
def cxA (P : Program) (w : World) (K : PySem.W.Frag) (mg : Str → Option Value) (base : Heap) (N : List Str) (qual : Str) (scope : Scope) (f : Addr) (cd : Value) (A : Around) (outer : List Env) (s : Shared) (H : Hp) (E : XK) : Cx :=
  { cxOf (L2.CX P w) P w K mg base N qual scope f cd A outer s H E with calm := false }
section
variable {P : Program} {w : World} {K : PySem.W.Frag} {mg : Str → Option Value} {base : Heap}
theorem inv_startA {N ps : List Str} {qual : Str} {scope : Scope} {f : Addr} {cd : Value} {A : Around} {outer : List Env} {s s1 : Shared} {H : Hp} {E : XK} {us : List Value} {vs : List V} (S : FnScope N ps scope) (e0 : Env0 P w K mg base A outer s H) (hl : vs.length = ps.length) (r : Vals vs us)
    (x : InCallC s s.heap.objs.size (bindL (envOfC qual scope s.heap.objs.size f cd).kindOf (ps.zip us) fun _ => none) (cellsFrom (s.heap.objs.size + 1) scope.names []) (bindC (envOfC qual scope s.heap.objs.size f cd).kindOf (ps.zip us) fun _ => none) s1) :
    Inv (cxA P w K mg base N qual scope f cd A outer s H E) [] (L2.start N vs) H s1 := by
  have e1 : Env0 P w K mg base { A with handled := none } outer s H := ⟨e0.frames, e0.mod, e0.bs, e0.bsz, e0.funs, e0.frf, e0.hok, e0.bare⟩
  have I := inv_start (CX := L2.CX P w) (E := E) S (A := { A with handled := none }) rfl e1 hl r x
  have ok := I.ok
  exact ⟨⟨ok.mod, ok.kind, ok.glob, ok.blt, ok.above, ok.inj, ok.has, ok.cab, (fun z => absurd (show false = true from z) Bool.false_ne_true), ok.frames, ok.stk, ok.exf, ok.bs, ok.bsz, ok.noex, ok.exfs, ok.funs, ok.frf⟩, I.os, I.bare, I.base, I.loc, I.cell, I.free, I.freeC, I.pin, I.hok, I.len⟩
theorem fn_ofA {k : Nat} {f : Addr} {name qual : Str} {params : Arguments} {body : List Stmt} {scope : Scope} {dV kV doc pm cdv ct oc : Value} {an od : Option Addr}
    {osl : Array (Option Value)} {N ps : List Str} {sp : Sp} (lk : K.lookup f = some ⟨oc, od, .func (PySem.W.fnOf name qual params body scope dV kV doc pm an cdv ct), osl⟩) (hcd : PySem.W.codeIn K cdv qual = true) (S : FnScope N ps scope)
    (len : ∀ vs H Q E, sp vs H Q E → vs.length = ps.length)
    (hbody : ∀ (A : Around) (outer : List Env) (s : Shared) (H : Hp) (vs : List V) (Q : VK) (E : XK), RoomA k (A.deeper (envOfC qual scope s.heap.objs.size f cdv)) → sp vs H Q E →
      ∃ t, PSs (cxA P w K mg base N qual scope f cdv A outer s H E).nox body t ∧ t { nx := fun _ H' => Q .non H', rt := Q } (L2.start N vs) H) :
    FnA P w K mg base (k + 1) f (PySem.W.fnOf name qual params body scope dV kV doc pm an cdv ct) ps sp := by
  refine ⟨len, fun A outer s H args us vs Q E hr e0 hb r hsp => ?_⟩
  have hl := len _ _ _ _ hsp
  have KX : K.In s.heap := e0.mod.kin.keeps fun b o e => (e0.bs b o e).1
  have lim : s.heap.NoLimit := e0.mod.nolimit.keeps fun b o e => (e0.bs b o e).1
  have hkind : ∀ y ∈ ps.zip us, scope.names.lookup y.1 = some .local ∨ (scope.names.lookup y.1 = some .cell ∧ ((cellsFrom (s.heap.objs.size + 1) scope.names []).lookup y.1).isSome = true) := fun ⟨n, v⟩ hy => by
    rcases S.par n (List.of_mem_zip hy).1 with q | q
    · exact .inl q
    · exact .inr ⟨q, PySem.W.cellsFrom_some _ _ _ (.inl q)⟩
  refine codeAny_call_function (by have := hr.dp; omega) (KX _ _ lk) rfl S.co S.gen rfl (PySem.W.codeRec_of KX hcd) (hb _ _ _ _ ?_)
  refine wpAny_newFunctionEnv_cells S.kind hkind fun env he s1 x => ?_
  subst he
  refine ⟨lim.keeps x.toInCall.keep, codeAny_func ?_⟩
  obtain ⟨t, ht, hq⟩ := hbody A outer s H vs Q E (hr.deeper _) hsp
  have I : Inv (cxA P w K mg base N qual scope f cdv A outer s H E) [] (L2.start N vs) H s1 := inv_startA S e0 hl r x
  refine wpAny_mono (ht.nox.run [] s1 (L2.start N vs) H _ I hq) (fun fl s' hs => ?_) fun e s' hs => hs
  have fin : ∀ {σ' : L2.St} {H' : Hp} {v : V} {u : Value}, Inv (cxA P w K mg base N qual scope f cdv A outer s H E) [] σ' H' s' → RelV v u → Q v H' → CE outer P w H s Q u s' :=
    fun {σ' H' v u} J rv q => ⟨v, H', J.os, J.bare, J.base, J.hok, rv, q⟩
  cases fl with
  | ret u =>
    obtain ⟨v, σ', H', J, rv, q⟩ := hs
    exact fin J rv q
  | next =>
    obtain ⟨σ', H', J, q⟩ := hs
    exact fin (v := V.non) (u := Value.none) J rfl q
  | brk =>
    obtain ⟨_, _, _, q⟩ := hs
    exact False.elim q
  | cont =>
    obtain ⟨_, _, _, q⟩ := hs
    exact False.elim q
theorem okA {x qual : Str} {st : Stmt} {dvs : List V} {f : Addr} {fd : FuncData} {N ps : List Str} {k nl : Nat} {fin : Nat → U → Mm → Option (U × Mm)} {b : S} (F : FnD K x qual st dvs f fd) (S : FnScope N ps (defScope st)) (hf : FinOk K fin) (hN : N.length = ps.length + nl)
    (hbody : ∀ (cdv : Value) (A : Around) (outer : List Env) (s : Shared) (H : Hp) (E : XK), RoomA k (A.deeper (envOfC qual (defScope st) s.heap.objs.size f cdv)) →
      SsW (cxA P w K mg base N qual (defScope st) f cdv A outer s H E).nox K (defBody st) b) : FnA P w K mg base (k + 1) f fd ps (spW K (mDef ps.length nl fin b)) := by
  obtain ⟨oc, od, dV, kV, doc, pm, an, cdv, ct, osl, rfl, lk, hcd, _, _⟩ := F.ex
  exact fn_ofA lk hcd S (fun vs H Q E h => spW_len h) fun A outer s H vs Q E hr h => ⟨_, hbody cdv A outer s H E hr, body_ok hf hN h⟩
end
/-- a def of the module, by its name, in any state -/
structure GdA (P : Program) (w : World) (K : PySem.W.Frag) (mg : Str → Option Value) (base : Heap) (k : Nat) (x : Str) (sp : Sp) : Prop where
  ex : ∃ f fd ps, FnA P w K mg base k f fd ps sp ∧ mg x = some (.ref f) ∧ PySem.W.keepIn K (.ref f) = true ∧ Binds K fd ps []
section
variable {X : Cx} {K : PySem.W.Frag} {k j : Nat} {x : Str} {g : FA} {p pos : Pos} {e : Expr} {es : List Expr} {ma : As}
theorem ew_ga (c : GdA X.prog X.w X.K X.mg X.base k x (spW K g)) (hr : RoomA j X.A) (ha : AW X K (e :: es) ma) (hg : Gl X x := by rfl) (hk : k ≤ j := by decide)
    (hdb : (x == ("__debug__" : Str)) = false := by decide) (he : starEach (e :: es) X.env = (false, eval e X.env) :: starEach es X.env := by rfl) (hpl : (backTo pos (starEach es X.env)).any (·.1) = false := by rfl) :
    EW X K (.Call (.Name x p) (e :: es) [] pos) (mCall g ma) := by
  obtain ⟨f, fd, ps, F, m, kp, b⟩ := c.ex
  refine ⟨fun pins s σ H Q I h => ?_⟩
  have h' := w_call (r := fun vs H1 Q => spW K g (vs ++ []) H1 Q E0) vra_sp h
  refine wpAny_Call_Name_kw (ld_glob I hg m ?_ hdb)
  refine PySem.W.callWith_K (h₀ := X.base) I.ok.mod.kin kp (thn (ha.run pos pins s σ H _ I h') fun us s1 ⟨vs, H1, I1, r, q⟩ => ⟨I1.kIn, ?_⟩) he hpl
  dsimp only at q
  rw [List.append_nil] at q
  have hl : us.length = ps.length := by rw [← r.length]; exact F.len _ _ _ _ q
  refine wpAny_call (codeAny_mono (F.run X.A X.stack s1 H1 ⟨us, []⟩ us vs Q E0 (hr.mono hk) I1.env0 (by have := b s1 us I1.kIn (by simpa using hl); simpa using this) r q) fun r s' hq => ?_)
  cases r with
  | error e => exact passL pins σ H1 s1 e s' I1 hq
  | ok fl =>
    cases fl with
    | ret u => exact I1.after hq
    | next => exact False.elim hq
    | brk => exact False.elim hq
    | cont => exact False.elim hq
theorem call_reprA {k : Nat} (hr : RoomA k X.A) : CallR X (.builtin "repr") rReprD := by
  intro pins s σ H xs us Q I r h
  obtain ⟨a, d, rfl, hd, h1, h2, h3, h4, q⟩ := h
  have e := Vals.ref1 r
  subst e
  obtain ⟨as, R⟩ := reads_of I hd rfl
  exact repr_of_reads' (h₀ := s.heap) R h1 (PyData.noDict_hsm h2) hr.gd (by have := hr.un; omega) (fun _ _ e => e) (fun h' u tk k => ⟨.str _, H, I.kept (t' := tk) k, ⟨u, rfl⟩, q⟩) h4
end
end Pz
/-! ### try: .. except (A, B, C) as n: the exception caught becomes a thing that is tracked -/
namespace Pz
open PySem PySem.Spec PyProof.Rows L2 He Rt
theorem fly_kept {B h h' : Heap} {l : List Env} {a : Addr} {Z : Obj → Prop} (x : HandSPX.FlyingZ B l a Z h) (k : ∀ b o, h.get? b = some o → h'.get? b = some o) : HandSPX.FlyingZ B l a Z h' := by
  obtain ⟨h1, h2, h3, oe, vs, T, oT, ts, e1, e2, e3, e4, e5, e6, e7, e8, e9⟩ := x
  exact ⟨fun b o e => k b o (h1 b o e), h2, h3.of_keeps fun b o e _ => ⟨o, k b o e, rfl⟩, oe, vs, T, oT, ts, k _ _ e1, e2, e3, e4, e5, e6, k _ _ e7, e8, e9⟩
section
variable {X : Cx} {pins : List (Addr × Obj)} {σ : L2.St} {H : Hp} {s : Shared} {a : Addr}
/-- an object that came since the entry, and that nobody knows, is tracked from now on -/
theorem inv_adopt {oe : Obj} {vs : Array Value} {o : HO} (J : Inv X pins σ H s) (ha : s.heap.get? a = some oe) (hd : oe.data = .fields vs) (na : H a = none) (n0 : X.s_0.heap.get? a = none) (nL : a ≠ X.env.locals) (np : ∀ p ∈ X.pn ++ pins, p.1 ≠ a)
    (new : ObjOk X.prog X.w (upd H a o) s.heap a o) : Inv X pins σ (upd H a o) s := by
  have ne0 : ∀ {b : Addr} {u : Obj}, X.s_0.heap.get? b = some u → b ≠ a := fun e z => by rw [z, n0] at e; cases e
  have neH : ∀ {b : Addr} {u : HO}, H b = some u → upd H a o b = some u := fun e => by rw [upd_ne (ne_of_none e na)]; exact e
  refine ⟨J.ok, J.os, J.bare, ⟨fun b u e n hb hx => J.base.keep b u e n hb hx, fun b u e n hb hx => J.base.slot b u e n hb hx, fun b u e n hx => by rw [upd_ne (ne0 e)]; exact J.base.free b u e n hx, J.base.there, fun b xs e => neH (J.base.tups b xs e), fun b u xs e => neH (J.base.frzs b u xs e), fun b ps e => ?_⟩,
    J.loc, J.cell, by rw [upd_ne (Ne.symm nL)]; exact J.free, fun x c e => ?_, fun p hp => ?_, fun b u e => ?_, J.len⟩
  · obtain ⟨more, z⟩ := J.base.tbls b ps e
    exact ⟨more, neH z⟩
  · have hc : c ≠ a := fun z => by
      obtain ⟨v, oc, h1, h2⟩ := J.cell x c e
      rw [z, ha] at h1
      cases h1
      rw [hd] at h2
      cases h2
    rw [upd_ne hc]
    exact J.freeC x c e
  · obtain ⟨h1, h2, h3, h4, h5⟩ := J.pin p hp
    exact ⟨h1, by rw [upd_ne (np p hp)]; exact h2, h3, h4, h5⟩
  · by_cases hb : b = a
    · subst hb
      rw [upd_same] at e
      cases e
      exact new
    · rw [upd_ne hb] at e
      exact (J.hok b u e).stay (fun c v _ q => q) (fun c q => neH q) fun c xs q => neH q
/-- into the suite and back -/
theorem inv_in (J : Inv X pins σ H s) (a : Addr) : Inv (X.suite a (X.pn ++ pins)) [] σ H s :=
  ⟨J.ok.suite _ _, J.os, J.bare, J.base, J.loc, J.cell, J.free, J.freeC, fun p hp => J.pin p (by rw [List.append_nil] at hp; exact hp), J.hok, J.len⟩
theorem inv_out {pn' : List (Addr × Obj)} (J : Inv (X.suite a (X.pn ++ pins)) pn' σ H s) (ok : X.Ok) : Inv X pins σ H s :=
  ⟨ok, J.os, J.bare, J.base, J.loc, J.cell, J.free, J.freeC, fun p hp => J.pin p (List.mem_append_left _ hp), J.hok, J.len⟩
end
/-- what is wanted behind the suite: its name goes -/
def endN (i : Nat) (D : Ends) : Ends := { nx := fun σ H => D.nx (σ.set i none) H, rt := D.rt, bk := fun σ H => D.bk (σ.set i none) H, ct := fun σ H => D.ct (σ.set i none) H }
/-- what the clause wishes of an exception of the body -/
def wCat (K : PySem.W.Frag) (cs : List Value) (i m : Nat) (ts : TS) (D : Ends) : WX := fun cls d σ H => ∃ C, cls = .ref C ∧ PySem.W.exmAny K cls cs = some true ∧ (σ.length = m → ∀ a, H a = none → ts (endN i D) (σ.set i (some (.ref a))) (upd H a (exv a C d)))
section
variable {X : Cx} {x1 x2 x3 n : Str} {C1 C2 C3 : Addr} {i kt : Nat} {body suite : List Stmt} {b₀ : Stmt} {p1 p2 p3 tpos pos pos' : Pos} {tb : WX → TS} {ts : TS}
theorem ps_tryA (hs : X.stack = X.env :: X.outer) (hf : X.env.frame = some X.env.locals) (hx0 : X.ex = []) (hN : X.N.Nodup) (hi : X.N[i]? = some n) (hln : X.env.kindOf n = some .local)
    (g1 : Gl X x1 ∧ X.mg x1 = some (.ref C1) ∧ (x1 == ("__debug__" : Str)) = false) (g2 : Gl X x2 ∧ X.mg x2 = some (.ref C2) ∧ (x2 == ("__debug__" : Str)) = false) (g3 : Gl X x3 ∧ X.mg x3 = some (.ref C3) ∧ (x3 == ("__debug__" : Str)) = false)
    (hb : ∀ (W : WX) (pn : List (Addr × Obj)) (xe : Value → Shared → Prop), Takes (X.tr pn xe) W → PassesOwn (model X.prog X.w) X.A X.env xe → PSs (X.tr pn xe) body (tb W))
    (hsu : ∀ (a : Addr) (pn : List (Addr × Obj)), PSs (X.suite a pn) (b₀ :: suite) ts) :
    PS X (.Try body [.ExceptHandler (some (.Tuple [.Name x1 p1, .Name x2 p2, .Name x3 p3] kt tpos)) (some n) (b₀ :: suite) pos'] [] [] pos) (fun D σ H => tb (wCat X.K [.ref C1, .ref C2, .ref C3] i X.N.length ts D) D σ H) := by
  refine ⟨fun pins s σ H D I h => ?_⟩
  have ok := I.ok
  have hfr : X.A.frames = some (X.env :: X.outer) := by rw [ok.frames, hs]
  refine wpAny_Try_except (wpAny_mono ((hb (wCat X.K [.ref C1, .ref C2, .ref C3] i X.N.length ts D) (X.pn ++ pins) (fun e s₁ => wpAny (model X.prog X.w) X.A (noteFrame e X.env) (fun _ s₂ => wpAny (model X.prog X.w) X.A (setFlight e none) (fun _ s₃ =>
    wpAny (model X.prog X.w) X.A (handleBy e X.env [.ExceptHandler (some (.Tuple [.Name x1 p1, .Name x2 p2, .Name x3 p3] kt tpos)) (some n) (b₀ :: suite) pos']) (SP X pins D) X.xe s₃) X.xe s₂) X.xe s₁) (fun u s' xx => ?_) PassesOwn.looking).run [] s σ H D (I.toTry _) h) (fun f s1 hsp => ?_) fun e s1 he => he)
  · obtain ⟨a, B, sI, pins', σ', H', cls, d, rfl, J', nb, up, sky, na, os, ag, C, rfl, hex, hwish⟩ := xx
    have J : Inv X pins σ' H' sI := J'.ofTry ok
    have bB : B.get? a = none := by
      rcases sky with ⟨_, z, _⟩ | ⟨_, z, _⟩ | ⟨_, z, _⟩ <;> exact z
    have sky' : Sky B (X.env :: X.outer) a (Zc (.ref C) d) X.env.locals s'.heap := by rw [← hs]; exact sky
    show wpAny (model X.prog X.w) X.A (noteFrame (.ref a) X.env) _ _ _
    refine Sky.land Zc.steady hfr hf sky' fun h3 fl3 up3 => ?_
    have J3 : Inv X pins σ' H' { s' with heap := h3 } := J.landed nb fl3.1 (up.trans up3) os ag
    obtain ⟨oe3, vs3, he3, hz3, hd3⟩ := fl3.there
    have nfr : a ∉ frs (X.env :: X.outer) := fun hm => by
      obtain ⟨_, o', e', hnf⟩ := fl3.2.2.1.mem hm
      rw [he3] at e'
      cases e'
      exact hnf _ hd3
    have nL : a ≠ X.env.locals := fun z => nfr (List.mem_filterMap.mpr ⟨X.env, List.mem_cons_self, by rw [hf, z]⟩)
    have nI : sI.heap.get? a = none := by
      cases q : sI.heap.get? a with
      | none => rfl
      | some o =>
        have z := nb a o q (by rw [hs]; exact nfr)
        rw [bB] at z
        cases z
    have n0 : X.s_0.heap.get? a = none := by
      cases q : X.s_0.heap.get? a with
      | none => rfl
      | some o =>
        obtain ⟨o', z⟩ := J.base.there a o q (by rw [hx0]; exact List.not_mem_nil)
        rw [nI] at z
        cases z
    have np : ∀ p ∈ X.pn ++ pins, p.1 ≠ a := fun p hp z => by
      have e := (J.pin p hp).1
      rw [z, nI] at e
      cases e
    have S3 : Inv (X.suite a (X.pn ++ pins)) [] σ' H' { s' with heap := h3 } := inv_in J3 a
    refine wpAny_handleBy_cons (codeAny_handlers_test ?_) (by intro q; cases q)
    refine wpAny_Tuple_spliced ?_
    show wpAny _ _ (spliced [(false, eval (.Name x1 p1) X.env), (false, eval (.Name x2 p2) X.env), (false, eval (.Name x3 p3) X.env)]) _ _ _
    refine Calls.spliced_cons (ld_glob (X := X.suite a (X.pn ++ pins)) S3 g1.1 g1.2.1 ?_ g1.2.2)
    refine Calls.spliced_cons (ld_glob (X := X.suite a (X.pn ++ pins)) S3 g2.1 g2.2.1 ?_ g2.2.2)
    refine Calls.spliced_cons (ld_glob (X := X.suite a (X.pn ++ pins)) S3 g3.1 g3.2.1 ?_ g3.2.2)
    refine Calls.spliced_nil ⟨by rw [sizeLine_eq]; show 3 ≤ 16777216; omega, ?_⟩
    have kk : ∀ b o, h3.get? b = some o → (h3.push { cls := .type "tuple", data := .seq [Value.ref C1, Value.ref C2, Value.ref C3].toArray }).get? b = some o := fun b o e => Heap.get?_push_of_some _ e
    have he4 := kk _ _ he3
    have LT : PySem.W.Looks (model X.prog X.w) (h3.push { cls := .type "tuple", data := .seq [Value.ref C1, Value.ref C2, Value.ref C3].toArray }) (typeOf (.ref a)) (.ref C) := fun A Q E s k q => wpAny_typeOf_ref (k _ _ he4) (by rw [hz3.1]; exact q)
    have LM := PySem.W.exm_tup3 (M := model X.prog X.w) (J3.kIn.keeps kk) LT (Heap.get?_push_size _ rfl) hex
    refine LM.here ?_
    refine codeAny_handlers_suite_as ?_
    refine HandSPX.lands_againZ (fly_kept fl3 kk) fun h5 fl5 up5 => ?_
    have J5 : Inv X pins σ' H' { s' with heap := h5 } := J.landed nb fl5.1 (((up.trans up3).trans (Heap.UpToSlots.of_keeps kk)).trans up5) os ag
    obtain ⟨oe5, vs5, he5, hz5, hd5⟩ := fl5.there
    have J6 := inv_adopt (o := exv a C d) J5 he5 hd5 na n0 nL np ⟨⟨oe5, vs5, he5, hz5.1, hz5.2, hd5⟩, ⟨_, he5⟩, fun h1 h2 ⟨ob, vs, e, r⟩ k => ⟨ob, vs, k _ e, r⟩⟩
    refine store_ok (X := X.suite a (X.pn ++ pins)) (v := .ref a) (inv_in J6 a) hN hi (.inl hln) rfl (fun s7 S7 => ?_) (.inr hln)
    refine wpAny_mono ((hsu a (X.pn ++ pins)).run [] s7 _ _ (endN i D) S7 (hwish J.len a na)) (fun f s8 hsp => ?_) (fun _ _ z => False.elim z)
    have end_ : ∀ {σ8 : L2.St} {H8 : Hp} {Q : Shared → Prop}, Inv (X.suite a (X.pn ++ pins)) [] σ8 H8 s8 → (∀ s9, Inv X pins (σ8.set i none) H8 s9 → Q s9) → wpAny (model X.prog X.w) X.A (do bindName X.env n .none; unbindBehindTheSuite X.env n pos') (fun _ s9 => Q s9) X.xe s8 := fun S8 hq =>
      gone_ok (inv_out S8 ok) hN hi hln hq
    cases f with
    | next =>
      obtain ⟨σ8, H8, S8, q8⟩ := hsp
      exact end_ S8 fun s9 J9 => ⟨_, _, J9, q8⟩
    | brk =>
      obtain ⟨σ8, H8, S8, q8⟩ := hsp
      exact end_ S8 fun s9 J9 => ⟨_, _, J9, q8⟩
    | cont =>
      obtain ⟨σ8, H8, S8, q8⟩ := hsp
      exact end_ S8 fun s9 J9 => ⟨_, _, J9, q8⟩
    | ret u =>
      obtain ⟨v8, σ8, H8, S8, r8, q8⟩ := hsp
      exact end_ S8 fun s9 J9 => ⟨_, _, _, J9, r8, q8⟩
  · cases f with
    | next =>
      obtain ⟨σ', H', J', q⟩ := hsp
      exact wpAny_execs_nil ⟨σ', H', J'.ofTry ok, q⟩
    | brk =>
      obtain ⟨σ', H', J', q⟩ := hsp
      exact ⟨σ', H', J'.ofTry ok, q⟩
    | cont =>
      obtain ⟨σ', H', J', q⟩ := hsp
      exact ⟨σ', H', J'.ofTry ok, q⟩
    | ret u =>
      obtain ⟨v, σ', H', J', r, q⟩ := hsp
      exact ⟨v, σ', H', J'.ofTry ok, r, q⟩
end
end Pz
/-! ### x(lambda: e), where x is: try: y = a() / except (A, B, C) as n: suite / rest -/
namespace Pz
open PySem PySem.Spec PyProof.Rows L2 He Rt LamX
/-! tables -/
def tabsOf (K : PySem.W.Frag) : Mm → List (Addr × Str)
  | [] => []
  | .tab p q :: r => ((cT K p).2, q) :: tabsOf K r
  | _ :: r => tabsOf K r
theorem tabsOf_mem {K : PySem.W.Frag} : ∀ {M : Mm} {t : Addr × Str}, t ∈ tabsOf K M → ∃ (i : Nat) (p : Defn), M[i]? = some (C.tab p t.2) ∧ t.1 = (cT K p).2
  | [], _, h => by cases h
  | .tab p q :: r, t, h => by
    rcases List.mem_cons.mp h with e | h
    · subst e; exact ⟨0, p, rfl, rfl⟩
    · obtain ⟨i, p', e1, e2⟩ := tabsOf_mem h
      exact ⟨i + 1, p', by simpa using e1, e2⟩
  | .lst _ :: r, t, h => by obtain ⟨i, p', e1, e2⟩ := tabsOf_mem (M := r) h; exact ⟨i + 1, p', by simpa using e1, e2⟩
  | .ins _ _ :: r, t, h => by obtain ⟨i, p', e1, e2⟩ := tabsOf_mem (M := r) h; exact ⟨i + 1, p', by simpa using e1, e2⟩
  | .dic _ :: r, t, h => by obtain ⟨i, p', e1, e2⟩ := tabsOf_mem (M := r) h; exact ⟨i + 1, p', by simpa using e1, e2⟩
  | .dead :: r, t, h => by obtain ⟨i, p', e1, e2⟩ := tabsOf_mem (M := r) h; exact ⟨i + 1, p', by simpa using e1, e2⟩
theorem mem_tabsOf {K : PySem.W.Frag} : ∀ {M : Mm} {i : Nat} {p : Defn} {q : Str}, M[i]? = some (.tab p q) → ((cT K p).2, q) ∈ tabsOf K M
  | [], _, _, _, h => by simp at h
  | c :: r, 0, p, q, h => by
    simp at h
    subst h
    exact List.mem_cons_self
  | c :: r, i + 1, p, q, h => by
    have ih := mem_tabsOf (K := K) (M := r) (i := i) (p := p) (q := q) (by simpa using h)
    cases c with
    | tab p' q' => exact List.mem_cons_of_mem _ ih
    | lst _ => exact ih
    | ins _ _ => exact ih
    | dic _ => exact ih
    | dead => exact ih
section
variable {K : PySem.W.Frag} {F H H1 : Hp} {ρ : List Addr} {M : Mm}
theorem Sr.at_ (sr : Sr K F ρ H M) {i : Nat} {c : C} (h : M[i]? = some c) : ∃ a, ρ[i]? = some a := by
  have h1 := (List.getElem?_eq_some_iff.mp h).1
  have := sr.len
  exact ⟨ρ[i]'(by omega), by simp⟩
theorem sr_tabs (sr : Sr K F ρ H M) : Tabs (tabsOf K M) H := fun t ht => by
  obtain ⟨i, p, e1, e2⟩ := tabsOf_mem ht
  obtain ⟨a, ha⟩ := sr.at_ e1
  obtain ⟨_, ea, ps, hp, hT⟩ := sr.cell i _ a e1 ha
  rw [e2, ← ea]
  exact ⟨ps, hp, hT, fun pos cv hc => by
    obtain ⟨c, h1, h2, _⟩ := sr.code i p t.2 a ps e1 ha hp pos cv hc
    exact ⟨c, h1, h2⟩⟩
theorem sr_hu (sr : Sr K F ρ H M) {i : Nat} {p : Defn} {q : Str} (h : M[i]? = some (.tab p q)) : ∀ t ∈ tabsOf K M, t.1 = (cT K p).2 → t.2 = q := fun t ht e => by
  obtain ⟨j, p', e1, e2⟩ := tabsOf_mem ht
  obtain ⟨a, ha⟩ := sr.at_ h
  obtain ⟨b, hb⟩ := sr.at_ e1
  obtain ⟨_, ea, _⟩ := sr.cell i _ a h ha
  obtain ⟨_, eb, _⟩ := sr.cell j _ b e1 hb
  have eab : b = a := by rw [ea, eb, ← e2, e]
  subst eab
  have hij := nodup_at sr.nd hb ha
  subst hij
  rw [h] at e1
  cases e1
  rfl
/-- behind the making of a lambda -/
theorem sr_ext (sr : Sr K F ρ H M) (e : ExtN H H1) (t : Tabs (tabsOf K M) H1) : Sr K F ρ H1 M ∧ Go F ρ H F ρ H1 := by
  have nf : ∀ {a : Addr} {o : HO}, F a = some o → NT o := fun hf ps z => sr.nt _ ps (z ▸ hf)
  have cellT : ∀ {i : Nat} {p : Defn} {q : Str} {a : Addr}, M[i]? = some (.tab p q) → ρ[i]? = some a → TabS H1 a q := fun {i p q a} h1 h2 => by
    obtain ⟨_, ea, _⟩ := sr.cell i _ a h1 h2
    rw [ea]
    exact t _ (mem_tabsOf h1)
  have cellO : ∀ {i : Nat} {c : C} {a : Addr}, M[i]? = some c → ρ[i]? = some a → (∀ p q, c ≠ .tab p q) → ∃ o, H a = some o ∧ NT o ∧ H1 a = some o := fun {i c a} h1 h2 n => by
    have r := sr.cell i c a h1 h2
    have k : ∀ o, H a = some o → NT o → ∃ o, H a = some o ∧ NT o ∧ H1 a = some o := fun o e1 e2 => ⟨o, e1, e2, e a o e1 e2⟩
    cases c with
    | lst ws => obtain ⟨_, vs, e1, _⟩ := r; exact k _ e1 fun _ z => by cases z
    | ins c fs => obtain ⟨_, dx, gs, e1, _⟩ := r; exact k _ e1 fun _ z => by cases z
    | dic ws => obtain ⟨_, vs, e1, _⟩ := r; exact k _ e1 fun _ z => by cases z
    | dead => obtain ⟨o, e1, _, e2⟩ := r; exact k _ e1 e2
    | tab p q => exact absurd rfl (n p q)
  have ix : ∀ {a : Addr}, a ∈ ρ → ∃ i c, ρ[i]? = some a ∧ M[i]? = some c := fun {a} ha => by
    obtain ⟨i, hi, e1⟩ := List.getElem_of_mem ha
    have hl := sr.len
    have hi2 : i < M.length := by omega
    exact ⟨i, M[i]'hi2, by rw [List.getElem?_eq_getElem hi, e1], List.getElem?_eq_getElem hi2⟩
  have tabOr : ∀ c : C, (∃ p q, c = .tab p q) ∨ ∀ p q, c ≠ .tab p q := fun c => by
    cases c with
    | tab p q => exact .inl ⟨p, q, rfl⟩
    | lst _ => exact .inr fun _ _ z => by cases z
    | ins _ _ => exact .inr fun _ _ z => by cases z
    | dic _ => exact .inr fun _ _ z => by cases z
    | dead => exact .inr fun _ _ z => by cases z
  refine ⟨⟨fun a o h => e a o (sr.sub a o h) (nf h), sr.len, sr.nd, fun a ha => ?_, fun i c a h1 h2 => ?_, sr.nt, fun i p q a ps h1 h2 h3 pos cv hc => ?_⟩, Same.refl _, List.prefix_refl _, fun _ h n => absurd h n, fun a o _ h nt => e a o h nt, fun _ _ _ h _ _ => h⟩
  · obtain ⟨i, c, h1, h2⟩ := ix ha
    rcases tabOr c with ⟨p, q, rfl⟩ | n
    · obtain ⟨ps, z, _⟩ := cellT h2 h1
      rw [z]; exact fun z => by cases z
    · obtain ⟨o, _, _, z⟩ := cellO h2 h1 n
      rw [z]; exact fun z => by cases z
  · rcases tabOr c with ⟨p, q, rfl⟩ | n
    · obtain ⟨f, ea, _⟩ := sr.cell i _ a h1 h2
      obtain ⟨ps, z, hT, _⟩ := cellT h1 h2
      exact ⟨f, ea, ps, z, hT⟩
    · obtain ⟨o, z1, _, z2⟩ := cellO h1 h2 n
      rw [z2, ← z1]
      exact sr.cell i c a h1 h2
  · obtain ⟨ps', z, _, hcd⟩ := cellT h1 h2
    rw [h3] at z
    cases z
    obtain ⟨c, e1, e2⟩ := hcd pos cv hc
    refine ⟨c, e1, e2, fun hm => ?_⟩
    obtain ⟨j, d, h4, h5⟩ := ix hm
    rcases tabOr d with ⟨p', q', rfl⟩ | n
    · obtain ⟨ps2, z2, _⟩ := cellT h5 h4
      rw [e2] at z2
      cases z2
    · obtain ⟨o, z1, _, z2⟩ := cellO h5 h4 n
      rw [e2] at z2
      cases z2
      have r := sr.cell j d c h5 h4
      rw [z1] at r
      exact r.nx _ rfl
end
/-! the exception that is caught, as a value -/
section
variable {K : PySem.W.Frag}
theorem sv_none {F : Hp} {ρ : List Addr} {n : Nat} {σ : L2.St} (h : σ.length = n) : Sv K F ρ (List.replicate n none) σ := ⟨by simp [h], fun i u e => by
  rw [List.getElem?_replicate] at e
  split at e <;> cases e⟩
theorem exc_new {F H : Hp} {ρ : List Addr} {M : Mm} {c : Str} {fs : List (Str × W)} {d : Option Addr} {a : Addr} (sr : Sr K F ρ H M) (ha : H a = none) (r : RX K F c fs (.ref (ga K c)) d) :
    Sr K (upd F a (exv a (ga K c) d)) ρ (upd H a (exv a (ga K c) d)) M ∧ Go F ρ H (upd F a (exv a (ga K c) d)) ρ (upd H a (exv a (ga K c) d)) ∧ RU K (upd F a (exv a (ga K c) d)) ρ (.p (.exc c fs)) (.ref a) := by
  obtain ⟨s1, s2⟩ := sr.newF (o := exv a (ga K c) d) ha (fun _ z => by cases z)
  refine ⟨s1, sr.goF ha, a, rfl, ?_⟩
  obtain ⟨_, ⟨rfl, rfl⟩ | ⟨dx, gs, rfl, hd, hr⟩⟩ := r
  · exact .inl ⟨rfl, .inr upd_same⟩
  · exact .inr ⟨dx, gs, .inr upd_same, .inr (s2 _ _ hd), (hr a).mono s2⟩
end
/-! the def that calls what it got -/
/-- the def's promise: r is what the lambda does at its entry -/
def TTc (K : PySem.W.Frag) (gm : Rz Mm (U × Mm) → Mm → Option (U × Mm)) : (XK → Hp → VK → Prop) → Hp → VK → Prop := fun tl H Q =>
  ∃ F ρ M r u M', Sr K F ρ H M ∧ (∀ (E : XK) (Q' : VK), r.sat (kV K F ρ H Q') (kX K F ρ H E) → tl E H Q') ∧ gm r M = some (u, M') ∧ ∀ F' ρ' H' v, Go F ρ H F' ρ' H' → Sr K F' ρ' H' M' → RU K F' ρ' u v → Q v H'
/-- y = a(), caught -/
def mCat (ctch : Str → Bool) (n i j : Nat) (su : S) (r : Rz Mm (U × Mm)) : S := fun us _ => match r with
  | .no => none
  | .ok x => some (.nx, us.set j (some x.1), x.2)
  | .ex c fs M1 => if ctch c = true then (su ((List.replicate n none).set i (some (.p (.exc c fs)))) M1).map fun y => (y.1, y.2.1.set i none, y.2.2) else none
def mCgt (ctch : Str → Bool) (n i j : Nat) (fin : Nat → U → Mm → Option (U × Mm)) (su rest : S) (r : Rz Mm (U × Mm)) : Mm → Option (U × Mm) := fun M => (mSeq (mCat ctch n i j su r) rest (List.replicate n none) M).bind fun x => match x with
    | (.nx, _, M1) => fin M.length (.p .non) M1
    | (.ret u, _, M1) => fin M.length u M1
    | _ => none
theorem gives_c {X : Cx} {K : PySem.W.Frag} {Ng : List Str} {x a q y n : Str} {sg : Scope} {g : Addr} {cdg : Value} {x1 x2 x3 : Str} {C1 C2 C3 : Addr} {i j kt k : Nat} {suite rest : List Stmt} {b₀ : Stmt} {py q1 q2 pa p1 p2 p3 tpos pos pos' : Pos} {su mr : S} {ctch : Str → Bool} {fin : Nat → U → Mm → Option (U × Mm)}
    (hf : FinOk K fin) (hN : Ng.Nodup) (hi : Ng[i]? = some n) (hj : Ng[j]? = some y) (hln : sg.names.lookup n = some .local) (hly : sg.names.lookup y = some .local) (h0 : 0 < Ng.length)
    (g1 : sg.names.lookup x1 = some .globalImplicit ∧ X.mg x1 = some (.ref C1) ∧ (x1 == ("__debug__" : Str)) = false) (g2 : sg.names.lookup x2 = some .globalImplicit ∧ X.mg x2 = some (.ref C2) ∧ (x2 == ("__debug__" : Str)) = false) (g3 : sg.names.lookup x3 = some .globalImplicit ∧ X.mg x3 = some (.ref C3) ∧ (x3 == ("__debug__" : Str)) = false)
    (hcat : ∀ c, ctch c = true → PySem.W.exmAny X.K (.ref (ga K c)) [.ref C1, .ref C2, .ref C3] = some true) (hr : Room (k + 1) X.A) (hG : X.A.guards = some [])
    (hsu : ∀ (s : Shared) (H : Hp) (b : Addr) (pn : List (Addr × Obj)), RoomA k ((cxOf C8.CX0 X.prog X.w X.K X.mg X.base Ng x sg g cdg X.A X.stack s H C8.E0).nox.suite b pn).A → SsW ((cxOf C8.CX0 X.prog X.w X.K X.mg X.base Ng x sg g cdg X.A X.stack s H C8.E0).nox.suite b pn) K (b₀ :: suite) su)
    (hrest : ∀ (s : Shared) (H : Hp), Room k (X.A.deeper (envOfC x sg s.heap.objs.size g cdg)) → SsW (cxOf C8.CX0 X.prog X.w X.K X.mg X.base Ng x sg g cdg X.A X.stack s H C8.E0).nox K rest mr)
    (hsw : ∀ env : Env, swapsWith (.Call (.Name a q1) [] [] q2) (some (.Name y py)) pa.line env = pure false := by intro _; rfl) :
    GivesTo X Ng x sg g cdg (.Try [.Assign [.Name y py] (.Call (.Name a q1) [] [] q2) pa] [.ExceptHandler (some (.Tuple [.Name x1 p1, .Name x2 p2, .Name x3 p3] kt tpos)) (some n) (b₀ :: suite) pos'] [] [] pos :: rest) a q (TTc K (mCgt ctch Ng.length i j fin su mr)) := by
  intro f c' s H Q tl act hc ⟨F, ρ, M, r, u, M', sr, hA, hm, kk⟩
  have hr2 : Room k (X.A.deeper (envOfC x sg s.heap.objs.size g cdg)) := hr.deeper _
  have hrA : ∀ (b : Addr) (pn : List (Addr × Obj)), RoomA k ((cxOf C8.CX0 X.prog X.w X.K X.mg X.base Ng x sg g cdg X.A X.stack s H C8.E0).nox.suite b pn).A := fun b pn => (RoomA.of hr2 hG).mark _
  refine ⟨_, pss_cons (ps_tryA (X := (cxOf C8.CX0 X.prog X.w X.K X.mg X.base Ng x sg g cdg X.A X.stack s H C8.E0).nox) (n := n) (i := i)
      (tb := fun W D σ H => ∃ E : XK, (∀ cls d H' (σ' : L2.St), E cls d H' → σ'.length = Ng.length → W cls d σ' H') ∧ σ[0]? = some (some (.ref f)) ∧ H c' = some (CodeO c' q) ∧ tl E H fun v H1 => D.nx (σ.set j (some v)) H1) (ts := tWS K su)
      rfl rfl rfl hN hi hln g1 g2 g3 (fun W pn xe tk _ => ⟨fun pins s' σ H' D I ⟨E, hW, h1, h2, h3⟩ => ?_⟩) fun b pn => hsu s H b pn (hrA b pn)) (hrest s H hr2), ?_⟩
  · have hp := act (fun cls d _ H => Wof _ cls d H) pn xe E q1 q2 takes_wof fun cls d σ' H' h => wof_ofL tk fun σ hl => hW cls d H' σ h hl
    exact (pss_one (ps_set (pos := pa) (pos' := py) hN hj (.inl hly) hp (hsw _) (.inr hly))).run pins s' σ H' D I ⟨h1, h2, h3⟩
  · have hlen : (L2.start Ng [V.ref f]).length = Ng.length := by unfold L2.start; simp; omega
    obtain ⟨⟨fl, s1, M1⟩, e1, e2⟩ := bind2 hm
    -- what the end of the body gives
    have kend : ∀ F1 ρ1 H1 σ1, Go F ρ H F1 ρ1 H1 → Sr K F1 ρ1 H1 M1 → FlQ K F1 ρ1 { nx := fun _ H' => Q .non H', rt := Q } s1 σ1 H1 fl := fun F1 ρ1 H1 σ1 gg1 sr1 => by
      cases fl with
      | nx =>
        intro _
        obtain ⟨F2, ρ2, g2', s2, r2⟩ := hf F ρ H M F1 ρ1 H1 M1 (.p .non) u M' .non sr gg1 sr1 rfl e2
        exact kk F2 ρ2 H1 .non g2' s2 r2
      | ret u1 =>
        intro v rv
        obtain ⟨F2, ρ2, g2', s2, r2⟩ := hf F ρ H M F1 ρ1 H1 M1 u1 u M' v sr gg1 sr1 rv e2
        exact kk F2 ρ2 H1 v g2' s2 r2
      | brk => cases e2
      | ct => cases e2
    obtain ⟨⟨f0, s0, M0⟩, e3, e4⟩ := bind2 e1
    refine ⟨fun cls d H' => ∀ σ' : L2.St, σ'.length = Ng.length → wCat X.K [.ref C1, .ref C2, .ref C3] i Ng.length (tWS K su) { nx := fun σ1 H1 => tWS K mr { nx := fun _ H' => Q .non H', rt := Q } σ1 H1, rt := Q } cls d σ' H', fun cls d H' σ' h hl => h σ' hl, by unfold L2.start; simp, hc, hA _ _ ?_⟩
    unfold mCat at e3
    cases r with
    | no => cases e3
    | ok x =>
      cases e3
      intro F1 ρ1 H1 v gg1 sr1 r1
      exact ⟨F1, ρ1, _, x.2, fl, s1, M1, sr1, (sv_none hlen).set j r1, e4, fun F2 ρ2 H2 σ2 gg2 sr2 => kend F2 ρ2 H2 σ2 (gg1.trans gg2) sr2⟩
    | ex c fs M2 =>
      dsimp only at e3
      split at e3
      · rename_i hcc
        obtain ⟨⟨fl2, us2, M3⟩, e5, e6⟩ := Option.map_eq_some_iff.mp e3
        cases e6
        intro F1 ρ1 H1 cls d gg1 sr1 rx σ' hl
        have ecls := rx.1
        subst ecls
        refine ⟨ga K c, rfl, hcat c hcc, fun _ b hb => ?_⟩
        obtain ⟨s2, gg2, r2⟩ := exc_new sr1 hb rx
        refine ⟨_, ρ1, _, M2, fl2, us2, _, s2, (sv_none hl).set i r2, e5, fun F3 ρ3 H3 σ3 gg3 sr3 => ?_⟩
        have g13 := (gg1.trans gg2).trans gg3
        cases fl2 with
        | nx => exact fun sv3 => ⟨F3, ρ3, _, _, fl, s1, M1, sr3, sv3.wipe1 i, e4, fun F4 ρ4 H4 σ4 gg4 sr4 => kend F4 ρ4 H4 σ4 (g13.trans gg4) sr4⟩
        | ret u =>
          cases e4
          exact kend F3 ρ3 H3 σ3 g13 sr3
        | brk =>
          cases e4
          exact fun sv3 => kend F3 ρ3 H3 (σ3.set i none) g13 sr3 (sv3.wipe1 i)
        | ct =>
          cases e4
          exact fun sv3 => kend F3 ρ3 H3 (σ3.set i none) g13 sr3 (sv3.wipe1 i)
      · cases e3
/-- x(lambda: e) -/
def mCaught (p : Defn) (q : Str) (ti : Nat) (gm : Rz Mm (U × Mm) → Mm → Option (U × Mm)) (ml : Xe) : E := fun us M => match M[ti]? with
  | some (.tab p' q') => if p' = p ∧ q' = q then gm (ml us M) M else none
  | _ => none
theorem ew_caught {X : Cx} {K : PySem.W.Frag} {x a : Str} {g : Addr} {k ti : Nat} {pg : Arguments} {bg : List Stmt} {sg : Scope} {dV kV doc pm cdv ct oc : Value} {an od : Option Addr} {osl : Array (Option Value)} {Ng : List Str} {params : Arguments} {body : Expr} {scope : Scope} {p lpos pos : Pos}
    {dn : Defn} {gm : Rz Mm (U × Mm) → Mm → Option (U × Mm)} {ml : Xe} (hK : X.K = K) (hm : X.mg x = some (.ref g)) (hk : PySem.W.keepIn X.K (.ref g) = true)
    (lk : X.K.lookup g = some ⟨oc, od, .func (PySem.W.fnOf x x pg bg sg dV kV doc pm an cdv ct), osl⟩) (hcg : PySem.W.codeIn X.K cdv x = true) (hb : L2.Binds X.K (PySem.W.fnOf x x pg bg sg dV kV doc pm an cdv ct) [a] []) (Sg : FnScope Ng [a] sg) (hNg : Ng[0]? = some a) (hva : Vis sg a)
    (hG : GivesTo X Ng x sg g cdv bg a (X.env.qual ++ "<lambda>") (TTc K gm))
    (TB : TabB X.base X.mg (cT K dn).1 (cT K dn).2) (hcode : X.env.code = .ref (cT K dn).1) (hr : Room (k + 2) X.A) (L : LamS X.env.scope scope) (hdef : defaultsOf params X.env = ([], []))
    (hbind : ∀ (q : Str) (cl : List (Str × Addr)) (pm cv ctv : Value), bindArgs (PySem.W.kla_fn "<lambda>" q params body scope cl pm cv ctv) ⟨[], []⟩ = pure [])
    (hbody : ∀ (A : Around) (outer : List Env) (s : Shared) (H : Hp) (E : XK) (f c' : Addr), Room k (A.deeper (lamEnv X scope s.heap.objs.size f c')) → EX (lamCx X A outer s H E scope f c') K body ml) (hg : Gl X x := by rfl)
    (hdb : (x == ("__debug__" : Str)) = false := by decide) (hd : (a == ("__debug__" : Str)) = false := by decide) (hcd : (a == ("__classdict__" : Str)) = false := by decide) :
    EW X K (.Call (.Name x p) [.Lambda params body scope lpos] [] pos) (mCaught dn (X.env.qual ++ "<lambda>") ti gm ml) := by
  subst hK
  refine ⟨fun pins s σ H Q I ⟨F, ρ, us, M, u, M', sr, sv, hmm, kk⟩ => ?_⟩
  unfold mCaught at hmm
  split at hmm
  · rename_i p' q' e
    split at hmm
    · rename_i hpq
      obtain ⟨rfl, rfl⟩ := hpq
      refine (pe_lamcall (T := tabsOf X.K M) (TT := TTc X.K gm) (t := fun E => tX X.K E ml) hg hm hk lk hcg hb Sg hNg hva hG TB hcode (mem_tabsOf e) (sr_hu sr e) hr L hdef hbind (fun A outer s' H' E f c' hr' => (hbody A outer s' H' E f c' hr').weak fun σ' H2 Q2 ⟨F2, ρ2, us2, M2, sr2, sv2, h2⟩ =>
        ⟨F2, ρ2, us2, M2, sr2, sv2, h2.imp (fun _ h => h) fun _ _ _ h F3 ρ3 H3 cls d g3 s3 r3 => wof_of (takes_of (X := lamCx X A outer s' H' E scope f c') (E := E) rfl rfl rfl rfl) (h F3 ρ3 H3 cls d g3 s3 r3)⟩) hdb hd hcd).run pins s σ H Q I ⟨sr_tabs sr, fun H1 eN T1 => ?_⟩
      obtain ⟨sr1, g1⟩ := sr_ext sr eN T1
      exact ⟨F, ρ, M, ml us M, u, M', sr1, fun E Q' hs => ⟨F, ρ, us, M, sr1, sv, hs⟩, hmm, fun F' ρ' H' v g2 => kk F' ρ' H' v (g1.trans g2)⟩
    · cases hmm
  · cases hmm
end Pz
/-! ### isinstance of exceptions; the tests of exception classes -/
namespace Pz
open PySem PySem.Spec PyProof.Rows L2 He Rt LamX
/-- isinstance(e, C), e an exception -/
def isiE (oks : Str → Bool) (kt : Str → Cl → Option Bool) : FA := fun us M => match us with
  | [.p (.exc c _), .p (.ty n)] => if oks c = true then (kt c (.ty n)).map fun b => (.p (.bl b), M) else none
  | [.p (.exc c _), .p (.cls x)] => if oks c = true then (kt c (.own x)).map fun b => (.p (.bl b), M) else none
  | _ => none
section
variable {K : PySem.W.Frag} {oks : Str → Bool} {kt : Str → Cl → Option Bool}
theorem vr_isiE (hok : ∀ c, oks c = true → ExcC K (ga K c)) (hk : ∀ c t b, kt c t = some b → PySem.W.kitOne K (.ref (ga K c)) (clV K t) = some b) : VRA K (rIsX K) (isiE oks kt) := by
  intro F ρ H M x u c M' Q sr ru hm k
  have go : ∀ {cn : Str} {fs : List (Str × W)} {v : V} {t : Cl} {tv : V} {b : Bool}, oks cn = true → kt cn t = some b → RU K F ρ (.p (.exc cn fs)) v → (∀ u, RelV tv u → u = clV K t) → Q (.bl b) H → rIsX K [v, tv] H Q := fun {cn fs v t tv b} h1 h2 r ht q => by
    obtain ⟨a, rfl, hx⟩ := exc_at sr r
    rcases hx with ⟨rfl, ea⟩ | ⟨dx, gs, ea, ed, _⟩
    · exact ⟨a, ga K cn, none, tv, _, b, rfl, ea, (fun dx z => by cases z), hok cn h1, ht, hk _ _ _ h2, q⟩
    · exact ⟨a, ga K cn, some dx, tv, _, b, rfl, ea, (fun dx' z => by cases z; exact ⟨gs, ed⟩), hok cn h1, ht, hk _ _ _ h2, q⟩
  unfold isiE at hm
  split at hm
  · split at hm
    · rename_i hc
      obtain ⟨b, e2, e3⟩ := Option.map_eq_some_iff.mp hm
      cases e3
      obtain ⟨v, vt, rfl, r0, v2, vt2, rfl, r2, rfl⟩ := ru
      cases r2
      exact go hc e2 r0 (fun u h => h) (k _ _ _ _ Go.refl sr rfl)
    · cases hm
  · split at hm
    · rename_i hc
      obtain ⟨b, e2, e3⟩ := Option.map_eq_some_iff.mp hm
      cases e3
      obtain ⟨v, vt, rfl, r0, v2, vt2, rfl, r2, rfl⟩ := ru
      cases r2
      exact go hc e2 r0 (fun u h => h) (k _ _ _ _ Go.refl sr rfl)
    · cases hm
  · cases hm
end
/-! tests of the written part -/
def fExc (x : Str) (K : PySem.W.Frag) : Bool :=
  decide (PySem.W.findIn K (.ref (ga K x)) "__getattribute__" = some (some (.builtin "BaseException.__getattribute__"))) && (decide (PySem.W.findIn K (.ref (ga K x)) "__getattr__" = some none) && (decide (PySem.W.subIn K (.ref (ga K x)) (.type "BaseException") = some true) && (PySem.W.hasDictIn K (ga K x) &&
  (decide (PySem.W.findIn K (.ref (ga K x)) "__class__" = some (some (.builtin "object.__class__"))) && (decide (PySem.W.specialIn K (.builtin "object.__class__") "__get__" = some (some (.builtin "getset_descriptor.__get__"))) && (decide (PySem.W.takesIn K (.builtin "object.__class__") = some true) && decide (PySem.W.mroIn K (ga K x) (.type "object") = some true)))))))
theorem fExc_ok {K : PySem.W.Frag} {x : Str} (h : fExc x K = true) : ExcC K (ga K x) := by
  obtain ⟨h1, h⟩ := ba h
  obtain ⟨h2, h⟩ := ba h
  obtain ⟨h3, h⟩ := ba h
  obtain ⟨h4, h⟩ := ba h
  obtain ⟨h5, h⟩ := ba h
  obtain ⟨h6, h⟩ := ba h
  obtain ⟨h7, h8⟩ := ba h
  exact ⟨of_decide_eq_true h1, of_decide_eq_true h2, of_decide_eq_true h3, h4, of_decide_eq_true h5, of_decide_eq_true h6, of_decide_eq_true h7, of_decide_eq_true h8⟩
def bmOf (B : String) : List Value := [.type B, .type "Exception", .type "BaseException", .type "object"]
def fXc (x : Str) (B : String) (K : PySem.W.Frag) : Bool := PySem.W.excInitIn K (ga K x) (bmOf B) (B ++ ".__new__") && (PySem.W.excOver K (ga K x) (bmOf B) && (PySem.W.hasDictIn K (ga K x) && (decide (PySem.W.findIn K (.ref (ga K x)) "__setattr__" = some (some (.builtin "object.__setattr__"))) && PySem.W.keepIn K (.ref (ga K x)))))
theorem fXc_ok {K : PySem.W.Frag} {x : Str} {B : String} (h : fXc x B K = true) : XcC K (ga K x) (bmOf B) (B ++ ".__new__") := by
  obtain ⟨h1, h⟩ := ba h
  obtain ⟨h2, h⟩ := ba h
  obtain ⟨h3, h⟩ := ba h
  obtain ⟨h4, h5⟩ := ba h
  exact ⟨h1, h2, h3, of_decide_eq_true h4, h5⟩
/-- the class may be raised -/
structure RaC (K : PySem.W.Frag) (C : Addr) : Prop where
  sub : PySem.W.subIn K (.ref C) (.type "BaseException") = some true
  ty : PySem.W.typeIn K (.ref C) = some (.type "type")
  kp : PySem.W.keepIn K (.ref C) = true
def fRa (x : Str) (K : PySem.W.Frag) : Bool := decide (PySem.W.subIn K (.ref (ga K x)) (.type "BaseException") = some true) && (decide (PySem.W.typeIn K (.ref (ga K x)) = some (.type "type")) && PySem.W.keepIn K (.ref (ga K x)))
theorem fRa_ok {K : PySem.W.Frag} {x : Str} (h : fRa x K = true) : RaC K (ga K x) := by
  obtain ⟨h1, h⟩ := ba h
  obtain ⟨h2, h3⟩ := ba h
  exact ⟨of_decide_eq_true h1, of_decide_eq_true h2, h3⟩
/-- the class's own __init__ -/
structure XiC (K : PySem.W.Frag) (C : Addr) (f : Addr) : Prop where
  at_ : PySem.W.findIn K (.ref C) "__init__" = some (some (.ref f))
  fn : PySem.W.typeIn K (.ref f) = some (.type "function")
def fXi (x : Str) (K : PySem.W.Frag) : Bool := decide (PySem.W.findIn K (.ref (ga K x)) "__init__" = some (some (.ref (ma K (ga K x) "__init__")))) && decide (PySem.W.typeIn K (.ref (ma K (ga K x) "__init__")) = some (.type "function"))
theorem fXi_ok {K : PySem.W.Frag} {x : Str} (h : fXi x K = true) : XiC K (ga K x) (ma K (ga K x) "__init__") := by
  obtain ⟨h1, h2⟩ := ba h
  exact ⟨of_decide_eq_true h1, of_decide_eq_true h2⟩
def fX0 (x : Str) (B : String) (K : PySem.W.Frag) : Bool := PySem.W.excIn K (ga K x) (bmOf B) (B ++ ".__new__")
def fNoF (x f : Str) (K : PySem.W.Frag) : Bool := decide (PySem.W.findIn K (.ref (ga K x)) f = some none)
def fExm (x : Str) (cs : List Str) (K : PySem.W.Frag) : Bool := decide (PySem.W.exmAny K (.ref (ga K x)) (cs.map fun c => .ref (ga K c)) = some true)
/-! raise, by the tests -/
section
variable {P : Program} {w : World} {mg : Str → Option Value} {base : Heap}
/-- an exception class over B whose __init__ stores its parameters as the fields ns -/
structure XRs (P : Program) (w : World) (K : PySem.W.Frag) (mg : Str → Option Value) (base : Heap) (c : Str) (ns : List Str) : Prop where
  ex : ∃ (B newId initId : String) (bmB : List Value) (fd : FuncData) (ps : List Str) (sp : Sp), ExcBaseFacts B newId initId bmB ∧ XcC K (ga K c) bmB newId ∧ RaC K (ga K c) ∧ XiC K (ga K c) (ma K (ga K c) "__init__") ∧ mg c = some (.ref (ga K c)) ∧ FnOk P w K mg base (L2.CX P w) 1 (ma K (ga K c) "__init__") fd ps sp ∧ Binds K fd ps [] ∧
    ((∃ f, ns = [f] ∧ sp = spX1 (ga K c) f) ∨ ∃ f g, ns = [f, g] ∧ sp = spX2 (ga K c) f g)
variable {X : Cx} {K : PySem.W.Frag} {c : Str} {ns : List Str} {p pos pos' : Pos} {e : Expr} {es : List Expr} {ma : Xa} {j : Nat}
theorem sx_raise (T : XRs X.prog X.w X.K X.mg X.base c ns) (hr : Room j X.A) (ha : AX X K (e :: es) ma) (hK : X.K = K := by rfl) (hc : X.calm = true := by rfl) (hg : Gl X c := by rfl) (hk : 2 ≤ j := by decide)
    (hdb : (c == ("__debug__" : Str)) = false := by decide) (he : starEach (e :: es) X.env = (false, eval e X.env) :: starEach es X.env := by rfl) (hpl : (backTo pos (starEach es X.env)).any (·.1) = false := by rfl) :
    SX X K (.Raise (some (.Call (.Name c p) (e :: es) [] pos)) none pos') (xRaise c ns ma) := by
  subst hK
  obtain ⟨B, newId, initId, bmB, fd, ps, sp, FB, TX, R, I, m, F1, b, ⟨f, rfl, rfl⟩ | ⟨f, g, rfl, rfl⟩⟩ := T.ex
  · exact sx_raise1 FB TX (raises_own R.sub R.ty) I.at_ I.fn F1 hr b hc m ha hg hk hdb he hpl
  · exact sx_raise2 FB TX (raises_own R.sub R.ty) I.at_ I.fn F1 hr b hc m ha hg hk hdb he hpl
/-- an exception class without an own __init__ -/
structure XR0 (K : PySem.W.Frag) (mg : Str → Option Value) (c : Str) : Prop where
  ex : ∃ (B newId initId : String) (bmB : List Value), ExcBaseFacts B newId initId bmB ∧ PySem.W.excIn K (ga K c) bmB newId = true ∧ RaC K (ga K c) ∧ mg c = some (.ref (ga K c))
theorem sx_raiseN (T : XR0 X.K X.mg c) (hK : X.K = K := by rfl) (hc : X.calm = true := by rfl) (hg : Gl X c := by rfl) (hdb : (c == ("__debug__" : Str)) = false := by decide) : SX X K (.Raise (some (.Call (.Name c p) [] [] pos)) none pos') (xRaise0 c) := by
  subst hK
  obtain ⟨B, newId, initId, bmB, FB, q, R, m⟩ := T.ex
  exact sx_raise0 FB q m R.kp (raises_own R.sub R.ty) hc hg hdb
end
end Pz
/-! ### defs with lambdas -/
namespace Pz
open PySem PySem.Spec PyProof.Rows L2 He Rt LamX
section
variable {P : Program} {w : World} {K : PySem.W.Frag} {mg : Str → Option Value} {base : Heap}
/-- a def whose code object is told -/
theorem okWGL {x : Str} {st : Stmt} {dvs : List V} {fd : FuncData} {N ps : List Str} {k nl : Nat} {fin : Nat → U → Mm → Option (U × Mm)} {b : S} (F : FnD K x x st dvs (ga K x) fd) (S : FnScope N ps (defScope st)) (hf : FinOk K fin) (hN : N.length = ps.length + nl)
    (hbody : ∀ (cdv : Value) (A : Around) (outer : List Env) (s : Shared) (H : Hp) (E : XK), A.guards = some [] → cdv = .ref (cT K (x, none)).1 → Room k (A.deeper (envOfC x (defScope st) s.heap.objs.size (ga K x) cdv)) →
      SsW (cxOf (L2.CX P w) P w K mg base N x (defScope st) (ga K x) cdv A outer s H E).nox K (defBody st) b) : FnG P w K mg base (k + 1) (ga K x) fd ps (spW K (mDef ps.length nl fin b)) := by
  obtain ⟨oc, od, dV, kV, doc, pm, an, cdv, ct, osl, rfl, lk, hcd, _, _⟩ := F.ex
  obtain ⟨c, rfl⟩ := codeIn_ref hcd
  have e : codeOf K (x, none) = c := codeOf_eq (p := (x, none)) lk rfl
  refine fn_ofG lk hcd S (fun vs H Q E h => spW_len h) fun A outer s H vs Q E hg hr h => ⟨_, (hbody (.ref c) A outer s H E hg ?_ hr).nox, body_ok hf hN h⟩
  show Value.ref c = .ref (codeOf K (x, none))
  rw [e]
end
end Pz
/-! ### list.index, list.count of flat values; list * int; x += y by an own def -/
namespace Pz
open PySem PySem.Spec PyProof.Rows L2 He Rt
def flatW : W → Option V
  | .non => some .non
  | .bl b => some (.bl b)
  | .int i => some (.int i)
  | .str x => some (.str x)
  | _ => none
def flatWs : List W → Option (List V)
  | [] => some []
  | w :: r => (flatW w).bind fun v => (flatWs r).map fun vs => v :: vs
theorem flatW_ok {K : PySem.W.Frag} {F : Hp} {w : W} {v u : V} (h : flatW w = some v) (r : Rp K F w u) : u = v ∧ flatV v = true := by
  unfold flatW at h
  split at h <;> first | (cases h; cases r; exact ⟨rfl, rfl⟩) | cases h
theorem flatWs_ok {K : PySem.W.Frag} {F : Hp} : ∀ {ws : List W} {vs us : List V}, flatWs ws = some vs → RpL K F ws us → us = vs ∧ vs.all flatV = true
  | [], _, _, h, r => by cases h; cases r; exact ⟨rfl, rfl⟩
  | w :: ws, _, _, h, r => by
    obtain ⟨v, e1, h⟩ := bind2 (show (flatW w).bind (fun v => (flatWs ws).map fun vs => v :: vs) = _ from h)
    obtain ⟨vs, e2, rfl⟩ := Option.map_eq_some_iff.mp h
    obtain ⟨u, us, rfl, q, t⟩ := r
    obtain ⟨rfl, h1⟩ := flatW_ok e1 q
    obtain ⟨rfl, h2⟩ := flatWs_ok e2 t
    exact ⟨rfl, by rw [List.all_cons, h1, h2]; rfl⟩
def ixM : U → FA := fun o us M => match us with
  | [.p y] => (seqL M o).bind fun ws => (flatWs ws).bind fun vs => (flatW y).bind fun v => (vs.findIdx? fun z => eqV z v).map fun j => (.p (.int (j : Nat)), M)
  | _ => none
def cntM : U → FA := fun o us M => match us with
  | [.p y] => (seqL M o).bind fun ws => (flatWs ws).bind fun vs => (flatW y).map fun v => (.p (.int ((vs.countP fun z => eqV z v : Nat) : Int)), M)
  | _ => none
section
variable {K : PySem.W.Frag}
theorem tym_seq : TyM K "list" isLst := tym_lst
theorem vr_ixM : VRM K "list" (rIndex K) ixM := by
  intro F ρ H M x xs u us c M' Q sr ru rus hm k
  unfold ixM at hm
  split at hm
  · rename_i y
    obtain ⟨ws, e1, hm⟩ := bind2 hm
    obtain ⟨vs, e2, hm⟩ := bind2 hm
    obtain ⟨v, e3, hm⟩ := bind2 hm
    obtain ⟨j, e4, e5⟩ := Option.map_eq_some_iff.mp hm
    cases e5
    obtain ⟨a, us, rfl, hs, rl⟩ := sr.seqL e1 ru
    obtain ⟨v0, vt, rfl, r0, rfl⟩ := rus
    obtain ⟨rfl, f1⟩ := flatWs_ok e2 rl
    obtain ⟨rfl, f2⟩ := flatW_ok e3 r0
    rw [List.findIdx?_eq_some_iff_getElem] at e4
    obtain ⟨hj, h1, h2⟩ := e4
    refine ⟨a, us, v0, j, us[j], rfl, rfl, hs, f2, f1, by simp, h1, fun m z' hmj hz => ?_, k _ _ _ _ Go.refl sr rfl⟩
    have hml : m < us.length := by omega
    rw [List.getElem?_eq_getElem hml] at hz
    cases hz
    simpa using h2 m hmj
  · cases hm
def rCount (K : PySem.W.Frag) : V → List V → Hp → VK → Prop := fun x xs H Q => ∃ (a : Addr) (ys : List V) (y : V), x = V.ref a ∧ xs = [y] ∧ SqL K H a ys ∧ flatV y = true ∧ ys.all flatV = true ∧ Q (.int ((ys.countP fun z => eqV z y : Nat) : Int)) H
theorem countP_vals {y : V} : ∀ {ys : List V} {us : List Value}, Vals ys us → ys.all flatV = true → us.countP (L2.eqU y) = ys.countP fun z => eqV z y
  | _, _, .nil, _ => rfl
  | z :: ys, u :: us, .cons r t, f => by
    rw [List.all_cons, Bool.and_eq_true] at f
    rw [List.countP_cons, List.countP_cons, countP_vals t f.2, eqU_of r f.1]
theorem mt_count {X : Cx} : MtR X "list.count" (rCount X.K) := by
  intro pins s σ H x xs v us Q I rx rxs h
  obtain ⟨a, ys, y, rfl, rfl, hs, fy, fys, q⟩ := h
  cases rx
  cases rxs with
  | cons ry rt =>
    rename_i uy ut
    cases rt
    obtain ⟨its, rv, ⟨⟨cls, dd, data, sl⟩, n, ho, hc, hdn, hd⟩, hlen⟩ := I.list hs
    simp only at hc hd
    subst hc hd
    refine call_meets PySem.F.slot_list_count ⟨_, ho, rfl⟩ PySem.F.entry_list_count (PySem.F.args_list_count_2 _ _) (SeqAt.list_countAt a its.toArray n dd sl uy (L2.eqU y)) ⟨ho, fun u' hu' => mem_eqAt ry fy rv fys u' (by simpa using hu'), ?_⟩
    refine ⟨.int _, H, I.tok _, ⟨_, rfl⟩, ?_⟩
    have e : its.toArray.toList.countP (L2.eqU y) = ys.countP fun z => eqV z y := countP_vals rv fys
    rw [e]
    exact q
theorem vr_cntM : VRM K "list" (rCount K) cntM := by
  intro F ρ H M x xs u us c M' Q sr ru rus hm k
  unfold cntM at hm
  split at hm
  · rename_i y
    obtain ⟨ws, e1, hm⟩ := bind2 hm
    obtain ⟨vs, e2, hm⟩ := bind2 hm
    obtain ⟨v, e3, e5⟩ := Option.map_eq_some_iff.mp hm
    cases e5
    obtain ⟨a, us, rfl, hs, rl⟩ := sr.seqL e1 ru
    obtain ⟨v0, vt, rfl, r0, rfl⟩ := rus
    obtain ⟨rfl, f1⟩ := flatWs_ok e2 rl
    obtain ⟨rfl, f2⟩ := flatW_ok e3 r0
    exact ⟨a, us, v0, rfl, rfl, hs, f2, f1, k _ _ _ _ Go.refl sr rfl⟩
  · cases hm
/-- a list n times -/
def lmU : F2 := fun a b M => match a, b with
  | .p (.lst ws), .p (.int n) => if 0 ≤ n ∧ n ≤ 1000 ∧ ws.length ≤ 1000 then some (.p (.lst (List.replicate n.toNat ws).flatten), M) else none
  | _, _ => none
theorem RpL.flat {F : Hp} {ws : List W} {vs : List V} (r : RpL K F ws vs) : ∀ n : Nat, RpL K F (List.replicate n ws).flatten (List.replicate n vs).flatten
  | 0 => rfl
  | n + 1 => by
    rw [List.replicate_succ, List.replicate_succ, List.flatten_cons, List.flatten_cons]
    exact r.append (RpL.flat r n)
theorem vr_lm : VR2 K rRep lmU := by
  intro F ρ H M x y u w c M' Q sr ru rw' hm k
  unfold lmU at hm
  split at hm
  · rename_i ws n
    split at hm
    · rename_i hc
      cases hm
      obtain ⟨a, vs, rfl, f, q⟩ := ru
      cases rw'
      have hl := q.length
      refine ⟨a, n, vs, rfl, rfl, sr.sub _ _ f, by omega, by omega, ?_, fun p hp => ?_⟩
      · rw [sz_line]
        have h1 : n.toNat ≤ 1000 := by omega
        have h2 : vs.length ≤ 1000 := by omega
        have := Nat.mul_le_mul h2 h1
        omega
      · obtain ⟨s1, s2⟩ := sr.newF (o := .lst (List.replicate n.toNat vs).flatten) hp
        exact k _ _ _ _ (sr.goF hp) s1 ⟨p, _, rfl, upd_same, (q.flat n.toNat).mono s2⟩
    · cases hm
  · cases hm
end
/-! x += y -/
def rIadd (C : Addr) (sp : Sp) : V → V → Hp → VK → Prop := fun x y H Q => ∃ a dx fs, x = .ref a ∧ H a = some (.ins C dx fs) ∧ sp [x, y] H (fun v H' => ∃ r, v = .ref r ∧ Q (.ref r) H') E0
theorem ip_own {X : Cx} {op : Operator} {k : Nat} {C : Addr} {m : Str} {sp : Sp} (c : Sm X.prog X.w X.K X.mg X.base k C m sp) (hr : Room k X.A) (hc : PySem.W.selfFirst X.K C = true) (hm : dunderI op.info.2 = m) : PIp X op (rIadd C sp) := by
  intro pins s σ H x y v u Q I rx ry h
  obtain ⟨f, fd, ps, F, hs, hf, kp, b⟩ := c.ex
  obtain ⟨a, dx, fs, rfl, ea, q⟩ := h
  cases (show v = Value.ref a from rx)
  obtain ⟨od, J⟩ := ins_at I ea
  obtain ⟨m', hF⟩ := I.fr
  exact PySem.W.ksp_inplace hF I.ok.mod.kin J hc (by rw [hm]; exact hs) hf (thn (run_at (vs := [.ref a, y]) (Sub.here hr) F b passL I (.cons rfl (.cons ry .nil)) q) fun w s' hw => ref_end hw)
def iadO (c : Str) (g : FA) : F2 := fun a b M => match insF c M a with
  | some _ => rf (g [a, b] M)
  | none => none
theorem vr_iadO {K : PySem.W.Frag} {c : Str} {g : FA} : VR2 K (rIadd (ga K c) (spW K g)) (iadO c g) := by
  intro F ρ H M x y u w r M' Q sr ru rw' hm kk
  unfold iadO at hm
  split at hm
  · rename_i fs hf
    obtain ⟨a, dx, gs, rfl, e1, q1⟩ := insF_ok sr hf ru
    exact ⟨a, dx, gs, rfl, e1, sp_ref sr (rus2 ru rw') hm kk⟩
  · cases hm
/-! instance op instance, which may raise -/
def rBinLE (C : Addr) (sp : Sp) (E : XK) : R2 := fun x y H Q => ∃ a dx fs b dy gs, x = .ref a ∧ y = .ref b ∧ H a = some (.ins C dx fs) ∧ H b = some (.ins C dy gs) ∧ sp [x, y] H (fun v H' => ∃ r, v = .ref r ∧ Q (.ref r) H') E
theorem op_binLE {X : Cx} {op : Operator} {k : Nat} {C : Addr} {m : Str} {sp : Sp} (c : Sm X.prog X.w X.K X.mg X.base k C m sp) (hr : Room k X.A) (hc : PySem.W.selfFirst X.K C = true) (hm : PySem.dunder op.info.2 = m) : OpR X (binaryOp op) (rBinLE C sp (Wof X)) := by
  intro pins s σ H x y v u Q I rx ry h
  obtain ⟨f, fd, ps, F, hs, hf, kp, b⟩ := c.ex
  obtain ⟨a, dx, fs, a2, dy, gs, rfl, rfl, ea, eb, q⟩ := h
  cases (show v = Value.ref a from rx)
  cases (show u = Value.ref a2 from ry)
  obtain ⟨od, J⟩ := ins_at I ea
  obtain ⟨od2, J2⟩ := ins_at I eb
  obtain ⟨m', hF⟩ := I.fr
  exact PySem.W.binop_K hF I.ok.mod.kin J J2.type hc (by rw [hm]; exact hs) hf (thn (run_at (vs := [.ref a, .ref a2]) (Sub.here hr) F b passW I (.cons rfl (.cons rfl .nil)) q) fun w s' hw => ref_end hw)
def xbinL (c : Str) (g : FAx) : F2x := fun a b M => match insF c M a with
  | some _ => match insF c M b with
    | some _ => xrf (g [a, b] M)
    | none => .no
  | none => .no
theorem vx_binL {K : PySem.W.Frag} {E : XK} {c : Str} {g : FAx} : VX2 K E (rBinLE (ga K c) (spX K g) E) (xbinL c g) := by
  intro F ρ H M x y u w Q sr ru rw' hm
  unfold xbinL at hm
  split at hm
  · rename_i fs hf
    obtain ⟨a, dx, gs, rfl, e1, q1⟩ := insF_ok sr hf ru
    split at hm
    · rename_i fs2 hf2
      obtain ⟨b, dy, hs, rfl, e2, q2⟩ := insF_ok sr hf2 rw'
      exact ⟨a, dx, gs, b, dy, hs, rfl, rfl, e1, e2, spx_ref sr (rus2 ru rw') hm⟩
    · exact hm.elim
  · exact hm.elim
/-! one operation or another one -/
def orU (f g : F2) : F2 := fun a b M => match f a b M with
  | some r => some r
  | none => g a b M
theorem vr_or {K : PySem.W.Frag} {r r' : R2} {f g : F2} (h : VR2 K r f) (h' : VR2 K r' g) : VR2 K (fun x y H Q => r x y H Q ∨ r' x y H Q) (orU f g) := by
  intro F ρ H M x y u w c M' Q sr ru rw' hm k
  unfold orU at hm
  split at hm
  · rename_i z e
    cases hm
    exact .inl (h F ρ H M x y u w c M' Q sr ru rw' e k)
  · exact .inr (h' F ρ H M x y u w c M' Q sr ru rw' hm k)
end Pz
/-! ### texts of long ints: the digits' limit is as it was born -/
namespace Pz
open PySem PySem.Spec PyProof.Rows L2 He Rt
open PySem.Builtin PySem.Builtin.Str PySem.Builtin.Int
def strKeyB : Value → Bool
  | .str _ _ => true
  | _ => false
/-- the interpreter's own statics stand in K, and none of them is the digits' limit -/
def fDg (K : PySem.W.Frag) : Bool := match K.lookup cStatics with
  | some ⟨_, _, .dict es _, _⟩ => es.toList.all (fun e => strKeyB e.key) && !es.toList.any (fun e => e.key.isStr "sys.int_max_str_digits")
  | _ => false
theorem noDigits {K : PySem.W.Frag} {h : Heap} (hd : fDg K = true) (x : K.In h) : h.NoDigits := by
  unfold fDg at hd
  split at hd
  · rename_i c d es n sl ho
    obtain ⟨h1, h2⟩ := ba hd
    refine ⟨nsFind es, ⟨_, es, n, x _ _ ho, rfl, fun e he => ?_, fun _ => rfl⟩, ?_⟩
    · have := List.all_eq_true.mp h1 e (Array.mem_toList_iff.mpr he)
      cases hk : e.key with
      | str y t => exact ⟨y, t, rfl⟩
      | _ => rw [hk] at this; cases this
    · unfold nsFind findBy
      rw [← Array.find?_toList]
      rw [List.find?_eq_none.mpr fun e he hs => ?_]
      · rfl
      · have : (es.toList.any fun e => e.key.isStr "sys.int_max_str_digits") = true := List.any_eq_true.mpr ⟨e, he, hs⟩
        rw [this] at h2
        cases h2
  · cases hd
section
variable {prog : Program} {w : World} {A : Around} {E : Value → Shared → Prop} {s : Shared} {a : Int} {t : Tok}
theorem overDigit_no {Q : Option Nat → Shared → Prop} (hn : s.heap.NoDigits) (ha : a.natAbs < 10 ^ 4300) (h : Q none s) {M : Model} : wpAny M A (Builtin.overDigitLimit? a) Q E s :=
  overDigitLimit_any hn (fun _ => h) fun hge => absurd ha (Nat.not_lt.mpr hge)
theorem call_int_repr_b {Q : Value → Shared → Prop} (hn : s.heap.NoDigits) (ha : a.natAbs < 10 ^ 4300) (h1 : Q (.str (toString a) s.toks) { s with toks := s.toks + 1 }) :
    wpAny (model prog w) A (call (.builtin "int.__repr__") [.int a t]) Q E s := by
  refine wpAny_call_entry F.slot_int_repr (typeIs_int s a t) F.entry_int_repr ?_ (F.args_int_repr_1 _)
  unfold Builtin.«int.__repr__»
  show wpAny _ _ (do let r ← Builtin.overDigitLimit? a; _) _ _ s
  refine wpAny_bind (overDigit_no hn ha ?_)
  exact wpAny_bind (wpAny_mkStr (wpAny_pure ⟨_, rfl, h1⟩) (int_text_fits10 ha))
theorem strOf_int_b {Q : Value → Shared → Prop} (hn : s.heap.NoDigits) (ha : a.natAbs < 10 ^ 4300) (h1 : Q (.str (toString a) s.toks) { s with toks := s.toks + 1 }) :
    wpAny (model prog w) A (PySem.Builtin.Str.strOf (.int a t)) Q E s := by
  unfold PySem.Builtin.Str.strOf
  rw [show isExactStr (.int a t) = false from rfl]
  try (have hv : [Value.int a t].any Value.onHeap = false := rfl; simp only [cRoomFor, hv, Bool.false_eq_true, if_false, pure_bind])
  refine wpAny_bind (m := callSpecial? (.int a t) (Str.ofString "__str__")) (wpAny_callSpecial?_slot (name := Str.ofString "__str__") (typeIs_int s a t) F.slot_int_str ?_)
  refine wpAny_call_entry F.slot_int_str (typeIs_int s a t) entry_object_str ?_ (args_object_str _)
  unfold Builtin.«object.__str__»
  refine wpAny_bind (m := slotArgs "__str__" 0 _) (wpAny_pure ?_)
  try (have hv : [Value.int a t].any Value.onHeap = false := rfl; simp only [cRoomFor, hv, Bool.false_eq_true, if_false, pure_bind])
  refine wpAny_bind (m := callSpecialIfBound? (.int a t) (Str.ofString "__repr__")) (wpAny_callSpecialIfBound?_slot (name := Str.ofString "__repr__") (typeIs_int s a t) F.slot_int_repr
    (call_int_repr_b hn ha ?_))
  exact wpAny_pure ⟨_, rfl, wpAny_pure h1⟩
theorem str_of_int_b {Q : Value → Shared → Prop} (hn : s.heap.NoDigits) (ha : a.natAbs < 10 ^ 4300) (h1 : Q (.str (toString a) s.toks) { s with toks := s.toks + 1 }) :
    wpAny (model prog w) A (call (.type "str") [.int a t]) Q E s :=
  callType_new F.called_str (by decide) (F.typeCall_str_1 _) (F.newCall_str_1 _) (fun obj => F.args_object_init_2 obj _) F.entry_str_new
    (meets_str_new (S := fun _ R s => s.heap.NoDigits ∧ R (.ok (.ret (.str (toString a) s.toks))) { s with toks := s.toks + 1 })
      fun _ _ _ _ _ hq => strOf_int_b hq.1 ha hq.2)
    ⟨hn, typeIs_str _ _ _, h1⟩
theorem code_int_repr_b {R : Result → Shared → Prop} (hn : s.heap.NoDigits) (ha : a.natAbs < 10 ^ 4300) (h1 : R (.ok (.ret (.str (toString a) s.toks))) { s with toks := s.toks + 1 }) :
    codeAny (model prog w) A (.builtin "int.__repr__" ⟨[.int a t], []⟩) R s := by
  refine codeAny_builtin entry_int_repr ?_
  rw [Around.under_plainId plain_int_repr _]
  unfold Builtin.«int.__repr__»
  show wpAny _ _ (do let r ← Builtin.overDigitLimit? a; _) _ _ s
  refine wpAny_bind (overDigit_no hn ha ?_)
  exact wpAny_bind (wpAny_mkStr (wpAny_pure h1) (int_text_fits10 ha))
theorem formatField_int_b {Q : Value → Shared → Prop} (hn : s.heap.NoDigits) (ha : a.natAbs < 10 ^ 4300) (h1 : Q (.str (toString a) (s.toks + 1)) { s with toks := s.toks + 1 + 1 }) :
    wpAny (model prog w) A (formatField (.int a t) Str.empty) Q E s := by
  show wpAny _ _ (holding [.int a t] (pyFormat (.int a t) Str.empty)) Q E s
  refine wpAny_holding ?_
  unfold pyFormat
  refine wpAny_bind (wpAny_mkStr ?_ (by decide))
  refine wpAny_bind (m := callSpecial? (.int a t) (Str.ofString "__format__") [.str Str.empty s.toks]) (wpAny_callSpecial?_slot (name := Str.ofString "__format__") (typeIs_int _ a t) slot_int_format ?_)
  refine wpAny_call (codeAny_call_builtin slot_int_format.plain entry_int_format (slot_int_format.check _ _ _ _ _ _ _ _ (typeIs_int _ a t) (args_int_format _ _) ?_))
  show wpAny _ _ (do let _kind ← typeNameOf (.str Str.empty s.toks); (do rule "int.format.empty"; again (.builtin "int.__repr__" ⟨[.int a t], []⟩))) _ _ _
  refine wpAny_bind (wpAny_typeNameOf (T := "str") (typeIs_str _ _ _) (by decide) fun _ => wpAny_bind (wpAny_rule (wpAny_pure ⟨plainId_quiet plain_int_repr _, code_int_repr_b hn ha ?_⟩)))
  show wpAny _ _ (do if ← isInstance (.str (toString a) (s.toks + 1)) (.type "str") then return (.str (toString a) (s.toks + 1)) else _) Q E _
  exact wpAny_bind (wpAny_isInstance (typeIs_str _ _ _) isSubtype_str_str (wpAny_pure h1))
end
theorem pow14 : 2 ^ 14000 ≤ 10 ^ 4300 := by decide +kernel
theorem lim_of {i : Int} (h : i.natAbs.log2 < 14000) : i.natAbs < 10 ^ 4300 := by
  have h1 := lt_of_log2 h
  have h2 := pow14
  generalize 10 ^ 4300 = P at *
  omega
section
variable {X : Cx}
theorem call_strB (hd : fDg X.K = true) : CallR X (.type "str") (fun xs H Q => ∃ i, xs = [.int i] ∧ i.natAbs.log2 < 14000 ∧ Q (.str (toString i)) H) := by
  intro pins s σ H xs us Q I r h
  obtain ⟨i, rfl, hz, q⟩ := h
  obtain ⟨u, rfl, t, rfl⟩ := vals1 r
  exact str_of_int_b (noDigits hd I.kIn) (lim_of hz) ⟨.str _, H, I.tok _, ⟨_, rfl⟩, q⟩
def tFmtB (te : TE) : TE := fun σ H Q => te σ H fun x H1 => (∃ y : Str, x = .str y ∧ y.length ≤ sizeLine ∧ Q (.str y) H1) ∨ ∃ i : Int, x = .int i ∧ i.natAbs.log2 < 14000 ∧ Q (.str (toString i)) H1
theorem pe_fmtB {e : Expr} {te : TE} {pos : Pos} (hd : fDg X.K = true) (he : PE X e te) : PE X (.FormattedValue e (-1) none pos) (tFmtB te) := by
  refine ⟨fun pins s σ H Q I h => ?_⟩
  refine wpAny_FormattedValue_plain (thn (he.run pins s σ H _ I h) fun v s1 hv => ?_)
  obtain ⟨x, H1, I1, r1, q⟩ := hv
  rcases q with ⟨y, rfl, hz, q⟩ | ⟨i, rfl, hz, q⟩
  · obtain ⟨t, rfl⟩ := r1
    exact wpAny_formatField_str ⟨.str y, H1, I1, ⟨t, rfl⟩, q⟩ ⟨.str y, H1, I1.tok _, ⟨_, rfl⟩, q⟩ hz
  · obtain ⟨t, rfl⟩ := r1
    exact formatField_int_b (noDigits hd I1.kIn) (lim_of hz) ⟨.str (toString i), H1, I1.tok _, ⟨_, rfl⟩, q⟩
end
def strB : FA := int1 fun i => if i.natAbs.log2 < 14000 then some (.str (intStr i)) else none
section
variable {K : PySem.W.Frag}
theorem vr_strB : VRA K (fun xs H Q => ∃ i, xs = [.int i] ∧ i.natAbs.log2 < 14000 ∧ Q (.str (toString i)) H) strB := vr_int1 (r := fun i H Q => i.natAbs.log2 < 14000 ∧ Q (.str (toString i)) H) fun _ _ _ _ i w Q sr e k => by
  split at e
  · rename_i h
    cases e
    exact ⟨h, k _ _ _ _ Go.refl sr rfl⟩
  · cases e
end
def mFmtB (e : E) : E := fun us M => (e us M).bind fun x => match x.1 with
  | .p (.str y) => if y.length ≤ 1000000 then some (.p (.str y), x.2) else none
  | .p (.int i) => if i.natAbs.log2 < 14000 then some (.p (.str (intStr i)), x.2) else none
  | _ => none
section
variable {X : Cx} {K : PySem.W.Frag} {pos : Pos} {e : Expr} {m : E}
theorem ew_fmtB (hd : fDg X.K = true) (h : EW X K e m) : EW X K (.FormattedValue e (-1) none pos) (mFmtB m) := by
  refine (pe_fmtB hd h).weak fun σ H Q ⟨F, ρ, us, M, u, M', sr, sv, hm, k⟩ => ?_
  obtain ⟨⟨x, M1⟩, e1, e2⟩ := bind2 hm
  refine ⟨F, ρ, us, M, x, M1, sr, sv, e1, fun F1 ρ1 H1 v g1 sr1 r1 => ?_⟩
  dsimp only at e2
  split at e2
  · split at e2
    · rename_i y hl
      cases e2; cases r1
      exact .inl ⟨_, rfl, sz_ok hl, k _ _ _ _ g1 sr1 rfl⟩
    · cases e2
  · split at e2
    · rename_i y hl
      cases e2; cases r1
      exact .inr ⟨_, rfl, hl, k _ _ _ _ g1 sr1 rfl⟩
    · cases e2
  · cases e2
end
section
variable {X : Cx} {K : PySem.W.Frag} {st : Stmt} {sts : List Stmt} {m : S}
theorem ssw_nox (h : SsW X.nox K sts m) : SsW X K sts m := L2.PSs.nox h
theorem ps_nox {st : Stmt} {t : TS} (h : PS X.nox st t) : PS X st t := ⟨fun pins s σ H D I hw =>
  wpAny_mono (h.run pins s σ H D (I.wish _) hw) (fun _ _ q => q.unwish) fun _ _ z => False.elim z⟩
theorem sw_nox (h : SW X.nox K st m) : SW X K st m := ps_nox h
end
end Pz
/-! ### data are equal to themselves; what is caught; told tables -/
namespace Pz
open PySem PySem.Spec PyProof.Rows L2 He Rt
mutual
theorem eqvW : ∀ {w : W} {d : PyData}, datW w = some d → PyData.eqv d d = true
  | .non, _, h => by cases h; rfl
  | .bl b, _, h => by cases h; cases b <;> rfl
  | .int i, _, h => by cases h; unfold PyData.eqv; simp
  | .str x, _, h => by cases h; unfold PyData.eqv; simp
  | .tup ws, _, h => by
    unfold datW at h
    obtain ⟨ds, e, rfl⟩ := Option.map_eq_some_iff.mp h
    exact eqvL e
  | .lst ws, _, h => by
    unfold datW at h
    obtain ⟨ds, e, rfl⟩ := Option.map_eq_some_iff.mp h
    exact eqvL e
  | .frz ws, _, h => by unfold datW at h; cases h
  | .kt ws, _, h => by unfold datW at h; cases h
  | .ins _ _, _, h => by unfold datW at h; cases h
  | .dic _, _, h => by unfold datW at h; cases h
  | .cls _, _, h => by unfold datW at h; cases h
  | .ty _, _, h => by unfold datW at h; cases h
  | .exc _ _, _, h => by unfold datW at h; cases h
  | .tself, _, h => by unfold datW at h; cases h
theorem eqvL : ∀ {ws : List W} {ds : List PyData}, datL ws = some ds → PyData.eqvAll ds ds = true
  | [], _, h => by cases h; rfl
  | w :: ws, _, h => by
    unfold datL at h
    obtain ⟨d, e1, h⟩ := bind2 h
    obtain ⟨ds, e2, rfl⟩ := Option.map_eq_some_iff.mp h
    unfold PyData.eqvAll
    rw [eqvW e1, eqvL e2]
    rfl
end
theorem eqA_same {M : Mm} {a b : U} {d : PyData} (ha : datU M a = some d) (hb : datU M b = some d) (hd : PyData.eqv d d = true) (hs : SeqAt.shaped d = true) : eqA M a b = some true := by
  unfold eqA
  split
  · rename_i i j
    cases ha
    cases hb
    rw [decide_eq_true rfl]
  · rename_i i j
    cases ha
    cases hb
    rw [decide_eq_true rfl]
  · rename_i i j
    cases ha
    cases hb
    rw [decide_eq_true rfl]
  · rw [ha, hb]
    simp only [Option.bind_some, hs, Bool.and_self, if_true, hd]
theorem eq_same {M : Mm} {w : W} {d : PyData} (h : datW w = some d) (hs : SeqAt.shaped d = true) : eqU (.p w) (.p w) M = some (.p (.bl true), M) := by
  unfold eqU
  rw [eqA_same (M := M) (a := .p w) (b := .p w) (d := d) h h (eqvW h) hs]
  rfl
theorem ne_same {M : Mm} {w : W} {d : PyData} (h : datW w = some d) (hs : SeqAt.shaped d = true) : neU (.p w) (.p w) M = some (.p (.bl false), M) := by
  unfold neU
  rw [eqA_same (M := M) (a := .p w) (b := .p w) (d := d) h h (eqvW h) hs]
  rfl
theorem eq_cell {M : Mm} {j : Nat} {ws : List W} {ds : List PyData} (hj : M[j]? = some (.lst ws)) (h : datL ws = some ds) (hs : SeqAt.shaped (.list ds) = true) : eqU (.m j) (.p (.lst ws)) M = some (.p (.bl true), M) := by
  unfold eqU
  have e1 : datU M (.m j) = some (.list ds) := by
    unfold datU
    dsimp only
    rw [hj]
    dsimp only
    rw [h]
    rfl
  have e2 : datW (.lst ws) = some (.list ds) := by
    unfold datW
    rw [h]
    rfl
  rw [eqA_same (b := .p (.lst ws)) e1 e2 (eqvW e2) hs]
  rfl
/-- texts alone -/
theorem dat_strs : ∀ xs : List Str, datL (xs.map .str) = some (xs.map .str)
  | [] => rfl
  | x :: xs => by
    rw [List.map_cons]
    unfold datL
    rw [dat_strs xs]
    rfl
theorem caught_at {p : Defn} {q : Str} {ti : Nat} {gm : Rz Mm (U × Mm) → Mm → Option (U × Mm)} {ml : Xe} {us : Sl} {M : Mm} (h : M[ti]? = some (C.tab p q)) : mCaught p q ti gm ml us M = gm (ml us M) M := by
  unfold mCaught
  rw [h]
  exact if_pos ⟨rfl, rfl⟩
/-- the tables stand where they stood -/
def TabsOk (ts : List (Defn × Str)) (M : Mm) : Prop := ∀ (i : Nat) (t : Defn × Str), ts[i]? = some t → M[i]? = some (C.tab t.1 t.2)
section
variable {ts : List (Defn × Str)} {M : Mm}
theorem TabsOk.nil : TabsOk [] M := fun i t h => by simp at h
theorem TabsOk.start : TabsOk ts (ts.map fun t => C.tab t.1 t.2) := fun i t h => by rw [List.getElem?_map, h]; rfl
theorem TabsOk.app (h : TabsOk ts M) {l : Mm} : TabsOk ts (M ++ l) := fun i t e => by
  have := h i t e
  rw [List.getElem?_append_left ((List.getElem?_eq_some_iff.mp this).1)]
  exact this
theorem TabsOk.set (h : TabsOk ts M) {j : Nat} {c d : C} (hj : M[j]? = some c) (hc : ∀ p q, c ≠ C.tab p q) : TabsOk ts (M.set j d) := fun i t e => by
  have := h i t e
  by_cases hi : j = i
  · subst hi
    rw [this] at hj
    cases hj
    exact absurd rfl (hc _ _)
  · rw [List.getElem?_set_ne hi]
    exact this
end
end Pz
/-! ### a, b, c = x, y, z -/
namespace Pz
open PySem PySem.Spec PyProof.Rows L2 He Rt
def mPar3 (i j l : Nat) (m : As) : S := fun us M => (m us M).bind fun x => match x with
  | ([u, v, w], M1) => some (.nx, ((us.set i (some u)).set j (some v)).set l (some w), M1)
  | _ => none
section
variable {X : Cx} {K : PySem.W.Frag} {pos : Pos}
theorem sw_par3 {i j l : Nat} {x y z : Str} {a b c : Expr} {ma : As} {px py pz pt : Pos} {kt k2 pt2} (hc : X.calm = true) (hN : X.N.Nodup) (hi : X.N[i]? = some x) (hj : X.N[j]? = some y) (hl : X.N[l]? = some z) (hij : i ≠ j) (hil : i ≠ l) (hjl : j ≠ l)
    (hx : X.env.scope.names.lookup x = some .local) (hy : X.env.scope.names.lookup y = some .local) (hz : X.env.scope.names.lookup z = some .local) (ha : AW X K [a, b, c] ma)
    (hw : swappedStores [.Tuple [.Name x px, .Name y py, .Name z pz] kt pt] (.Tuple [a, b, c] k2 pt2) X.env = pure (some [x, y, z]))
    (hs : swapsWithSole [.Tuple [.Name x px, .Name y py, .Name z pz] kt pt] (.Tuple [a, b, c] k2 pt2) pos.line X.env = pure false := by rfl) :
    SW X K (.Assign [.Tuple [.Name x px, .Name y py, .Name z pz] kt pt] (.Tuple [a, b, c] k2 pt2) pos) (mPar3 i j l ma) :=
  (ps_par3 hc hN hi hj hl hij hil hjl hx hy hz ha hw hs).weak fun D σ H ⟨F, ρ, us, M, fl, us', M', sr, sv, hm, k⟩ => by
    obtain ⟨⟨xs, M1⟩, e1, hm⟩ := bind2 hm
    split at hm
    · rename_i h
      cases h
      cases hm
      refine ⟨F, ρ, us, M, _, _, sr, sv, e1, fun F1 ρ1 H1 vs g1 sr1 r1 => ?_⟩
      obtain ⟨v1, r, rfl, q1, v2, r2, rfl, q2, v3, r3, rfl, q3, rfl⟩ := r1
      exact ⟨v1, v2, v3, rfl, k F1 ρ1 H1 _ g1 sr1 ((((sv.mono g1.sf g1.pre).set i q1).set j q2).set l q3)⟩
    · cases hm
end
end Pz
/-! ### defs called in any state at all: an exception handled or not, guards or none -/
namespace Pz
open PySem PySem.Spec PyProof.Rows L2 He Rt
structure RoomB (k : Nat) (A : Around) : Prop where
  dp : A.depth + 3 * k + 5 < recursionLimit
  un : A.units + 16 * k + 200 < cLine
section
variable {A : Around}
theorem RoomB.mono {j k : Nat} (r : RoomB k A) (h : j ≤ k) : RoomB j A := ⟨by have := r.dp; omega, by have := r.un; omega⟩
theorem RoomB.deeper {k : Nat} (r : RoomB (k + 1) A) (env : Env) : RoomB k (A.deeper env) :=
  ⟨by have := r.dp; show A.depth + 1 + 3 * k + 5 < _; omega, by have := r.un; show A.units + 3 + 16 * k + 200 < _; omega⟩
theorem RoomB.in1 {k : Nat} (r : RoomB (k + 1) A) : RoomB k A.in1 := ⟨by have := r.dp; show A.depth + 3 * k + 5 < _; omega, by have := r.un; show A.units + 1 + 16 * k + 200 < _; omega⟩
theorem RoomB.of {k : Nat} (r : Room k A) : RoomB k A := ⟨r.dp, r.un⟩
theorem RoomB.ofA {k : Nat} (r : RoomA k A) : RoomB k A := ⟨r.dp, r.un⟩
theorem RoomB.u64 {k : Nat} (r : RoomB k A) : A.units + 64 < cLine := by have := r.un; omega
end
structure FnB (P : Program) (w : World) (K : PySem.W.Frag) (mg : Str → Option Value) (base : Heap) (k : Nat) (f : Addr) (fd : FuncData) (ps : List Str) (sp : Sp) : Prop where
  len : ∀ vs H Q E, sp vs H Q E → vs.length = ps.length
  run : ∀ (A : Around) (outer : List Env) (s : Shared) (H : Hp) (args : Args) (us : List Value) (vs : List V) (Q : VK) (E : XK), RoomB k A → Env0 P w K mg base A outer s H → BindsTo s fd args (ps.zip us) → Vals vs us → sp vs H Q E →
    codeAny (model P w) A (.call (.ref f) args) (CR (L2.CX P w) outer P w H s Q E) s
section
variable {P : Program} {w : World} {K : PySem.W.Frag} {mg : Str → Option Value} {base : Heap}
theorem fn_ofB {k : Nat} {f : Addr} {name qual : Str} {params : Arguments} {body : List Stmt} {scope : Scope} {dV kV doc pm cdv ct oc : Value} {an od : Option Addr}
    {osl : Array (Option Value)} {N ps : List Str} {sp : Sp} (lk : K.lookup f = some ⟨oc, od, .func (PySem.W.fnOf name qual params body scope dV kV doc pm an cdv ct), osl⟩) (hcd : PySem.W.codeIn K cdv qual = true) (S : FnScope N ps scope)
    (len : ∀ vs H Q E, sp vs H Q E → vs.length = ps.length)
    (hbody : ∀ (A : Around) (outer : List Env) (s : Shared) (H : Hp) (vs : List V) (Q : VK) (E : XK), RoomB k (A.deeper (envOfC qual scope s.heap.objs.size f cdv)) → sp vs H Q E →
      ∃ t, PSs (cxA P w K mg base N qual scope f cdv A outer s H E).nox body t ∧ t { nx := fun _ H' => Q .non H', rt := Q } (L2.start N vs) H) :
    FnB P w K mg base (k + 1) f (PySem.W.fnOf name qual params body scope dV kV doc pm an cdv ct) ps sp := by
  refine ⟨len, fun A outer s H args us vs Q E hr e0 hb r hsp => ?_⟩
  have hl := len _ _ _ _ hsp
  have KX : K.In s.heap := e0.mod.kin.keeps fun b o e => (e0.bs b o e).1
  have lim : s.heap.NoLimit := e0.mod.nolimit.keeps fun b o e => (e0.bs b o e).1
  have hkind : ∀ y ∈ ps.zip us, scope.names.lookup y.1 = some .local ∨ (scope.names.lookup y.1 = some .cell ∧ ((cellsFrom (s.heap.objs.size + 1) scope.names []).lookup y.1).isSome = true) := fun ⟨n, v⟩ hy => by
    rcases S.par n (List.of_mem_zip hy).1 with q | q
    · exact .inl q
    · exact .inr ⟨q, PySem.W.cellsFrom_some _ _ _ (.inl q)⟩
  refine codeAny_call_function (by have := hr.dp; omega) (KX _ _ lk) rfl S.co S.gen rfl (PySem.W.codeRec_of KX hcd) (hb _ _ _ _ ?_)
  refine wpAny_newFunctionEnv_cells S.kind hkind fun env he s1 x => ?_
  subst he
  refine ⟨lim.keeps x.toInCall.keep, codeAny_func ?_⟩
  obtain ⟨t, ht, hq⟩ := hbody A outer s H vs Q E (hr.deeper _) hsp
  have I : Inv (cxA P w K mg base N qual scope f cdv A outer s H E) [] (L2.start N vs) H s1 := inv_startA S e0 hl r x
  refine wpAny_mono (ht.nox.run [] s1 (L2.start N vs) H _ I hq) (fun fl s' hs => ?_) fun e s' hs => hs
  have fin : ∀ {σ' : L2.St} {H' : Hp} {v : V} {u : Value}, Inv (cxA P w K mg base N qual scope f cdv A outer s H E) [] σ' H' s' → RelV v u → Q v H' → CE outer P w H s Q u s' :=
    fun {σ' H' v u} J rv q => ⟨v, H', J.os, J.bare, J.base, J.hok, rv, q⟩
  cases fl with
  | ret u =>
    obtain ⟨v, σ', H', J, rv, q⟩ := hs
    exact fin J rv q
  | next =>
    obtain ⟨σ', H', J, q⟩ := hs
    exact fin (v := V.non) (u := Value.none) J rfl q
  | brk =>
    obtain ⟨_, _, _, q⟩ := hs
    exact False.elim q
  | cont =>
    obtain ⟨_, _, _, q⟩ := hs
    exact False.elim q
theorem okB {x qual : Str} {st : Stmt} {dvs : List V} {f : Addr} {fd : FuncData} {N ps : List Str} {k nl : Nat} {fin : Nat → U → Mm → Option (U × Mm)} {b : S} (F : FnD K x qual st dvs f fd) (S : FnScope N ps (defScope st)) (hf : FinOk K fin) (hN : N.length = ps.length + nl)
    (hbody : ∀ (cdv : Value) (A : Around) (outer : List Env) (s : Shared) (H : Hp) (E : XK), RoomB k (A.deeper (envOfC qual (defScope st) s.heap.objs.size f cdv)) →
      SsW (cxA P w K mg base N qual (defScope st) f cdv A outer s H E).nox K (defBody st) b) : FnB P w K mg base (k + 1) f fd ps (spW K (mDef ps.length nl fin b)) := by
  obtain ⟨oc, od, dV, kV, doc, pm, an, cdv, ct, osl, rfl, lk, hcd, _, _⟩ := F.ex
  exact fn_ofB lk hcd S (fun vs H Q E h => spW_len h) fun A outer s H vs Q E hr h => ⟨_, hbody cdv A outer s H E hr, body_ok hf hN h⟩
end
/-- a special method, in any state -/
structure SmB (P : Program) (w : World) (K : PySem.W.Frag) (mg : Str → Option Value) (base : Heap) (k : Nat) (C : Addr) (m : Str) (sp : Sp) : Prop where
  ex : ∃ f fd ps, FnB P w K mg base k f fd ps sp ∧ PySem.W.findIn K (.ref C) m = some (some (.ref f)) ∧ PySem.W.isFn K (.ref f) = true ∧ PySem.W.keepIn K (.ref f) = true ∧ Binds K fd ps []
/-- a property, in any state -/
structure PrpB (P : Program) (w : World) (K : PySem.W.Frag) (mg : Str → Option Value) (base : Heap) (k : Nat) (C : Addr) (f : Str) (sp : Sp) : Prop where
  ex : Cls K C ∧ ∃ p g fd ps, PropOf K C f p g ∧ FnB P w K mg base k g fd ps sp ∧ Binds K fd ps []
section
variable {X : Cx} {pins : List (Addr × Obj)} {σ : L2.St} {H : Hp} {s : Shared}
theorem run_atB {A : Around} {k : Nat} {f : Addr} {fd : FuncData} {ps : List Str} {sp : Sp} {E : XK} {Q : VK} {us : List Value} {vs : List V} (hr : RoomB k A) (fr : A.frames = X.A.frames) (F : FnB X.prog X.w X.K X.mg X.base k f fd ps sp) (hb : Binds X.K fd ps []) (hx : Passes (L2.CX X.prog X.w) X E)
    (I : Inv X pins σ H s) (r : Vals vs us) (h : sp vs H Q E) : wpAny (model X.prog X.w) A (call (.ref f) us) (EP X pins σ Q) X.xe s := by
  have hl : us.length = ps.length := by rw [← r.length]; exact F.len _ _ _ _ h
  have e0 : Env0 X.prog X.w X.K X.mg X.base A X.stack s H := by
    have e := I.env0
    exact ⟨by rw [fr]; exact e.frames, e.mod, e.bs, e.bsz, e.funs, e.frf, e.hok, e.bare⟩
  refine wpAny_call (codeAny_mono (F.run A X.stack s H ⟨us, []⟩ us vs Q E hr e0 (by have := hb s us I.kIn (by simpa using hl); simpa using this) r h) fun r s' hq => ?_)
  cases r with
  | error e => exact hx pins σ H s e s' I hq
  | ok fl =>
    cases fl with
    | ret u => exact I.after hq
    | next => exact False.elim hq
    | brk => exact False.elim hq
    | cont => exact False.elim hq
theorem getprop_okB {k : Nat} {C p g a dx : Addr} {fs : List (Str × V)} {f : Str} {fd : FuncData} {ps : List Str} {sp : Sp} {Q : VK} {b : Bool} {E' : Value → Shared → Prop} (I : Inv X pins σ H s) (ea : H a = some (.ins C dx fs)) (c : Cls X.K C) (hp : PropOf X.K C f p g)
    (F : FnB X.prog X.w X.K X.mg X.base k g fd ps sp) (hr : RoomB (k + 1) X.A) (hb : Binds X.K fd ps []) (h : sp [.ref a] H Q E0) :
    wpAny (model X.prog X.w) X.A (getAttr (.ref a) f b) (EP X pins σ Q) E' s := by
  obtain ⟨mA, O, _, _, _, _⟩ := ins_get I.hok ea
  obtain ⟨od, J, _⟩ := O.look
  obtain ⟨rest, hrec⟩ := hp.rec_
  have I1 := I.tok (s.toks + 1)
  have hl : ([Value.ref a] ++ []).length = ps.length := by
    rw [← F.len _ _ _ _ h]
    rfl
  have hc : (PySem.W.clsIn X.K C).isSome = true := by
    obtain ⟨cd, hc, _⟩ := PySem.W.any_some c.hd
    rw [hc]
    rfl
  refine PySem.W.get_bind I.kIn J (PySem.W.plainGet_of (c.get f)).1 (PySem.W.findObj_data hc hp.at_ hp.get hp.tak) (PySem.W.plainGet_of (c.get f)).2 (wpAny_call (PySem.W.prop_get (s := { s with toks := s.toks + 1 }) I.kIn hrec ?_))
  refine codeAny_mono (F.run X.A.in1 X.stack { s with toks := s.toks + 1 } H ⟨[.ref a], []⟩ [.ref a] [.ref a] Q E0 hr.in1 I1.env0.in1 (hb _ [.ref a] I1.kIn hl) (.cons rfl .nil) h) fun r s' hq => ?_
  cases r with
  | error er => exact False.elim (passL (X := X.nox) pins σ H { s with toks := s.toks + 1 } er s' (I1.wish _) hq)
  | ok fl =>
    cases fl with
    | ret u =>
      obtain ⟨v, H', I3, rv, q3⟩ := I1.after hq
      show wpAny _ _ (handedOut u) _ _ _
      rw [PySem.W.handedOut_of (handed_of rv)]
      exact wpAny_pure ⟨v, H', I3, rv, q3⟩
    | next => exact False.elim hq
    | brk => exact False.elim hq
    | cont => exact False.elim hq
end
section
variable {X : Cx} {K : PySem.W.Frag} {k j : Nat} {c f : Str} {g : FA} {pos : Pos} {e : Expr} {mo : E}
theorem ew_prpB (cm : PrpB X.prog X.w X.K X.mg X.base k (ga K c) f (spW K g)) (hr : RoomB j X.A) (he : EW X K e mo) (hab : attributeBase e f X.env (eval e X.env) = eval e X.env := by rfl) (hk : k + 1 ≤ j := by decide) : EW X K (.Attribute e f pos) (mUn (prU c g) mo) := by
  obtain ⟨cl, p, g', fd, ps, hp, F, b⟩ := cm.ex
  refine ⟨fun pins s σ H Q I ⟨F0, ρ, us, M, u, M', sr, sv, hm, kk⟩ => ?_⟩
  obtain ⟨⟨x, M1⟩, e1, hm⟩ := bind2 hm
  refine attr_of hab (thn (he.run pins s σ H (fun x H1 => ∃ a dx fs, x = .ref a ∧ H1 a = some (.ins (ga K c) dx fs) ∧ spW K g [.ref a] H1 Q E0) I ⟨F0, ρ, us, M, x, M1, sr, sv, e1, fun F1 ρ1 H1 v g1 sr1 r1 => ?_⟩) fun u s1 ⟨x, H1, I1, rx, a, dx, fs, ex, ea, q⟩ => ?_)
  · unfold prU at hm
    dsimp only at hm
    split at hm
    · rename_i fs hf
      obtain ⟨a, dx, gs, rfl, e6, q⟩ := insF_ok sr1 hf r1
      exact ⟨a, dx, gs, rfl, e6, F1, ρ1, [x], M1, u, M', sr1, ⟨_, _, rfl, r1, rfl⟩, hm, fun F' ρ' H' v' g3 => kk F' ρ' H' v' (g1.trans g3)⟩
    · cases hm
  · subst ex
    obtain rfl : u = Value.ref a := rx
    exact getprop_okB I1 ea cl hp F (hr.mono hk) b q
end
end Pz
/-! ### repr of tuples that hold own instances -/
namespace Pz
open PySem PySem.Spec PyProof.Rows L2 He Rt
/-- how a small thing is shown -/
def leafT : V → Option Str
  | .non => some "None"
  | .bl b => some (if b then "True" else "False")
  | .int i => if i.natAbs.log2 < 1920 then some (intStr i) else none
  | .str x => if (reprText x).length ≤ 1000 then some (reprText x) else none
  | _ => none
def datF : V → Option PyData
  | .non => some .none
  | .bl b => some (.bool b)
  | .int i => some (.int i)
  | .str x => some (.str x)
  | _ => none
def datK : Key → PyData
  | .inl i => .int i
  | .inr x => .str x
def datKs : List (Key × V) → Option (List (PyData × PyData))
  | [] => some []
  | (k, v) :: r => (datF v).bind fun d => (datKs r).map fun ds => (datK k, d) :: ds
/-- data without dicts, or a dict of small things -/
def DatY (H : Hp) (y : V) (d : PyData) : Prop := (DatV H y d ∧ d.hasDict = false) ∨ ∃ b kvs kds, y = .ref b ∧ H b = some (.dK kvs) ∧ datKs kvs = some kds ∧ d = .dict kds
def parts (C : Addr) (sp : Sp) (a : Addr) (zs : List V) : List V → Hp → (List Str → Hp → Prop) → Prop
  | [], H, k => k [] H
  | y :: ys, H, k => (∃ t, leafT y = some t ∧ t.length ≤ 1000 ∧ parts C sp a zs ys H fun ts H' => k (t :: ts) H') ∨
    (∃ b dx fs, y = .ref b ∧ H b = some (.ins C dx fs) ∧ sp [y] H (fun v H1 => ∃ t, v = .str t ∧ t.length ≤ 1000 ∧ parts C sp a zs ys H1 fun ts H' => k (t :: ts) H') E0) ∨
    (∃ d, DatY H y d ∧ (d.showable = true ∧ d.depth ≤ 20 ∧ d.shown.length ≤ 1000) ∧ (H a = some (.tup zs) ∧ y ∈ zs) ∧ parts C sp a zs ys H fun ts H' => k (d.shown :: ts) H')
theorem datF_reads {h : Heap} {y : V} {v : Value} {d : PyData} (e : datF y = some d) (r : RelV y v) : Reads h v d [] := by
  cases y with
  | non => cases (show v = Value.none from r); cases e; exact .none
  | bl b => cases (show v = Value.bool b from r); cases e; exact .bool b
  | int i => obtain ⟨t, rfl⟩ := (show ∃ t, v = Value.int i t from r); cases e; exact .int i t
  | str x => obtain ⟨t, rfl⟩ := (show ∃ t, v = Value.str x t from r); cases e; exact .str x t
  | _ => cases e
theorem dict_reads {P : Program} {w : World} {h : Heap} : ∀ {kvs : List (Key × V)} {vs : List (Key × Value)} {es : List DictEntry} {kds : List (PyData × PyData)}, KV kvs vs → Pairs (mixKind P w) es vs → datKs kvs = some kds →
    ReadsAll h (es.map (·.key)) (kds.map (·.1)) [] ∧ ReadsAll h (es.map (·.val)) (kds.map (·.2)) []
  | [], _, _, _, r, p, e => by
    cases r
    cases p
    cases e
    exact ⟨.nil, .nil⟩
  | (k, y) :: kvs, _, _, _, r, p, e => by
    cases r with
    | @cons _ q _ qs r0 r1 =>
      cases p with
      | @cons en _ es _ h1 h2 h3 =>
        obtain ⟨d, e1, e⟩ := bind2 (show (datF y).bind (fun d => (datKs kvs).map fun ds => (datK k, d) :: ds) = _ from e)
        obtain ⟨ds, e2, rfl⟩ := Option.map_eq_some_iff.mp e
        obtain ⟨i1, i2⟩ := dict_reads r1 h3 e2
        obtain ⟨k2, u⟩ := q
        obtain ⟨rfl, ru⟩ := (show k = k2 ∧ RelV y u from r0)
        dsimp only at h2
        subst h2
        refine ⟨?_, .cons (as := []) (datF_reads e1 ru) i2⟩
        have hk : Reads h en.key (datK k) [] := by
          rcases keyIs_shape (show keyIs k en.key = true from h1) with ⟨i, t, rfl, e9⟩ | ⟨x, t, rfl, e9⟩
          · rw [e9]; exact .int i t
          · rw [e9]; exact .str x t
        exact .cons (as := []) hk i1
theorem reads_Y {X : Cx} {pins : List (Addr × Obj)} {σ : L2.St} {H : Hp} {s : Shared} (I : Inv X pins σ H s) {y : V} {v : Value} {d : PyData} (h : DatY H y d) (r : RelV y v) : ∃ as, Reads s.heap v d as ∧ (d.hasDict = true → sysModules ∉ as) := by
  rcases h with ⟨h, hn⟩ | ⟨b, kvs, kds, rfl, eb, ek, rfl⟩
  · obtain ⟨as, q⟩ := reads_of I h r
    exact ⟨as, q, fun z => by rw [hn] at z; cases z⟩
  · obtain rfl : v = Value.ref b := r
    obtain ⟨_, hs, vs, r0, o, es, ep, ho, hx, hd, _, hp, _⟩ := (show ObjOk X.prog X.w H s.heap b (.dK kvs) from I.hok b _ eb)
    obtain ⟨i1, i2⟩ := dict_reads r0 hp ek
    refine ⟨_, .dict ho hx.1 hd (by simpa using i1) (by simpa using i2), fun _ hm => ?_⟩
    have : sysModules = b := by simpa using hm
    rw [this] at hs
    simp at hs
theorem mem_depth : ∀ {ds : List PyData} {d : PyData}, d ∈ ds → d.depth ≤ PyData.depthAll ds
  | x :: ds, d, h => by
    rcases List.mem_cons.mp h with rfl | h
    · exact Nat.le_max_left _ _
    · exact Nat.le_trans (mem_depth h) (Nat.le_max_right _ _)
theorem reads_mem {h : Heap} : ∀ {vs : List Value} {ds : List PyData} {as : List Addr} {v : Value}, ReadsAll h vs ds as → v ∈ vs → ∃ d as, d ∈ ds ∧ Reads h v d as
  | _, _, _, v, .cons (v := x) (vs := vs) (d := d) (ds := ds) h1 h2, hm => by
    rcases List.mem_cons.mp hm with rfl | hm
    · exact ⟨d, _, List.mem_cons_self .., h1⟩
    · obtain ⟨d2, as2, m2, r2⟩ := reads_mem h2 hm
      exact ⟨d2, as2, List.mem_cons_of_mem _ m2, r2⟩
theorem vals_mem : ∀ {ys : List V} {vs : List Value} {y : V}, Vals ys vs → y ∈ ys → ∃ u, u ∈ vs ∧ RelV y u
  | _, _, y, .cons (a := x) (b := u) h1 h2, hm => by
    rcases List.mem_cons.mp hm with rfl | hm
    · exact ⟨u, List.mem_cons_self .., h1⟩
    · obtain ⟨u2, m2, r2⟩ := vals_mem h2 hm
      exact ⟨u2, List.mem_cons_of_mem _ m2, r2⟩
/-- a pure thing within a tuple, shown -/
theorem part_data {X : Cx} {pins : List (Addr × Obj)} {σ : L2.St} {H : Hp} {s : Shared} {a : Addr} {zs : List V} {y : V} {v : Value} {d : PyData} (I : Inv X pins σ H s) (ea : H a = some (.tup zs)) (hy : y ∈ zs) (h : DatY H y d) (r : RelV y v) (hs : d.showable = true) (hl : d.shown.length ≤ 1000)
    {A : Around} {base : Nat} {E : Value → Shared → Prop} {Q : Str → Shared → Prop} {id : String} {rest : List Value} (hb : base + d.shown.length ≤ sizeLine) (hg : A.guards = some [.builtin id ⟨.ref a :: rest, []⟩]) (hu : A.units + d.depth < cLine)
    (k : ∀ h' tk, (∀ b o, s.heap.get? b = some o → h'.get? b = some o) → Q d.shown { s with heap := h', toks := tk }) : wpAny (model X.prog X.w) A (pyReprUnder base v) Q E s := by
  obtain ⟨as, rd, hsm⟩ := reads_Y I h r
  obtain ⟨bs, hbs, hk⟩ := ReprK.of_reads (prog := X.prog) (w := X.w) rd hs hsm (by have := sizeLine_eq; omega)
  obtain ⟨_, its, rv, ⟨o, ho, hc, n, hd⟩⟩ := (show ObjOk X.prog X.w H s.heap a (.tup zs) from I.hok a _ ea)
  refine hk base hb A _ E s Q hg (fun b hb' => (Clear.nil b).cons fun e => ?_) hu (fun _ _ e => e) k
  subst e
  obtain ⟨d', as', r', hd'⟩ := hbs a hb'
  obtain ⟨u, hu', ru⟩ := vals_mem rv hy
  cases r' with
  | list h1 h2 h3 h4 => rw [ho] at h1; cases h1; rw [hc] at h2; exact absurd h2 (by decide)
  | dict h1 h2 h3 h4 h5 => rw [ho] at h1; cases h1; rw [hc] at h2; exact absurd h2 (by decide)
  | @tuple _ o2 vs _ xs _ h1 h2 h3 h4 =>
    rw [ho] at h1
    cases h1
    rw [hd] at h3
    cases h3
    obtain ⟨d2, as2, m2, r2⟩ := reads_mem h4 hu'
    obtain ⟨as3, rd3, _⟩ := reads_Y I h ru
    obtain ⟨e, _⟩ := reads_det (fun _ _ e _ => e) rd3 r2
    subst e
    have := mem_depth m2
    simp only [PyData.depth] at hd'
    omega
theorem leaf_is {prog : Program} {w : World} {y : V} {v : Value} {t : Str} (h : leafT y = some t) (hl : t.length ≤ 1000) (r : RelV y v) : ReprIs prog w v t := by
  cases y with
  | non => cases (show v = Value.none from r); cases h; exact ReprIs.none
  | bl b => cases (show v = Value.bool b from r); cases h; exact ReprIs.bool b
  | int i =>
    obtain ⟨tk, rfl⟩ := (show ∃ t, v = Value.int i t from r)
    have h := (show (if i.natAbs.log2 < 1920 then some (intStr i) else none) = some t from h)
    split at h
    · rename_i hz
      cases h
      exact ReprIs.int tk hz
    · cases h
  | str x =>
    obtain ⟨tk, rfl⟩ := (show ∃ t, v = Value.str x t from r)
    have h := (show (if (reprText x).length ≤ 1000 then some (reprText x) else none) = some t from h)
    split at h
    · rename_i hz
      cases h
      exact ReprIs.str x tk (by rw [sizeLine_eq]; omega)
    · cases h
  | _ => cases h
theorem ifBoundBy_K {M : Model} {A : Around} {E : Value → Shared → Prop} {s : Shared} {K : PySem.W.Frag} {x C f : Addr} {ox : Obj} {od : Option Obj} {name : Str} {last : Value → List Value → Sem Value} {Q : Option Value → Shared → Prop} (X : K.In s.heap) (I : PySem.W.InstAt s.heap x ox C od) (hs : PySem.W.findIn K (.ref C) name = some (some (.ref f))) (hf : PySem.W.isFn K (.ref f) = true)
    (h : wpAny M A (last (.ref f) [.ref x]) (fun v => Q (some v)) E s) : wpAny M A (callSpecialIfBoundBy? last (.ref x) name) Q E s := by
  simp only [callSpecialIfBoundBy?, bindSpecialIfBound?]
  refine wpAny_holding (wpAny_bind (wpAny_bind (wpAny_bind (I.type.here ((PySem.W.looks_findIn X hs).here ?_)))))
  refine wpAny_bind (wpAny_askSetting (wpAny_ite ?_))
  have fin : wpAny M A (last (.ref f) [.ref x] >>= fun v => pure (some v)) Q E s := wpAny_bind (wpAny_mono h (fun v s' h' => wpAny_pure h') fun _ _ h' => h')
  split
  · exact wpAny_bind ((PySem.W.bind_fn X _ (beq_iff_eq.mp hf)).here (wpAny_pure (by exact fin)))
  · exact wpAny_tryCatch (wpAny_bind ((PySem.W.bind_fn X _ (beq_iff_eq.mp hf)).here (wpAny_pure (by exact fin))))
theorem reprUnder_K {prog : Program} {w : World} {A : Around} {E : Value → Shared → Prop} {s : Shared} {K : PySem.W.Frag} {x C f : Addr} {ox : Obj} {od : Option Obj} {b : Nat} {Q : Str → Shared → Prop} (hu : A.units < cLine) (hb : b ≤ sizeLine) (X : K.In s.heap) (I : PySem.W.InstAt s.heap x ox C od)
    (hs : PySem.W.findIn K (.ref C) "__repr__" = some (some (.ref f))) (hf : PySem.W.isFn K (.ref f) = true)
    (h : wpAny (model prog w) A (call (.ref f) [.ref x]) (fun v s' => ∃ t u, v = .str t u ∧ Q t s') E s) : wpAny (model prog w) A (pyReprUnder b (.ref x)) Q E s := by
  refine wpAny_pyReprUnder_ref hb ?_
  unfold pyReprObjUnder pyReprObjBy
  refine wpAny_bind (wpAny_cRoomFor hu ?_)
  refine wpAny_bind (wpAny_bind (I.type.here ((PySem.W.looks_findIn X hs).here ?_)))
  show wpAny _ _ (if (some (Value.ref f)).isNone = true then _ else _) _ _ _
  rw [if_neg (by simp)]
  refine wpAny_bind (m := callSpecialIfBoundBy? _ (.ref x) (Str.ofString "__repr__")) (ifBoundBy_K X I hs hf ?_)
  show wpAny _ _ (call (.ref f) ([.ref x] ++ [])) _ _ _
  refine wpAny_mono h (fun r s' hr => ?_) fun _ _ y => y
  obtain ⟨t, u, rfl, hq⟩ := hr
  refine wpAny_bind (wpAny_isInstance (typeIs_str _ _ _) isSubtype_str_str ?_)
  first
    | exact wpAny_pure ⟨_, _, rfl, hq⟩
    | (rw [if_pos rfl]; exact wpAny_pure ⟨_, _, rfl, hq⟩)
    | (simp only [if_true]; exact wpAny_pure ⟨_, _, rfl, hq⟩)
theorem tupleText_le (ts : List Str) : (tupleText ts).length ≤ piled ts + 4 := by
  have e : ∀ a b : Str, (a ++ b).length = a.length + b.length := fun a b => by rw [TL.len_tl, TL.tl_append, List.length_append, ← TL.len_tl, ← TL.len_tl]
  have h1 : ("(" : Str).length = 1 := by decide +kernel
  have h2 : (",)" : Str).length = 2 := by decide +kernel
  have h3 : (")" : Str).length = 1 := by decide +kernel
  have h4 : (Str.join ", " ts).length ≤ piled ts + 1 := by
    by_cases h : ts = []
    · subst h
      decide +kernel
    · have := join_length_add ts h
      omega
  unfold tupleText
  rw [e, e, h1]
  split
  · rw [h2]; omega
  · rw [h3]; omega
section
variable {X : Cx} {pins : List (Addr × Obj)} {σ : L2.St} {k : Nat} {C : Addr} {sp : Sp}
theorem tup_fold (c : SmB X.prog X.w X.K X.mg X.base k C "__repr__" sp) {A : Around} (hr : RoomB k A) (fr : A.frames = X.A.frames) {a : Addr} {zs : List V} {id : String} {rest : List Value} (hg : A.guards = some [.builtin id ⟨.ref a :: rest, []⟩]) : ∀ (ys : List V) (l : List Value) (acc : Array Str) (n : Nat) (s : Shared) (H : Hp) (K' : List Str → Hp → Prop) (R : (Array Str × Nat) → Shared → Prop),
    Vals ys l → Inv X pins σ H s → parts C sp a zs ys H K' → n + 1002 * ys.length ≤ 1000000 →
    (∀ ts s' H', ts.length = ys.length → piled ts ≤ 1002 * ys.length → Inv X pins σ H' s' → K' ts H' → R ⟨acc ++ ts.toArray, n + piled ts⟩ s') → wpAny (model X.prog X.w) A (forIn l (⟨acc, n⟩ : Array Str × Nat) tupBody) R X.xe s
  | [], _, acc, n, s, H, K', R, r, I, hp, _, h => by
    cases r
    have h0 := h [] s H rfl (Nat.zero_le _) I hp
    simp only [List.forIn_nil]
    exact wpAny_pure (by simpa [piled] using h0)
  | y :: ys, _, acc, n, s, H, K', R, r, I, hp, hn, h => by
    cases r with
    | @cons _ v _ l r0 r1 =>
      have hn2 : n + 1002 + 1002 * ys.length ≤ 1000000 := by
        rw [List.length_cons] at hn
        omega
      have hz := sizeLine_eq
      have next : ∀ (t : Str) (s1 : Shared) (H1 : Hp), t.length ≤ 1000 → Inv X pins σ H1 s1 → parts C sp a zs ys H1 (fun ts H' => K' (t :: ts) H') → wpAny (model X.prog X.w) A (forIn l (⟨acc.push t, n + (t.length + 2)⟩ : Array Str × Nat) tupBody) R X.xe s1 := fun t s1 H1 ht I1 hp1 =>
        tup_fold c hr fr hg ys l (acc.push t) (n + (t.length + 2)) s1 H1 _ R r1 I1 hp1 (by omega) fun ts s' H' e1 e2 I' hk => by
          have h1 := h (t :: ts) s' H' (by simp [e1]) (by rw [piled_cons, List.length_cons]; omega) I' hk
          have e : n + piled (t :: ts) = n + (t.length + 2) + piled ts := by rw [piled_cons]; omega
          rw [e] at h1
          simpa using h1
      rw [List.forIn_cons]
      refine wpAny_bind ?_
      show wpAny _ _ (do let t ← pyReprUnder (n + 1) v; pure (ForInStep.yield (⟨acc.push t, n + (t.length + 2)⟩ : Array Str × Nat))) _ _ _
      refine wpAny_bind ?_
      rcases hp with ⟨t, ht, hl, hp1⟩ | ⟨b, dx, fs, rfl, eb, q⟩ | ⟨d, hdy, ⟨hs, hdp, hl⟩, ⟨ea, hy⟩, hp1⟩
      · exact leaf_is ht hl r0 (n + 1) (by omega) _ _ _ _ fun tk => wpAny_pure (next t _ H hl (I.tok tk) hp1)
      · obtain rfl : v = Value.ref b := r0
        obtain ⟨f, fd, ps, F, hs, hf, kp, bb⟩ := c.ex
        obtain ⟨od, J⟩ := ins_at I eb
        refine reprUnder_K (by have := hr.un; omega) (by omega) I.kIn J hs hf (thn (run_atB (vs := [.ref b]) hr fr F bb passL I (.cons rfl .nil) q) fun w s' hw => ?_)
        obtain ⟨z, H', I', rz, t, rfl, hl, hp1⟩ := hw
        obtain ⟨tk, rfl⟩ := (show ∃ t', w = Value.str t t' from rz)
        exact ⟨t, tk, rfl, wpAny_pure (next t _ H' hl I' hp1)⟩
      · exact part_data I ea hy hdy r0 hs hl (by omega) hg (by have := hr.un; omega) fun h' tk hk => wpAny_pure (next d.shown _ H hl (I.kept (t' := tk) hk) hp1)
theorem tup_own (c : SmB X.prog X.w X.K X.mg X.base k C "__repr__" sp) {A : Around} (hr : RoomB (k + 1) A) (fr : A.frames = X.A.frames) (hg : A.guards = some []) {a : Addr} {ys : List V} {s : Shared} {H : Hp} {Q : VK} (I : Inv X pins σ H s) (ea : H a = some (.tup ys)) (hn : ys.length ≤ 50)
    (hp : parts C sp a ys ys H fun ts H' => Q (.str (tupleText ts)) H') : wpAny (model X.prog X.w) A (call (.builtin "tuple.__repr__") [.ref a]) (fun r s1 => ∃ x t, r = .str x t ∧ EP X pins σ Q r s1) X.xe s := by
  obtain ⟨_, its, r, ⟨o, ho, hc, n, hd⟩⟩ := (show ObjOk X.prog X.w H s.heap a (.tup ys) from I.hok a _ ea)
  have hz := sizeLine_eq
  have il : its.length = ys.length := r.length.symm
  refine wpAny_call (codeAny_call_builtin_own (Code.quiet_builtin _ (by decide +kernel)) F.entry_tuple_repr (F.slot_tuple_repr.check _ _ _ _ _ _ _ _ ⟨o, ho, hc⟩ (F.args_tuple_repr_1 _) ?_))
  show wpOwn (model X.prog X.w) A (.builtin "tuple.__repr__" ⟨[.ref a], []⟩) (Builtin.tupleReprAt 0 ⟨[.ref a], []⟩) _ _ s
  rw [tuple_repr_tree, tupleReprUnderWay_eq]
  refine wpOwn_bind (wpOwn_stackTailAny hg (tupGuardF_off _) (tupGuardF_pos _) ?_)
  rw [show (([] : List Code).any fun c => tupGuardF (.ref a) (c, default)) = false from rfl]
  refine wpOwn_of_wpAny ?_
  show wpAny _ _ (tupleReprRest 0 (.ref a)) _ _ s
  unfold tupleReprRest Builtin.Tuple.tupleItemsOf
  refine wpAny_bind (wpAny_bind (wpAny_seqItems ho hd (wpAny_pure ?_)))
  rw [← Array.forIn_toList]
  refine wpAny_bind (tup_fold c (A := A.under (.builtin "tuple.__repr__" ⟨[.ref a], []⟩)) ⟨?_, ?_⟩ ?_ (guards_under_guard (isGuard_tuple_repr _) hg) ys its #[] 0 s H _ _ r I hp (by omega) fun ts s' H' e1 e2 I' hk => ?_)
  · have e : (A.under (.builtin "tuple.__repr__" ⟨[.ref a], []⟩)).depth = A.depth + 1 := by
      simp [Around.under]
      first | rfl | decide +kernel | kernel_rfl
    have := hr.dp
    rw [e]
    omega
  · have := hr.un
    rw [units_under_tuple_repr]
    omega
  · refine Eq.trans ?_ fr
    first | rfl | simp [Around.under]
  · have hlen : ts.length = its.toArray.size := by simp [e1, il]
    have hzl : (tupleText ts).length ≤ sizeLine := by
      have := tupleText_le ts
      omega
    refine wpAny_bind (wpAny_mkStr (wpAny_pure ?_) (by simpa [tupleText, hlen] using hzl))
    have fin : ∃ x t, (Value.str (tupleText ts) s'.toks) = .str x t ∧ EP X pins σ Q (Value.str (tupleText ts) s'.toks) { s' with toks := s'.toks + 1 } := ⟨_, _, rfl, .str (tupleText ts), H', I'.tok _, ⟨_, rfl⟩, hk⟩
    simpa [tupleText, hlen, callEnd] using fin
def rReprT (C : Addr) (sp : Sp) : List V → Hp → VK → Prop := fun xs H Q => ∃ a ys, xs = [.ref a] ∧ H a = some (.tup ys) ∧ ys.length ≤ 50 ∧ parts C sp a ys ys H fun ts H' => Q (.str (tupleText ts)) H'
theorem call_reprT (c : SmB X.prog X.w X.K X.mg X.base k C "__repr__" sp) (hG : X.A.guards = some []) (hr : RoomB (k + 2) X.A) : CallR X (.builtin "repr") (rReprT C sp) := by
  intro pins s σ H xs us Q I r h
  obtain ⟨a, ys, rfl, ea, hn, hp⟩ := h
  have e := Vals.ref1 r
  subst e
  obtain ⟨_, its, _, ⟨o, ho, hc, n, hd⟩⟩ := (show ObjOk X.prog X.w H s.heap a (.tup ys) from I.hok a _ ea)
  exact call_repr_slot (T := "tuple") (idr := "tuple.__repr__") (by have := hr.un; omega) ⟨o, ho, hc⟩ F.slot_tuple_repr (tup_own c hr.in1 rfl hG I ea hn hp)
end
end Pz
/-! ### repr of tuples that hold own instances and dicts: the mirror -/
namespace Pz
open PySem PySem.Spec PyProof.Rows L2 He Rt
def leafW : W → Option Str
  | .non => some "None"
  | .bl b => some (if b then "True" else "False")
  | .int i => if i.natAbs.log2 < 1920 then some (intStr i) else none
  | .str x => if (reprText x).length ≤ 1000 then some (reprText x) else none
  | _ => none
def datFW : W → Option PyData
  | .non => some .none
  | .bl b => some (.bool b)
  | .int i => some (.int i)
  | .str x => some (.str x)
  | _ => none
def datKW : List (Key × W) → Option (List (PyData × PyData))
  | [] => some []
  | (k, v) :: r => (datFW v).bind fun d => (datKW r).map fun ds => (datK k, d) :: ds
def datYW : W → Option PyData
  | .dic kvs => (datKW kvs).map .dict
  | w => (datW w).bind fun d => if d.hasDict = false then some d else none
def okP (d : PyData) : Bool := d.showable && (decide (d.depth ≤ 20) && decide (d.shown.length ≤ 1000))
def repPs (c : Str) (g : FA) : List W → Mm → Option (List Str × Mm)
  | [], M => some ([], M)
  | w :: ws, M => match leafW w with
    | some t => if t.length ≤ 1000 then (repPs c g ws M).map fun r => (t :: r.1, r.2) else none
    | none => match datYW w with
      | some d => if okP d = true then (repPs c g ws M).map fun r => (d.shown :: r.1, r.2) else none
      | none => match w with
        | .ins c' fs => if c' = c then (g [.p (.ins c' fs)] M).bind fun y => match y.1 with
            | .p (.str t) => if t.length ≤ 1000 then (repPs c g ws y.2).map fun r => (t :: r.1, r.2) else none
            | _ => none
          else none
        | _ => none
def repTup (c : Str) (g : FA) : FA := fun us M => match us with
  | [.p (.tup ws)] => if ws.length ≤ 50 then (repPs c g ws M).map fun x => (.p (.str (tupleText x.1)), x.2) else none
  | _ => none
section
variable {K : PySem.W.Frag}
theorem rpl_len16 {F : Hp} : ∀ {ws : List W} {vs : List V}, RpL K F ws vs → vs.length = ws.length
  | [], _, r => by cases r; rfl
  | w :: ws, _, r => by
    obtain ⟨u, us, rfl, _, q⟩ := r
    rw [List.length_cons, List.length_cons, rpl_len16 q]
theorem leaf_W {F : Hp} {w : W} {v : V} {t : Str} (h : leafW w = some t) (r : Rp K F w v) : leafT v = some t := by
  cases w with
  | non => cases r; exact h
  | bl b => cases r; exact h
  | int i => cases r; exact h
  | str x => cases r; exact h
  | _ => cases h
theorem datF_W {F : Hp} {w : W} {v : V} {d : PyData} (h : datFW w = some d) (r : Rp K F w v) : datF v = some d := by
  cases w with
  | non => cases r; exact h
  | bl b => cases r; exact h
  | int i => cases r; exact h
  | str x => cases r; exact h
  | _ => cases h
theorem datK_W {F : Hp} : ∀ {kws : List (Key × W)} {kvs : List (Key × V)} {ds : List (PyData × PyData)}, datKW kws = some ds → RpD K F kws kvs → datKs kvs = some ds
  | [], _, _, h, r => by cases r; exact h
  | (k, w) :: kws, _, _, h, r => by
    obtain ⟨u, us, rfl, r0, r1⟩ := r
    obtain ⟨d, e1, h⟩ := bind2 (show (datFW w).bind (fun d => (datKW kws).map fun ds => (datK k, d) :: ds) = _ from h)
    obtain ⟨ds, e2, rfl⟩ := Option.map_eq_some_iff.mp h
    show (datF u).bind (fun d => (datKs us).map fun ds => (datK k, d) :: ds) = _
    rw [datF_W e1 r0, datK_W e2 r1]
    rfl
theorem datY_W {F H : Hp} (s : Same F H) {w : W} {v : V} {d : PyData} (h : datYW w = some d) (r : Rp K F w v) : DatY H v d := by
  unfold datYW at h
  split at h
  · rename_i kvs
    obtain ⟨ds, e, rfl⟩ := Option.map_eq_some_iff.mp h
    obtain ⟨a, vs, rfl, f, q⟩ := r
    exact .inr ⟨a, vs, ds, rfl, s _ _ f, datK_W e q, rfl⟩
  · obtain ⟨d', e1, h⟩ := bind2 h
    split at h
    · rename_i hn
      cases h
      exact .inl ⟨datW_dv s e1 r, hn⟩
    · cases h
theorem parts_W {c : Str} {g : FA} {a : Addr} {zs : List V} : ∀ {ws : List W} {vs : List V} {F H : Hp} {ρ : List Addr} {M M' : Mm} {ts : List Str} {k : List Str → Hp → Prop}, Sr K F ρ H M → F a = some (.tup zs) → (∀ y ∈ vs, y ∈ zs) → RpL K F ws vs → repPs c g ws M = some (ts, M') →
    (∀ F' ρ' H', Go F ρ H F' ρ' H' → Sr K F' ρ' H' M' → k ts H') → parts (ga K c) (spW K g) a zs vs H k
  | [], _, F, H, ρ, M, M', ts, k, sr, fa, hm, r, h, kk => by
    cases r
    cases h
    exact kk F ρ H Go.refl sr
  | w :: ws, _, F, H, ρ, M, M', ts, k, sr, fa, hm, r, h, kk => by
    obtain ⟨y, vs, rfl, r0, r1⟩ := r
    have hm1 : ∀ z ∈ vs, z ∈ zs := fun z hz => hm z (List.mem_cons_of_mem _ hz)
    unfold repPs at h
    split at h
    · rename_i t ht
      split at h
      · rename_i hl
        obtain ⟨⟨ts1, M1⟩, e, e2⟩ := Option.map_eq_some_iff.mp h
        cases e2
        exact .inl ⟨t, leaf_W ht r0, hl, parts_W sr fa hm1 r1 e fun F' ρ' H' g' s' => kk F' ρ' H' g' s'⟩
      · cases h
    · split at h
      · rename_i d hd
        split at h
        · rename_i ho
          obtain ⟨⟨ts1, M1⟩, e, e2⟩ := Option.map_eq_some_iff.mp h
          cases e2
          unfold okP at ho
          simp only [Bool.and_eq_true, decide_eq_true_eq] at ho
          exact .inr (.inr ⟨d, datY_W sr.sub hd r0, ⟨ho.1, ho.2.1, ho.2.2⟩, ⟨sr.sub _ _ fa, hm y (List.mem_cons_self ..)⟩, parts_W sr fa hm1 r1 e fun F' ρ' H' g' s' => kk F' ρ' H' g' s'⟩)
        · cases h
      · split at h
        · rename_i c' fs _ _
          split at h
          · rename_i hc
            subst hc
            obtain ⟨⟨u, M1⟩, e1, h⟩ := bind2 h
            dsimp only at h
            split at h
            · rename_i t
              split at h
              · rename_i hl
                obtain ⟨⟨ts1, M2⟩, e, e2⟩ := Option.map_eq_some_iff.mp h
                cases e2
                obtain ⟨b, dx, gs, rfl, fb, q⟩ := r0
                refine .inr (.inl ⟨b, dx, gs, rfl, sr.sub _ _ fb, F, ρ, [.p (.ins c' fs)], M, _, M1, sr, ⟨_, _, rfl, ⟨b, dx, gs, rfl, fb, q⟩, rfl⟩, e1, fun F1 ρ1 H1 v g1 sr1 rv => ?_⟩)
                cases rv
                exact ⟨t, rfl, hl, parts_W sr1 (g1.sf _ _ fa) hm1 (r1.mono g1.sf) e fun F' ρ' H' g' s' => kk F' ρ' H' (g1.trans g') s'⟩
              · cases h
            · cases h
          · cases h
        · cases h
theorem vr_repT {c : Str} {g : FA} : VRA K (rReprT (ga K c) (spW K g)) (repTup c g) := by
  intro F ρ H M x u r M' Q sr ru hm k
  unfold repTup at hm
  split at hm
  · rename_i ws
    split at hm
    · rename_i hl
      obtain ⟨⟨ts, M1⟩, e, e2⟩ := Option.map_eq_some_iff.mp hm
      cases e2
      obtain ⟨v, us, rfl, ⟨a, vs, rfl, fa, q⟩, rfl⟩ := ru
      refine ⟨a, vs, rfl, sr.sub _ _ fa, by rw [rpl_len16 q]; exact hl, parts_W sr fa (fun _ h => h) q e fun F' ρ' H' g' s' => k F' ρ' H' _ g' s' rfl⟩
    · cases hm
  · cases hm
end
/-- the first that answers -/
def orF (f g : FA) : FA := fun us M => match f us M with
  | some r => some r
  | none => g us M
theorem vra_or {K : PySem.W.Frag} {r r' : List V → Hp → VK → Prop} {f g : FA} (h : VRA K r f) (h' : VRA K r' g) : VRA K (fun xs H Q => r xs H Q ∨ r' xs H Q) (orF f g) := by
  intro F ρ H M x u c M' Q sr ru hm k
  unfold orF at hm
  split at hm
  · rename_i z e
    cases hm
    exact .inl (h F ρ H M x u c M' Q sr ru e k)
  · exact .inr (h' F ρ H M x u c M' Q sr ru hm k)
theorem callR_or {X : Cx} {fn : Value} {r r' : List V → Hp → VK → Prop} (h : CallR X fn r) (h' : CallR X fn r') : CallR X fn (fun xs H Q => r xs H Q ∨ r' xs H Q) := by
  intro pins s σ H xs us Q I rv q
  rcases q with q | q
  · exact h pins s σ H xs us Q I rv q
  · exact h' pins s σ H xs us Q I rv q
end Pz
/-! ### dict displays of constants; x ** n that may raise -/
namespace Pz
open PySem PySem.Spec PyProof.Rows L2 He Rt
theorem new_dic {K : PySem.W.Frag} {F H : Hp} {ρ : List Addr} {M : Mm} {p : Addr} {ws : List (Key × W)} {vs : List (Key × V)} {Q : VK} (sr : Sr K F ρ H M) (r : RpD K F ws vs) (k : ∀ F' ρ' H' v, Go F ρ H F' ρ' H' → Sr K F' ρ' H' M → RU K F' ρ' (.p (.dic ws)) v → Q v H') (hp : H p = none) : Q (.ref p) (upd H p (.dK vs)) := by
  obtain ⟨s1, s2⟩ := sr.newF (o := .dK vs) hp
  exact k _ _ _ _ (sr.goF hp) s1 ⟨p, vs, rfl, upd_same, r.mono s2⟩
def mDic (kws : List (Key × W)) : E := fun _ M => some (.p (.dic kws), M)
section
variable {X : Cx} {K : PySem.W.Frag} {pos : Pos}
theorem ew_dic0 : EW X K (.Dict [] [] pos) (mDic []) := (pe_dnewK (X := X)).weak fun σ H Q ⟨F, ρ, us, M, u, M', sr, sv, hm, k⟩ => by
  cases hm
  exact fun p hp => new_dic (ws := []) (vs := []) sr rfl k hp
theorem ew_dic1 {ek ev : Expr} {key : Key} {w : W} {v : V} (hk : PE X ek (tC (L2.kV key))) (hv : PE X ev (tC v)) (hr : ∀ F, Rp K F w v) : EW X K (.Dict [some ek] [ev] pos) (mDic [(key, w)]) :=
  (pe_disp (X := X) (pos := pos) (pps_cons hk hv pps_nil) rfl rfl (by simp) (by show 1 ≤ 15; decide)).weak fun σ H Q ⟨F, ρ, us, M, u, M', sr, sv, hm, k⟩ => by
    cases hm
    intro p hp
    show upd H p (.dK []) p = some (.dK []) ∧ ∃ kvs : List (Key × V), [(L2.kV key, v)] = kvs.map (fun kv => (L2.kV kv.1, kv.2)) ∧ kvs.length ≤ 15 ∧ Q (.ref p) (upd (upd H p (.dK [])) p (.dK (mergeK [] kvs)))
    refine ⟨upd_same, [(key, v)], rfl, (by show 1 ≤ 15; decide), ?_⟩
    rw [upd_upd]
    exact new_dic (ws := [(key, w)]) (vs := [(key, v)]) sr ⟨v, [], rfl, hr F, rfl⟩ k hp
end
/-! x ** n -/
def rPowE (C : Addr) (sp : Sp) (E : XK) : R2 := fun x y H Q => ∃ a dx fs i, x = .ref a ∧ y = .int i ∧ H a = some (.ins C dx fs) ∧ sp [x, y] H (fun v H' => ∃ r, v = .ref r ∧ Q (.ref r) H') E
theorem op_powE {X : Cx} {k : Nat} {C : Addr} {sp : Sp} (c : Sm X.prog X.w X.K X.mg X.base k C "__pow__" sp) (hr : Room k X.A) (hc : PySem.W.selfFirst X.K C = true) (hno : PySem.W.findIn X.K (.ref C) "__rpow__" = some none) : OpR X (binaryOp .Pow) (rPowE C sp (Wof X)) := by
  intro pins s σ H x y v u Q I rx ry h
  obtain ⟨a, dx, fs, i, rfl, rfl, ea, q⟩ := h
  cases (show v = Value.ref a from rx)
  obtain ⟨t, rfl⟩ := (show ∃ t, u = Value.int i t from ry)
  obtain ⟨f, fd, ps, F, hs, hf, kp, b⟩ := c.ex
  obtain ⟨od, J⟩ := ins_at I ea
  obtain ⟨m', hF⟩ := I.fr
  have e : dunderR (Operator.info .Pow).2 = ("__rpow__" : Str) := by decide +kernel
  have e2 : PySem.dunder (Operator.info .Pow).2 = ("__pow__" : Str) := by decide +kernel
  obtain ⟨fo, h1⟩ : ∃ fo, PySem.W.findIn X.K (.type "int") (PySem.dunder (Operator.info .Pow).2) = some fo := ⟨some (.builtin "int.__pow__"), by kernel_rfl⟩
  obtain ⟨ro, h2⟩ : ∃ ro, PySem.W.findIn X.K (.type "int") (dunderR (Operator.info .Pow).2) = some ro := ⟨some (.builtin "int.__rpow__"), by kernel_rfl⟩
  exact PySem.W.ksp_binT (T := "int") (rc := none) hF I.ok.mod.kin J rfl hc (by rw [e2]; exact hs) hf (by rw [e]; exact hno) (.inl rfl) h1 h2 rfl (thn (run_at (vs := [.ref a, .int i]) (Sub.here hr) F b passW I (.cons rfl (.cons ⟨t, rfl⟩ .nil)) q) fun w s' hw => ref_end hw)
def xpowO (c : Str) (g : FAx) : F2x := fun a b M => match insF c M a with
  | some _ => match b with
    | .p (.int _) => xrf (g [a, b] M)
    | _ => .no
  | none => .no
theorem vx_powO {K : PySem.W.Frag} {E : XK} {c : Str} {g : FAx} : VX2 K E (rPowE (ga K c) (spX K g) E) (xpowO c g) := by
  intro F ρ H M x y u w Q sr ru rw' hm
  unfold xpowO at hm
  split at hm
  · rename_i fs hf
    obtain ⟨a, dx, gs, rfl, e1, q1⟩ := insF_ok sr hf ru
    split at hm
    · rename_i i
      cases rw'
      exact ⟨a, dx, gs, i, rfl, rfl, e1, spx_ref sr (rus2 (u2 := .p (.int i)) ru rfl) hm⟩
    · exact hm.elim
  · exact hm.elim
end Pz
/-! ### long bodies, statement by statement -/
namespace Pz
open PySem PySem.Spec PyProof.Rows L2 He Rt
section
variable {a b : S} {us us1 us2 : Sl} {M M1 M2 : Mm} {r : Option (Fl × Sl × Mm)} {t : T} {e : E} {g : Tg} {u : U} {v : Bool}
theorem seq_nx (h : a us M = some (.nx, us1, M1)) (k : b us1 M1 = r) : mSeq a b us M = r := by
  unfold mSeq
  rw [h]
  exact k
theorem seq_ret {u : U} (h : a us M = some (.ret u, us1, M1)) : mSeq a b us M = some (.ret u, us1, M1) := by
  unfold mSeq
  rw [h]
  rfl
theorem if_b (h : t us M = some (v, M1)) (k : (if v = true then a us M1 else b us M1) = r) : mIf t a b us M = r := by
  unfold mIf
  rw [h]
  exact k
theorem if_t (h : t us M = some (true, M1)) (k : a us M1 = r) : mIf t a b us M = r := if_b h k
theorem if_f (h : t us M = some (false, M1)) (k : b us M1 = r) : mIf t a b us M = r := if_b h k
theorem asg_at (h : e us M = some (u, M1)) (k : g u us M1 = some (us1, M2)) : mAsg e g us M = some (.nx, us1, M2) := by
  unfold mAsg
  rw [h]
  show (g u us M1).map _ = _
  rw [k]
  rfl
theorem asg_nm {i : Nat} (h : e us M = some (u, M1)) : mAsg e (gNm i) us M = some (.nx, us.set i (some u), M1) := asg_at h rfl
theorem ret_at (h : e us M = some (u, M1)) : mRet e us M = some (.ret u, us, M1) := by
  unfold mRet
  rw [h]
  rfl
theorem expr_at (h : e us M = some (u, M1)) : mExpr e us M = some (.nx, us, M1) := by
  unfold mExpr
  rw [h]
  rfl
theorem not_at (h : t us M = some (v, M1)) : mNot t us M = some (!v, M1) := by
  unfold mNot
  rw [h]
  rfl
theorem b_at {v : Bool} (h : e us M = some (.p (.bl v), M1)) : mB e us M = some (v, M1) := by
  unfold mB
  rw [h]
  rfl
theorem def_ret {np nl : Nat} {us : List U} {fin : Nat → U → Mm → Option (U × Mm)} {r : Option (U × Mm)} (hl : us.length = np) (h : b (us.map some ++ List.replicate nl none) M = some (.ret u, us1, M1)) (k : fin M.length u M1 = r) : mDef np nl fin b us M = r := by
  unfold mDef
  rw [if_pos hl, h]
  exact k
theorem def_nx {np nl : Nat} {us : List U} {fin : Nat → U → Mm → Option (U × Mm)} {r : Option (U × Mm)} (hl : us.length = np) (h : b (us.map some ++ List.replicate nl none) M = some (.nx, us1, M1)) (k : fin M.length (.p .non) M1 = r) : mDef np nl fin b us M = r := by
  unfold mDef
  rw [if_pos hl, h]
  exact k
theorem var_at {i : Nat} (h : us[i]?.join = some u) : mVar i us M = some (u, M) := by
  unfold mVar
  rw [h]
  rfl
theorem call_at {f : FA} {ma : As} {xs : List U} {r : Option (U × Mm)} (h : ma us M = some (xs, M1)) (k : f xs M1 = r) : mCall f ma us M = r := by
  unfold mCall
  rw [h]
  exact k
theorem cons_at {mr : As} {xs : List U} (h : e us M = some (u, M1)) (k : mr us M1 = some (xs, M2)) : mCons e mr us M = some (u :: xs, M2) := by
  unfold mCons
  rw [h]
  show (mr us M1).map _ = _
  rw [k]
  rfl
theorem nil_at : mNil us M = some ([], M) := rfl
theorem bin_at {f : F2} {e' : E} {u' : U} {r : Option (U × Mm)} (h : e us M = some (u, M1)) (h' : e' us M1 = some (u', M2)) (k : f u u' M2 = r) : mBin f e e' us M = r := by
  unfold mBin
  rw [h]
  show (e' us M1).bind _ = _
  rw [h']
  exact k
theorem un_at {f : F1} {r : Option (U × Mm)} (h : e us M = some (u, M1)) (k : f u M1 = r) : mUn f e us M = r := by
  unfold mUn
  rw [h]
  exact k
theorem ife_b {x y : E} {r : Option (U × Mm)} (h : t us M = some (v, M1)) (k : (if v = true then x us M1 else y us M1) = r) : mIfE t x y us M = r := by
  unfold mIfE
  rw [h]
  exact k
end
end Pz
/-! ### exceptions made by name: type.__call__ with keywords -/
namespace Pz
open PySem PySem.Spec PySem.HandSPX Builtin Builtin.ObjectAttr
section
variable {M : Model} {A : Around} {E : Value → Shared → Prop} {h : Heap} {g : Array GenState} {d : Drawn} {t : Nat} {os : OsState}
variable {nm q : Str} {C N : Addr} {bs bm bmB : List Value} {hdct : Bool} {sn : List Str} {sub : List Value} {ab : Bool} {col : Option Bool} {dd : Option Addr} {k0 k1 k2 k3 k5 : Option Value} {B newId initId : String} {kw : List (Str × Value)}
theorem check_new_ownK (F : ExcBaseFacts B newId initId bmB) (hT : ∀ X : String, bm.contains (.type X) = bmB.contains (.type X)) {rest : List Value} {Q : Unit → Shared → Prop}
    (hC : h.get? C = some (excClassObj nm q C N bs bm hdct sn sub ab col dd k0 k1 k2 k3 k5 newId)) (hq : Q () ⟨h, g, d, t, os⟩) : wpAny M A (checkBuiltinCall newId ⟨.ref C :: rest, kw⟩) Q E ⟨h, g, d, t, os⟩ := by
  have hcont : (Value.ref C :: bm).contains (.type B) = true := by rw [List.contains_cons, hT, F.hasB, Bool.or_true]
  have hstar := F.noStar
  simp only [checkBuiltinCall, F.newKind, F.newSplit, F.newRow]
  repeat (first | refine wpAny_loadPart_at hC ?_ | (refine wpAny_isSubtype_exc hC ?_; rw [hcont]) | refine wpAny_staticBase_exc hC ?_ | refine wpAny_madeBy_exc hC ?_ | simp only [bne_self_eq_false, Bool.false_eq_true, if_false] | wp_step)
  exact hq
end
section
variable {prog : Program} {w : World} {A : Around} {E : Value → Shared → Prop} {R : Result → Shared → Prop} {h : Heap} {g : Array GenState} {d : Drawn} {t : Nat} {os : OsState}
variable {nm q : Str} {C N : Addr} {bs bm bmB : List Value} {hdct : Bool} {sn : List Str} {sub : List Value} {ab : Bool} {col : Option Bool} {dd : Option Addr} {k0 k1 k2 k3 k5 : Option Value} {B newId initId : String} {kw : List (Str × Value)}
theorem new_ownK (F : ExcBaseFacts B newId initId bmB) (hT : ∀ X : String, bm.contains (.type X) = bmB.contains (.type X)) {rest : List Value}
    (hC : h.get? C = some (excClassObj nm q C N bs bm hdct sn sub ab col dd k0 k1 k2 k3 k5 newId))
    (hq : R (.ok (.ret (.ref (h.objs.size + 1)))) ⟨(h.push { cls := .type "tuple", data := .seq rest.toArray }).push
      { cls := .ref C, data := .fields #[.ref h.objs.size, .none, .none, .none, .bool false, .none] }, g, d, t, os⟩) (hrest : rest.length ≤ sizeLine) :
    codeAny (model prog w) A (.builtin newId ⟨.ref C :: rest, kw⟩) R ⟨h, g, d, t, os⟩ := by
  have hends := F.ends
  have hcB : (Value.ref C :: bm).contains (.type B) = true := by rw [List.contains_cons, hT, F.hasB, Bool.or_true]
  have hcA : (Value.ref C :: bm).contains (.type "AttributeError") = false := by rw [List.contains_cons, hT, F.noAttr]; rfl
  have hcN : (Value.ref C :: bm).contains (.type "NameError") = false := by rw [List.contains_cons, hT, F.noName]; rfl
  refine codeAny_builtinAt F.entry ?_
  unfold Builtin.«BaseException.__new__»
  refine wpAt_bind ?_
  show wpAt _ _ _ (stack >>= _) _ _ _
  refine wpAt_bind (wpAt_stack fun p below => wpAt_of_wpAny ?_)
  wp_walk
  refine wpAt_of_wpAny ?_
  rw [F.owner]
  repeat (first | with_reducible refine wpAny_madeHere_exc F.canon hC ?_ | with_reducible refine wpAny_loadPart_at hC ?_ | (with_reducible refine wpAny_isSubtype_exc hC ?_; first | rw [hcB] | rw [hcA] | rw [hcN]) | wp_step)
  show R _ _
  rw [Heap.size_push]
  exact hq
theorem type_call_ownK (F : ExcBaseFacts B newId initId bmB) (hT : ∀ X : String, bm.contains (.type X) = bmB.contains (.type X)) {rest : List Value} {fI : Addr} {Q : Fin → Shared → Prop}
    (hC : h.get? C = some (excClassObj nm q C N bs bm hdct sn sub ab col dd k0 k1 k2 k3 k5 newId))
    (hi : W.Looks (model prog w) h (typeLookup (.ref C) "__init__") (some (.ref fI))) (hb : ∀ self, W.Looks (model prog w) h (bindSpecial (.ref fI) self) (.ref fI, [self])) (hrest : rest.length ≤ sizeLine)
    (hq : codeAny (model prog w) A (.call (.ref fI) ⟨.ref (h.objs.size + 1) :: rest, kw⟩)
      (fun r s' => match r with | .ok (.ret v) => v = .none ∧ Q (.done (.ret (.ref (h.objs.size + 1)))) s' | .ok _ => False | .error e => E e s')
      ⟨(h.push (W.kdv_tup rest)).push (excO C h.objs.size), g, d, t, os⟩) :
    wpAny (model prog w) A (Builtin.«type.__call__» ⟨.ref C :: rest, kw⟩) Q E ⟨h, g, d, t, os⟩ := by
  repeat (first | with_reducible refine wpAny_loadPart_at hC ?_ | with_reducible refine wpAny_madeBy_exc hC ?_ | wp_step)
  refine codeAny_call_builtin_code (Code.quiet_builtin _ F.quiet) (check_new_ownK F hT hC ?_)
  refine new_ownK F hT hC ?_ hrest
  show wpAny _ _ _ _ _ _
  have k : ∀ b o, h.get? b = some o → ((h.push (W.kdv_tup rest)).push (excO C h.objs.size)).get? b = some o := fun b o e => Heap.get?_push_of_some _ (Heap.get?_push_of_some _ e)
  have hC₁ := k _ _ hC
  have hget : ((h.push (W.kdv_tup rest)).push (excO C h.objs.size)).get? (h.objs.size + 1) = some (excO C h.objs.size) := by heap_get
  have hcC : (Value.ref C :: bm).contains (.ref C) = true := by simp
  have i1 := hi.keeps k
  have b1 := (hb (.ref (h.objs.size + 1))).keeps k
  unfold isInstance
  repeat (first | with_reducible refine wpAny_loadPart_at hget ?_ | (with_reducible refine wpAny_isSubtype_exc hC₁ ?_; rw [hcC]) | wp_step)
  show wpAny _ _ (typeLookup (.ref C) _) _ _ _
  refine i1.at ?_
  refine wpAny_holding (wpAny_bind (b1.at ?_))
  refine wpAny_bind (wpAny_call (codeAny_mono hq fun r s' z => ?_))
  rcases r with e | (v | _ | _ | _) <;> first | exact z | exact z.elim | skip
  obtain ⟨rfl, z⟩ := z
  first
    | exact wpAny_pure (wpAny_pure z)
    | (wp_walk; exact z)
theorem call_ownK (F : ExcBaseFacts B newId initId bmB) (hT : ∀ X : String, bm.contains (.type X) = bmB.contains (.type X)) {rest : List Value} {fI : Addr}
    (hC : h.get? C = some (excClassObj nm q C N bs bm hdct sn sub ab col dd k0 k1 k2 k3 k5 newId))
    (hi : W.Looks (model prog w) h (typeLookup (.ref C) "__init__") (some (.ref fI))) (hb : ∀ self, W.Looks (model prog w) h (bindSpecial (.ref fI) self) (.ref fI, [self])) (hrest : rest.length ≤ sizeLine)
    (hq : codeAny (model prog w) (A.under (.builtin "type.__call__" ⟨.ref C :: rest, kw⟩)) (.call (.ref fI) ⟨.ref (h.objs.size + 1) :: rest, kw⟩) (W.InitBack (h.objs.size + 1) R)
      ⟨(h.push (W.kdv_tup rest)).push (excO C h.objs.size), g, d, t, os⟩) :
    codeAny (model prog w) A (.call (.ref C) ⟨rest, kw⟩) R ⟨h, g, d, t, os⟩ := by
  have f1 := tc_lookup
  have f2 := tc_bind (.ref C)
  have hTy : (⟨h, g, d, t, os⟩ : Shared).TypeIs (.ref C) "type" := ⟨_, hC, rfl⟩
  refine codeAny_of_tree ?_
  show wpAny _ _ (callAny (.ref C) _) _ _ _
  repeat (any_goals (first | assumption | with_reducible refine wpAny_loadPart_at hC ?_ | wp_step))
  refine ⟨rfl, ?_⟩
  refine codeAny_call_builtin_at (Code.quiet_builtin _ (by decide +kernel)) entry_typeCall (wpAny_check_type_call_sub hC (type_call_ownK F hT hC hi hb hrest ?_))
  refine codeAny_mono hq fun r s' z => ?_
  rcases r with e | (v | _ | _ | _) <;> exact z
end
end Pz
/-! ### exceptions as values: C(..), C(k=..), C() -/
namespace Pz
open PySem PySem.Spec PyProof.Rows L2 He Rt
theorem upd_mk {H : Hp} {a dx : Addr} {x y z : HO} : upd (upd (upd H a x) dx y) a z = upd (upd H dx y) a z := by
  funext b
  by_cases hb : b = a
  · subst hb; rw [upd_same, upd_same]
  · rw [upd_ne hb, upd_ne hb]
    by_cases hd : b = dx
    · subst hd; rw [upd_same, upd_same]
    · rw [upd_ne hd, upd_ne hd, upd_ne hb]
theorem upd_mk2 {H : Hp} {a dx : Addr} {x y z t : HO} (h : dx ≠ a) : upd (upd (upd (upd H a x) dx y) a z) dx t = upd (upd H dx t) a z := by
  funext b
  by_cases hb : b = a
  · subst hb; rw [upd_same, upd_ne (Ne.symm h), upd_same]
  · rw [upd_ne (a := a) (b := b) hb]
    by_cases hd : b = dx
    · subst hd; rw [upd_same, upd_same]
    · rw [upd_ne hd, upd_ne hb, upd_ne hd, upd_ne hb, upd_ne hd]
section
variable {X : Cx} {pins : List (Addr × Obj)} {σ : L2.St} {H : Hp} {s : Shared} {C fI : Addr} {k n : Nat} {fd : FuncData} {ps ks : List Str} {sc : List Sc} {sp : Sp} {us ws : List Value} {vs zs : List V} {B newId initId : String} {bmB : List Value} {Q : VK}
theorem call_XK (FB : ExcBaseFacts B newId initId bmB) (T : XcC X.K C bmB newId) (iC : PySem.W.findIn X.K (.ref C) "__init__" = some (some (.ref fI))) (tI : PySem.W.typeIn X.K (.ref fI) = some (.type "function"))
    (F1 : FnOk X.prog X.w X.K X.mg X.base (L2.CX X.prog X.w) k fI fd ps sp) (hr : Room (k + 1) X.A) (hb : KdR X.K fd ps (n + 1) ks sc []) (I : Inv X pins σ H s) (r : Vals vs us) (rz : Vals zs ws) (l1 : vs.length = n) (l2 : zs.length = ks.length) (hz : vs.length ≤ 1000)
    (hsp : ∀ a, H a = none → sp (bld sc (.ref a :: vs) [] zs) (upd H a (exo a C none)) (fun v H2 => v = .non ∧ Q (.ref a) H2) E0) :
    wpAny (model X.prog X.w) X.A (call (.ref C) us (ks.zip ws)) (EP X pins σ Q) X.xe s := by
  obtain ⟨nm, N, qn, bs, bm, hdct, sn, sub, ab, col, dd, k0, k1, k2, k3, k5, hC, hT⟩ := PySem.W.excInit_of I.kIn T.init
  obtain ⟨its, b⟩ := hb.ex
  obtain ⟨hp, g, dr, tk, os⟩ := s
  have hsz : hp.objs.size ≤ hp.objs.size + 1 := Nat.le_succ _
  have hn : H (hp.objs.size + 1) = none := I.hok.fresh hsz
  have hq := hsp (hp.objs.size + 1) hn
  have kk : ∀ b o, hp.get? b = some o → ((hp.push (PySem.W.kdv_tup us)).push (PySem.HandSPX.excO C hp.objs.size)).get? b = some o := fun b o e => Heap.get?_push_of_some _ (Heap.get?_push_of_some _ e)
  have hget : ((hp.push (PySem.W.kdv_tup us)).push (PySem.HandSPX.excO C hp.objs.size)).get? (hp.objs.size + 1) = some (PySem.HandSPX.excO C hp.objs.size) := by heap_get
  have I2 := I.laid (t' := tk) (a := hp.objs.size + 1) (o := exo (hp.objs.size + 1) C none) (h' := (hp.push (PySem.W.kdv_tup us)).push (PySem.HandSPX.excO C hp.objs.size)) kk hsz (exo_ok hget)
  have r2 : Vals (V.ref (hp.objs.size + 1) :: vs) (Value.ref (hp.objs.size + 1) :: us) := .cons rfl r
  have hus : us.length ≤ sizeLine := by
    rw [← Paired.length r, sizeLine_eq]
    omega
  have bt := b.to _ (Value.ref (hp.objs.size + 1) :: us) ws I2.kIn (by rw [← r2.length]; simp [l1]) (by rw [← rz.length]; exact l2)
  refine wpAny_call (call_ownK FB hT hC (PySem.W.looks_findIn I.kIn iC) (fun self => PySem.W.bind_fn I.kIn self tI) hus
    (codeAny_mono (F1.run _ X.stack _ _ ⟨Value.ref (hp.objs.size + 1) :: us, ks.zip ws⟩ _ _ _ E0 (hr.make C us (ks.zip ws)) (I2.env0.make C us (ks.zip ws)) bt (b.rel r2 rz) hq) fun r s' hq' => ?_))
  cases r with
  | error er => exact passL pins σ _ _ er s' I2 hq'
  | ok fl =>
    cases fl with
    | ret u =>
      obtain ⟨v, H2, os2, bare2, un2, hok2, rv, ev, q2⟩ := hq'
      subst ev
      have I3 : Inv X pins σ H2 s' := by
        obtain ⟨_, _, I', _, z⟩ := I2.after (Q := fun _ H' => H' = H2) ⟨_, H2, os2, bare2, un2, hok2, rv, rfl⟩
        exact z ▸ I'
      exact ⟨rv, .ref _, H2, I3, rfl, q2⟩
    | next => exact False.elim hq'
    | brk => exact False.elim hq'
    | cont => exact False.elim hq'
end
/-! the mirrors -/
def mMkE (c : Str) (fs : List Str) (n m : Nat) (sc : List Sc) (ma mk : As) : E := fun us M => (ma us M).bind fun x => (mk us x.2).bind fun z => if x.1.length = n ∧ z.1.length = m then
    match pures (bld sc x.1 [] z.1) with
    | some ws => if ws.length = fs.length then some (.p (.exc c (fldsX fs ws)), z.2) else none
    | none => none
  else none
def mMkE0 (c : Str) : E := fun _ M => some (.p (.exc c []), M)
/-- an exception class whose __init__ stores its parameters as fs, called with n positions and the keywords ks -/
structure XMk (P : Program) (w : World) (K : PySem.W.Frag) (mg : Str → Option Value) (base : Heap) (c : Str) (fs : List Str) (n : Nat) (ks : List Str) (sc : List Sc) : Prop where
  ex : ∃ (B newId initId : String) (bmB : List Value) (fd : FuncData) (ps : List Str) (sp : Sp) (scS : List Sc), ExcBaseFacts B newId initId bmB ∧ XcC K (ga K c) bmB newId ∧ XiC K (ga K c) (ma K (ga K c) "__init__") ∧ mg c = some (.ref (ga K c)) ∧ FnOk P w K mg base (L2.CX P w) 1 (ma K (ga K c) "__init__") fd ps sp ∧ KdR K fd ps (n + 1) ks scS [] ∧
    (∀ (a : V) (us ws : List V), bld scS (a :: us) [] ws = a :: bld sc us [] ws) ∧ ((∃ f, fs = [f] ∧ sp = spX1 (ga K c) f) ∨ ∃ f g, fs = [f, g] ∧ sp = spX2 (ga K c) f g)
section
variable {K : PySem.W.Frag} {F H : Hp} {ρ : List Addr} {M : Mm}
theorem exo_nt {a C : Addr} {d : Option Addr} : ∀ ps, exo a C d ≠ .tbl ps := fun ps z => by unfold exo at z; cases z
theorem exd_nt {dx : Addr} {fs : List (Str × V)} : ∀ ps, exd dx fs ≠ .tbl ps := fun ps z => by unfold exd at z; cases z
/-- two new read-only objects: an exception and its dict -/
theorem Sr.newExc (s : Sr K F ρ H M) {a dx C : Addr} {fs : List (Str × V)} (ha : H a = none) (hd : H dx = none) (hne : dx ≠ a) :
    Sr K (upd (upd F dx (exd dx fs)) a (exo a C (some dx))) ρ (upd (upd H dx (exd dx fs)) a (exo a C (some dx))) M ∧ Go F ρ H (upd (upd F dx (exd dx fs)) a (exo a C (some dx))) ρ (upd (upd H dx (exd dx fs)) a (exo a C (some dx))) ∧ Same F (upd (upd F dx (exd dx fs)) a (exo a C (some dx))) := by
  obtain ⟨s1, m1⟩ := s.newF (o := exd dx fs) hd exd_nt
  have g1 := s.goF (o := exd dx fs) hd
  have ha1 : upd H dx (exd dx fs) a = none := by rw [upd_ne (Ne.symm hne)]; exact ha
  obtain ⟨s2, m2⟩ := s1.newF (o := exo a C (some dx)) ha1 exo_nt
  exact ⟨s2, g1.trans (s1.goF (o := exo a C (some dx)) ha1), m1.trans m2⟩
theorem exc_sp {c : Str} {fs : List Str} {sp : Sp} {us : List U} {vs : List V} {ws : List W} {a : Addr} {Q : VK} (hs : (∃ f, fs = [f] ∧ sp = spX1 (ga K c) f) ∨ ∃ f g, fs = [f, g] ∧ sp = spX2 (ga K c) f g) (sr : Sr K F ρ H M) (r : RUs K F ρ us vs) (hp : pures us = some ws) (hl : ws.length = fs.length) (ha : H a = none)
    (k : ∀ F' ρ' H' v, Go F ρ H F' ρ' H' → Sr K F' ρ' H' M → RU K F' ρ' (.p (.exc c (fldsX fs ws))) v → Q v H') : sp (.ref a :: vs) (upd H a (exo a (ga K c) none)) (fun v H2 => v = .non ∧ Q (.ref a) H2) E0 := by
  have rl := pures_rp hp r
  rcases hs with ⟨f, rfl, rfl⟩ | ⟨f, g, rfl, rfl⟩
  · match ws, hl, rl, k with
    | [w], _, ⟨v, r, ev, rw, er⟩, k =>
      subst ev er
      refine ⟨a, v, rfl, upd_same, fun dx hdx hne => ⟨rfl, ?_⟩⟩
      rw [upd_ne hne] at hdx
      rw [upd_mk]
      obtain ⟨s1, g1, m1⟩ := sr.newExc (C := ga K c) (fs := [(f, v)]) ha hdx hne
      exact k _ ρ _ _ g1 s1 ⟨a, rfl, .inr ⟨dx, [(f, v)], .inl upd_same, .inl (by rw [upd_ne hne, upd_same]), ⟨v, [], rfl, .inl (rw.mono m1), rfl⟩⟩⟩
  · match ws, hl, rl, k with
    | [w, w2], _, ⟨v, r, ev, rw, v2, r2, ev2, rw2, er⟩, k =>
      subst ev ev2 er
      refine ⟨a, v, v2, rfl, upd_same, fun dx hdx hne => ⟨rfl, ?_⟩⟩
      rw [upd_ne hne] at hdx
      rw [upd_mk2 hne]
      obtain ⟨s1, g1, m1⟩ := sr.newExc (C := ga K c) (fs := [(g, v2), (f, v)]) ha hdx hne
      exact k _ ρ _ _ g1 s1 ⟨a, rfl, .inr ⟨dx, [(g, v2), (f, v)], .inl upd_same, .inl (by rw [upd_ne hne, upd_same]), ⟨v2, _, rfl, .inl (rw2.mono m1), v, [], rfl, .inl (rw.mono m1), rfl⟩⟩⟩
end
section
variable {X : Cx} {K : PySem.W.Frag} {j n : Nat} {c x : Str} {fs ks : List Str} {sc : List Sc} {p pos : Pos} {e : Expr} {es : List Expr} {kws : List Keyword} {ma mk : As} {B newId initId : String} {bmB : List Value}
theorem ew_mkE (cm : XMk X.prog X.w X.K X.mg X.base c fs n ks sc) (hr : Room j X.A) (ha : AW X K (e :: es) ma) (hkw : KW X K kws mk) (hn : n ≤ 1000 := by decide) (hK : X.K = K := by rfl) (hg : Gl X c := by rfl) (hk : 2 ≤ j := by decide)
    (hall : (backToKw pos (keywordEach kws X.env)).all (·.1.isSome) = true := by rfl) (hks : (backToKw pos (keywordEach kws X.env)).filterMap (·.1) = ks := by rfl)
    (hdb : (c == ("__debug__" : Str)) = false := by decide)
    (he : starEach (e :: es) X.env = (false, eval e X.env) :: starEach es X.env := by rfl)
    (hpl : ((backTo pos (starEach (e :: es) X.env)).any (·.1) || (backToKw pos (keywordEach kws X.env)).any (·.1.isNone)) = false := by rfl) : EW X K (.Call (.Name c p) (e :: es) kws pos) (mMkE c fs n ks.length sc ma mk) := by
  subst hK
  obtain ⟨B, newId, initId, bmB, fd, ps, sp, scS, FB, TX, XI, m, F1, b, hsc, hsp⟩ := cm.ex
  refine ⟨fun pins s σ H Q I ⟨F0, ρ, us, M, u, M', sr, sv, hm, kk⟩ => ?_⟩
  obtain ⟨⟨y, M1⟩, e1, hm⟩ := bind2 hm
  obtain ⟨⟨z, M2⟩, e2, hm⟩ := bind2 hm
  refine wpAny_Call_Name_kw (ld_glob I hg m ?_ hdb)
  refine cw_gen (P := X.K.In) (first := []) (R := fun vs zs H2 => (vs.length = n ∧ zs.length = ks.length) ∧ ∀ a, H2 a = none → sp (.ref a :: bld sc vs [] zs) (upd H2 a (exo a (ga X.K c) none)) (fun v H3 => v = .non ∧ Q (.ref a) H3) E0) I (PySem.W.keeps_K TX.kC) he hall hks hpl ha hkw
    ⟨F0, ρ, us, M, y, M1, sr, sv, e1, fun F1 ρ1 H1 vs g1 sr1 r1 => ⟨F1, ρ1, us, M1, z, M2, sr1, sv.mono g1.sf g1.pre, e2, fun F2 ρ2 H2 zs g2 sr2 r2 => ?_⟩⟩
    fun vs zs us ws H2 s2 I2 r rz q => ⟨I2.kIn, call_XK FB TX XI.at_ XI.fn F1 (hr.mono hk) b I2 r rz q.1.1 q.1.2 (by omega) fun a han => by rw [hsc]; exact q.2 a han⟩
  dsimp only at hm
  split at hm
  · rename_i hl
    split at hm
    · rename_i ws hp
      split at hm
      · rename_i hl2
        cases hm
        have r1' := r1.mono g2.sf g2.pre
        refine ⟨⟨by rw [← rus_len r1']; exact hl.1, by rw [← rus_len r2]; exact hl.2⟩, fun a han => exc_sp hsp sr2 (bld_rus (ds := []) (dvs := []) r1' rfl r2 sc) hp hl2 han fun F' ρ' H' v g3 => kk F' ρ' H' v ((g1.trans g2).trans g3)⟩
      · cases hm
    · cases hm
  · cases hm
theorem ew_mkE_kw (cm : XMk X.prog X.w X.K X.mg X.base c fs n ks sc) (hr : Room j X.A) (hkw : KW X K kws mk) (hn : n ≤ 1000 := by decide) (hK : X.K = K := by rfl) (hg : Gl X c := by rfl) (hk : 2 ≤ j := by decide)
    (hall : (backToKw pos (keywordEach kws X.env)).all (·.1.isSome) = true := by rfl) (hks : (backToKw pos (keywordEach kws X.env)).filterMap (·.1) = ks := by rfl)
    (hdb : (c == ("__debug__" : Str)) = false := by decide)
    (hpl : ((backTo pos (starEach [] X.env)).any (·.1) || (backToKw pos (keywordEach kws X.env)).any (·.1.isNone)) = false := by rfl) : EW X K (.Call (.Name c p) [] kws pos) (mMkE c fs n ks.length sc mNil mk) := by
  subst hK
  obtain ⟨B, newId, initId, bmB, fd, ps, sp, scS, FB, TX, XI, m, F1, b, hsc, hsp⟩ := cm.ex
  refine ⟨fun pins s σ H Q I ⟨F0, ρ, us, M, u, M', sr, sv, hm, kk⟩ => ?_⟩
  obtain ⟨⟨y, M1⟩, e1, hm⟩ := bind2 hm
  obtain ⟨⟨z, M2⟩, e2, hm⟩ := bind2 hm
  cases e1
  refine wpAny_Call_Name_kw (ld_glob I hg m ?_ hdb)
  refine cw_gen0 (P := X.K.In) (first := []) (R := fun vs zs H2 => (vs.length = n ∧ zs.length = ks.length) ∧ ∀ a, H2 a = none → sp (.ref a :: bld sc vs [] zs) (upd H2 a (exo a (ga X.K c) none)) (fun v H3 => v = .non ∧ Q (.ref a) H3) E0) I (PySem.W.keeps_K TX.kC) hall hks hpl hkw
    ⟨F0, ρ, us, M, z, M2, sr, sv, e2, fun F2 ρ2 H2 zs g2 sr2 r2 => ?_⟩
    fun vs zs us ws H2 s2 I2 r rz q => ⟨I2.kIn, call_XK FB TX XI.at_ XI.fn F1 (hr.mono hk) b I2 r rz q.1.1 q.1.2 (by omega) fun a han => by rw [hsc]; exact q.2 a han⟩
  dsimp only at hm
  split at hm
  · rename_i hl
    split at hm
    · rename_i ws hp
      split at hm
      · rename_i hl2
        cases hm
        refine ⟨⟨hl.1, by rw [← rus_len r2]; exact hl.2⟩, fun a han => exc_sp hsp sr2 (bld_rus (us := []) (vs := []) (ds := []) (dvs := []) rfl rfl r2 sc) hp hl2 han fun F' ρ' H' v g3 => kk F' ρ' H' v (g2.trans g3)⟩
      · cases hm
    · cases hm
  · cases hm
/-- C(), no own __init__ -/
theorem pe_mkE0 {C : Addr} (FB : ExcBaseFacts B newId initId bmB) (q : PySem.W.excIn X.K C bmB newId = true) (gC : X.mg x = some (.ref C)) (kC : PySem.W.keepIn X.K (.ref C) = true) (hg : Gl X x)
    (hdb : (x == ("__debug__" : Str)) = false := by decide) : PE X (.Call (.Name x p) [] [] pos) (fun σ H Q => ∀ a, H a = none → Q (.ref a) (upd H a (exo a C none))) := by
  refine ⟨fun pins s σ H Q I h => ?_⟩
  refine wpAny_Call_Name_kw (ld_glob I hg gC ?_ hdb)
  refine PySem.W.callWith_K0 I.kIn kC ?_
  obtain ⟨bm, N, nm, qn, bs, hdct, sn, sub, ab, col, dd, k0, k1, k2, k3, k5, mN, hC, hN, hni, T⟩ := exc_obj I.kIn q
  refine wpAny_call_exc_subT FB T hC hN hni (fun h' a hm => ?_) (by show 0 ≤ sizeLine; exact Nat.zero_le _)
  have hn : H a = none := I.hok.gone hm.new
  obtain ⟨t, ht, _, _⟩ := hm.there
  exact ⟨.ref a, upd H a (exo a C none), I.laidN hm.keeps hm.new hn (exo_ok ht), rfl, h a hn⟩
theorem ew_mkE0 (T : XR0 X.K X.mg c) (hK : X.K = K := by rfl) (hg : Gl X c := by rfl) (hdb : (c == ("__debug__" : Str)) = false := by decide) : EW X K (.Call (.Name c p) [] [] pos) (mMkE0 c) := by
  subst hK
  obtain ⟨B, newId, initId, bmB, FB, q, R, m⟩ := T.ex
  refine (pe_mkE0 FB q m R.kp hg hdb).weak fun σ H Q ⟨F, ρ, us, M, u, M', sr, sv, hm, k⟩ a ha => ?_
  cases hm
  obtain ⟨s1, m1⟩ := sr.newF (o := exo a (ga X.K c) none) ha exo_nt
  exact k _ ρ _ _ (sr.goF (o := exo a (ga X.K c) none) ha) s1 ⟨a, rfl, .inl ⟨rfl, .inl upd_same⟩⟩
end
end Pz
/-! ### repr of lists and tuples that hold own instances, at any depth: the walk -/
namespace Pz
open PySem PySem.Spec PyProof.Rows L2 He Rt
abbrev lim : Nat := 400000
def leafV : V → Option Str
  | .non => some "None"
  | .bl b => some (if b then "True" else "False")
  | .int i => if i.natAbs.log2 < 1920 then some (intStr i) else none
  | .str x => some (reprText x)
  | _ => none
def repVs (rep : V → Hp → (Str → Hp → Prop) → Prop) : Nat → List V → Hp → (List Str → Hp → Prop) → Prop
  | _, [], H, k => k [] H
  | m, y :: ys, H, k => rep y H fun t H' => m + (t.length + 2) ≤ lim ∧ repVs rep (m + (t.length + 2)) ys H' fun ts H'' => k (t :: ts) H''
def repV (P : Program) (w : World) (C : Addr) (sp : Sp) : Nat → List Addr → V → Hp → (Str → Hp → Prop) → Prop
  | 0, _, _, _, _ => False
  | n + 1, anc, y, H, k =>
    (∃ t, leafV y = some t ∧ t.length ≤ lim ∧ k t H) ∨
    (∃ b dx fs, y = .ref b ∧ H b = some (.ins C dx fs) ∧ sp [y] H (fun v H1 => ∃ t, v = .str t ∧ k t H1) E0) ∨
    (∃ d, DatY H y d ∧ (d.showable = true ∧ d.depth ≤ 20 ∧ d.shown.length ≤ lim) ∧ (∀ a ∈ anc, ∀ h, HOk P w H h → ∀ d' as, Reads h (.ref a) d' as → d.depth < d'.depth) ∧ k d.shown H) ∨
    (∃ b zs, y = .ref b ∧ H b = some (.tup zs) ∧ b ∉ anc ∧ repVs (repV P w C sp n (b :: anc)) 0 zs H fun ts H' => k (tupleText ts) H') ∨
    (∃ b z zs, y = .ref b ∧ H b = some (.lst (z :: zs)) ∧ b ∉ anc ∧ repVs (fun y H k => repV P w C sp n (b :: anc) y H fun t H' => H' b = some (.lst (z :: zs)) ∧ k t H') 0 (z :: zs) H fun ts H' => k (listText ts) H')
theorem leafV_is {prog : Program} {w : World} {y : V} {v : Value} {t : Str} (h : leafV y = some t) (hl : t.length ≤ lim) (r : RelV y v) : ReprIs prog w v t := by
  cases y with
  | non => cases (show v = Value.none from r); cases h; exact ReprIs.none
  | bl b => cases (show v = Value.bool b from r); cases h; exact ReprIs.bool b
  | int i =>
    obtain ⟨tk, rfl⟩ := (show ∃ t, v = Value.int i t from r)
    have h := (show (if i.natAbs.log2 < 1920 then some (intStr i) else none) = some t from h)
    split at h
    · rename_i hz
      cases h
      exact ReprIs.int tk hz
    · cases h
  | str x =>
    obtain ⟨tk, rfl⟩ := (show ∃ t, v = Value.str x t from r)
    have h := (show some (reprText x) = some t from h)
    cases h
    exact ReprIs.str x tk (by rw [sizeLine_eq]; have : lim = 400000 := rfl; omega)
  | _ => cases h
theorem textFrom_le : ∀ (ts : List Str) (k : Nat) (acc : Str), (textFrom k acc ts).length ≤ acc.length + piled ts
  | [], k, acc => by show acc.length ≤ _; omega
  | t :: r, k, acc => by
    have h := textFrom_le r (k + 1) (acc ++ (if k > 0 then ", " else "" : String) ++ t)
    have e : (acc ++ (Str.ofString (if k > 0 then ", " else "" : String)) ++ t).length ≤ acc.length + 2 + t.length := by
      rw [strLen_append, strLen_append]
      split
      · have : (Str.ofString ", ").length = 2 := by decide +kernel
        omega
      · have : (Str.ofString "").length = 0 := by decide +kernel
        omega
    show (textFrom (k + 1) (acc ++ (if k > 0 then ", " else "" : String) ++ t) r).length ≤ _
    rw [piled_cons]
    exact Nat.le_trans h (by
      have e' : (acc ++ (if k > 0 then ", " else "" : String) ++ t).length ≤ acc.length + 2 + t.length := e
      omega)
theorem listText_le (ts : List Str) : (listText ts).length ≤ piled ts + 2 := by
  have h := textFrom_le ts 0 "["
  have e : (listText ts).length = (textFrom 0 "[" ts).length + 1 := by
    show (textFrom 0 "[" ts ++ "]").length = _
    rw [strLen_append]; rfl
  have e1 : ("[" : Str).length = 1 := by decide +kernel
  omega
section
variable {X : Cx} {σ : L2.St}
/-- the items of a tuple, one by one -/
theorem rep_fold {A : Around} {b0 : Nat} {rep : V → Hp → (Str → Hp → Prop) → Prop} {pins : List (Addr × Obj)}
    (hrep : ∀ (base : Nat) (y : V) (v : Value) (s : Shared) (H : Hp) (k : Str → Hp → Prop) (Q : Str → Shared → Prop), base ≤ b0 + lim + 1 → RelV y v → Inv X pins σ H s → rep y H k → (∀ t s' H', Inv X pins σ H' s' → k t H' → Q t s') → wpAny (model X.prog X.w) A (pyReprUnder base v) Q X.xe s) :
    ∀ (ys : List V) (l : List Value) (acc : Array Str) (m : Nat) (s : Shared) (H : Hp) (K' : List Str → Hp → Prop) (R : (Array Str × Nat) → Shared → Prop), Vals ys l → Inv X pins σ H s → m ≤ lim → repVs rep m ys H K' →
    (∀ ts s' H', ts.length = ys.length → m + piled ts ≤ lim → Inv X pins σ H' s' → K' ts H' → R ⟨acc ++ ts.toArray, b0 + m + piled ts⟩ s') → wpAny (model X.prog X.w) A (forIn l (⟨acc, b0 + m⟩ : Array Str × Nat) tupBody) R X.xe s
  | [], _, acc, m, s, H, K', R, r, I, hm, hp, h => by
    cases r
    have h0 := h [] s H rfl hm I hp
    simp only [List.forIn_nil]
    exact wpAny_pure (by simpa [piled] using h0)
  | y :: ys, _, acc, m, s, H, K', R, r, I, hm, hp, h => by
    cases r with
    | @cons _ v _ l r0 r1 =>
      rw [List.forIn_cons]
      refine wpAny_bind ?_
      show wpAny _ _ (do let t ← pyReprUnder (b0 + m + 1) v; pure (ForInStep.yield (⟨acc.push t, b0 + m + (t.length + 2)⟩ : Array Str × Nat))) _ _ _
      refine wpAny_bind (hrep _ y v s H _ _ (by omega) r0 I hp fun t s' H' I' hk => wpAny_pure ?_)
      rw [Nat.add_assoc b0]
      refine rep_fold hrep ys l (acc.push t) (m + (t.length + 2)) s' H' _ R r1 I' hk.1 hk.2 fun ts s2 H2 e1 e2 I2 hk2 => ?_
      have h1 := h (t :: ts) s2 H2 (by simp [e1]) (by rw [piled_cons]; omega) I2 hk2
      have e : b0 + m + piled (t :: ts) = b0 + (m + (t.length + 2)) + piled ts := by rw [piled_cons]; omega
      rw [e] at h1
      simpa using h1
theorem vals_nth : ∀ {vs : List V} {us : List Value} {i : Nat} {y : V}, Vals vs us → vs[i]? = some y → ∃ u, us[i]? = some u ∧ RelV y u
  | _, _, 0, y, .cons h _, e => by cases e; exact ⟨_, rfl, h⟩
  | _, _, i + 1, y, .cons _ h, e => by
    obtain ⟨u, e1, r⟩ := vals_nth (i := i) h (by simpa using e)
    exact ⟨u, by simpa using e1, r⟩
/-- the items of a list, turn by turn -/
theorem rep_loop {A : Around} {b0 : Nat} {a P : Addr} {zs : List V} {rep : V → Hp → (Str → Hp → Prop) → Prop} {pins : List (Addr × Obj)} (hne : a ≠ P) (hb : b0 + lim + 10 ≤ sizeLine)
    (hrep : ∀ (rest : List Value) (pins : List (Addr × Obj)) (base : Nat) (y : V) (v : Value) (s : Shared) (H : Hp) (k : Str → Hp → Prop) (Q : Str → Shared → Prop), base ≤ b0 + lim + 1 → RelV y v → Inv X pins σ H s → rep y H k → (∀ t s' H', Inv X pins σ H' s' → k t H' → Q t s') → wpAny (model X.prog X.w) (A.under (.builtin "list.__repr__.loop" ⟨.ref a :: rest, []⟩)) (pyReprUnder base v) Q X.xe s)
    (hP1 : P ≠ X.env.locals) (hP2 : P ∉ X.fs) (hP3 : X.s_0.heap.objs.size ≤ P) (hP4 : ∀ x c, X.env.cells.lookup x = some c → c ≠ P) (hP5 : ∀ p ∈ X.pn ++ pins, p.1 ≠ P) {R : Result → Shared → Prop} (hE : ∀ e s', X.xe e s' → R (.error e) s') :
    ∀ (ys : List V) (i m : Nat) (done : List (Str × Tok)) (acc : Array Value) (c : Nat) (s : Shared) (H : Hp) (K' : List Str → Hp → Prop), zs.drop i = ys → Inv X pins σ H s → H a = some (.lst zs) → H P = none → s.heap.get? P = some { cls := .type "list", dict := none, data := .seq acc c, slots := #[] } → acc.toList = strValues done → done.length = i → i ≤ zs.length → m = piled (done.map (·.1)) → m ≤ lim →
    repVs (fun y H k => rep y H fun t H' => H' a = some (.lst zs) ∧ k t H') m ys H K' →
    (∀ ts s' H' u, m + piled ts ≤ lim → Inv X pins σ H' s' → K' ts H' → R (.ok (.ret (.str (listText (done.map (·.1) ++ ts)) u))) s') →
    codeAny (model X.prog X.w) A (.builtin "list.__repr__.loop" ⟨[.ref a, rawInt i, .ref P, rawInt ((b0 + m : Nat) : Int)], []⟩) R s := by
  intro ys
  induction ys with
  | nil =>
    intro i m done acc c s H K' hd I ea hn hP hacc hdl hil hm hml hp hR
    have hiz : zs.length ≤ i := by
      have := congrArg List.length hd
      rw [List.length_drop, List.length_nil] at this
      omega
    obtain ⟨_, its, n, rv, ho⟩ := (show ObjOk X.prog X.w H s.heap a (.lst zs) from I.hok a _ ea)
    have il : its.length = zs.length := rv.length.symm
    refine codeAny_builtin F.entry_list_repr_loop ?_
    show wpAny _ _ (Builtin.«list.__repr__.loop» ⟨[.ref a, .int i 0, .ref P, .int ((b0 + m : Nat) : Int) 0], []⟩) _ _ s
    rw [repr_loop_tree]
    refine wpAny_bind (wpAny_listItems ho rfl ?_)
    have hnone : its.toArray[(i : Int).toNat]? = none := by simp; omega
    simp only [hnone]
    unfold reprEnd
    refine wpAny_bind (wpAny_listItems hP rfl ?_)
    rw [hacc, repr_fold]
    refine wpAny_bind (wpAny_pure ?_)
    have hz := listText_le (done.map (·.1))
    have h1 := hR [] { s with toks := s.toks + 1 } H s.toks (by rw [piled_nil]; omega) (I.tok _) hp
    rw [List.append_nil] at h1
    exact wpAny_bind (wpAny_mkStr (wpAny_pure h1) (by show (listText (done.map (·.1))).length ≤ sizeLine; omega))
  | cons y ys ih =>
    intro i m done acc c s H K' hd I ea hn hP hacc hdl hil hm hml hp hR
    have hlt : i < zs.length := by
      have := congrArg List.length hd
      rw [List.length_drop, List.length_cons] at this
      omega
    have hy : zs[i]? = some y := by
      have := congrArg (fun l => l[0]?) hd
      simpa using this
    have hd2 : zs.drop (i + 1) = ys := by
      rw [← List.drop_drop, hd]
      rfl
    obtain ⟨hzl, its, n, rv, ho⟩ := (show ObjOk X.prog X.w H s.heap a (.lst zs) from I.hok a _ ea)
    obtain ⟨v, hv, r0⟩ := vals_nth rv hy
    refine codeAny_builtin F.entry_list_repr_loop ?_
    show wpAny _ _ (Builtin.«list.__repr__.loop» ⟨[.ref a, .int i 0, .ref P, .int ((b0 + m : Nat) : Int) 0], []⟩) _ _ s
    rw [repr_loop_tree]
    refine wpAny_bind (wpAny_listItems ho rfl ?_)
    have hsome : its.toArray[(i : Int).toNat]? = some v := by simpa using hv
    simp only [hsome]
    rw [Int.toNat_natCast]
    have Ip : Inv X ((P, { cls := .type "list", dict := none, data := .seq acc c, slots := #[] }) :: pins) σ H s := I.pins_of fun p hpm => by
      rcases List.mem_cons.mp hpm with rfl | hpm
      · exact ⟨hP, hn, hP1, hP2, fun _ z => by cases z⟩
      · exact I.pin p (List.mem_append_right _ hpm)
    refine wpAny_bind (wpAny_holding (wpAny_mono (hrep _ _ (b0 + m + 1) y v s H _ (fun t s' => wpAny (model X.prog X.w) (A.under (.builtin "list.__repr__.loop" ⟨[.ref a, .int i 0, .ref P, .int ((b0 + m : Nat) : Int) 0], []⟩)) (do
      let r ← mkStr t
      Builtin.List.listUpdate (.ref P) (·.push r)
      again (.builtin "list.__repr__.loop" ⟨[.ref a, rawInt ((i : Int) + 1), .ref P, rawInt ((b0 + m + (t.length + 2) : Nat) : Int)], []⟩)) (fun fin s' => match fin with | .done f => R (.ok f) s' | .again c' => c'.quiet = true ∧ codeAny (model X.prog X.w) A c' R s') (fun e s' => R (.error e) s') s') (by omega) r0 Ip hp fun t s' H' I' hk => ?_) (fun t s' h => h) fun e s' he => hE e s' he))
    obtain ⟨ea', hml', hp'⟩ := hk
    have pP := I'.pin _ (List.mem_append_right _ (List.mem_cons_self ..))
    have I1 : Inv X pins σ H' s' := I'.pins_of fun p hpm => I'.pin p (List.mem_append_right _ (List.mem_cons_of_mem _ hpm))
    refine wpAny_bind (wpAny_mkStr ?_ (by omega))
    refine wpAny_bind ?_
    show wpAny _ _ (updateSeq P _) _ _ _
    have hasz : acc.size ≤ sizeLine := by
      have e1 : acc.toList.length = acc.size := by simp
      have e2 : (strValues done).length = done.length := by simp [strValues]
      rw [hacc] at e1; omega
    refine wpAny_updateSeq pP.1 rfl (wpAny_pure ⟨F.quiet_list_repr_loop _, ?_⟩) hasz
    have e1 : ((i : Int) + 1) = ((i + 1 : Nat) : Int) := by omega
    rw [e1, Nat.add_assoc b0]
    have I2 : Inv X pins σ H' { s' with heap := s'.heap.update P (Obj.mapSeq (·.push (.str t s'.toks))), toks := s'.toks + 1 } :=
      I1.turned (it := P) (fun b o hb e => (Heap.get?_update_other _ _ (Ne.symm hb)).trans e) pP.2.1 hP1 (.inr hP3) hP4 hP5
    refine ih (i + 1) (m + (t.length + 2)) (done ++ [(t, s'.toks)]) (acc.push (.str t s'.toks)) _ _ H' _ hd2 I2 ea' pP.2.1 (Heap.get?_update_self _ pP.1 rfl) (by simp [hacc, strValues]) (by simp [hdl]) (by omega) (by rw [List.map_append, piled_append, ← hm]; simp [piled]) hml' hp' fun ts s2 H2 u hl2 I3 hk2 => ?_
    have := hR (t :: ts) s2 H2 u (by rw [piled_cons]; omega) I3 hk2
    simpa using this
end
end Pz
namespace Pz
open PySem PySem.Spec PyProof.Rows L2 He Rt
theorem depth_tup (A : Around) (args : Args) : (A.under (.builtin "tuple.__repr__" args)).depth = A.depth + 1 := by
  simp [Around.under]
  first | rfl | decide +kernel | kernel_rfl
theorem depth_tupU (A : Around) (args : Args) : (A.under (.builtin "tuple.__repr__.under" args)).depth = A.depth + 1 := by
  simp [Around.under]
  first | rfl | decide +kernel | kernel_rfl
theorem depth_lloop (A : Around) (args : Args) : (A.under (.builtin "list.__repr__.loop" args)).depth = A.depth + 1 := by
  simp [Around.under]
  first | rfl | decide +kernel | kernel_rfl
theorem frames_tup (A : Around) (args : Args) : (A.under (.builtin "tuple.__repr__" args)).frames = A.frames := by
  first | rfl | simp [Around.under]
theorem frames_tupU (A : Around) (args : Args) : (A.under (.builtin "tuple.__repr__.under" args)).frames = A.frames := by
  first | rfl | simp [Around.under]
theorem frames_lloop (A : Around) (args : Args) : (A.under (.builtin "list.__repr__.loop" args)).frames = A.frames := by
  first | rfl | simp [Around.under]
section
variable {X : Cx} {σ : L2.St}
/-- what the items' repr must do -/
def RepOk (X : Cx) (σ : L2.St) (A : Around) (b1 : Nat) (rep : V → Hp → (Str → Hp → Prop) → Prop) : Prop := ∀ (pins : List (Addr × Obj)) (base : Nat) (y : V) (v : Value) (s : Shared) (H : Hp) (k : Str → Hp → Prop) (Q : Str → Shared → Prop), base ≤ b1 → RelV y v → Inv X pins σ H s → rep y H k →
  (∀ t s' H', Inv X pins σ H' s' → k t H' → Q t s') → wpAny (model X.prog X.w) A (pyReprUnder base v) Q X.xe s
theorem tup_at {A : Around} {b0 : Nat} {a : Addr} {zs : List V} {pins : List (Addr × Obj)} {g : List Code} {rep : V → Hp → (Str → Hp → Prop) → Prop} {id : String} {rest : List Value} {s : Shared} {H : Hp} {K' : List Str → Hp → Prop} {R : Result → Shared → Prop}
    (hrep : RepOk X σ (A.under (.builtin id ⟨.ref a :: rest, []⟩)) (b0 + lim + 1) rep) (hg : A.guards = some g) (hca : Clear g a) (hb : b0 + lim + 10 ≤ sizeLine) (I : Inv X pins σ H s) (ea : H a = some (.tup zs)) (hp : repVs rep 0 zs H K') (hE : ∀ e s', X.xe e s' → R (.error e) s')
    (hR : ∀ ts s' H' u, piled ts ≤ lim → Inv X pins σ H' s' → K' ts H' → R (.ok (.ret (.str (tupleText ts) u))) s') :
    wpOwn (model X.prog X.w) A (.builtin id ⟨.ref a :: rest, []⟩) (Builtin.tupleReprAt b0 ⟨[.ref a], []⟩) (fun fin s' => match fin with | .done f => R (.ok f) s' | .again c' => c'.quiet = true ∧ codeAny (model X.prog X.w) A c' R s') (fun e s' => R (.error e) s') s := by
  obtain ⟨_, its, r, ⟨o, ho, hc, n, hd⟩⟩ := (show ObjOk X.prog X.w H s.heap a (.tup zs) from I.hok a _ ea)
  have il : its.length = zs.length := r.length.symm
  rw [tuple_repr_tree, tupleReprUnderWay_eq]
  refine wpOwn_bind (wpOwn_stackTailAny hg (tupGuardF_off _) (tupGuardF_pos _) ?_)
  have hn : (g.any fun c => tupGuardF (.ref a) (c, default)) = false := by
    rw [List.any_eq_false]
    intro c hcm
    rw [tupGuardF_of_clear hca c hcm]
    exact Bool.false_ne_true
  rw [hn]
  refine wpOwn_of_wpAny ?_
  show wpAny _ _ (tupleReprRest b0 (.ref a)) _ _ s
  unfold tupleReprRest Builtin.Tuple.tupleItemsOf
  refine wpAny_bind (wpAny_bind (wpAny_seqItems ho hd (wpAny_pure ?_)))
  rw [← Array.forIn_toList]
  refine wpAny_bind (wpAny_mono (rep_fold (b0 := b0) (fun base y v s H k Q => hrep pins base y v s H k Q) zs its #[] 0 s H K' (fun st s1 => wpAny (model X.prog X.w) _ _ _ _ s1) r I (by omega) hp fun ts s' H' e1 e2 I' hk => ?_) (fun _ _ h => h) fun e s' he => hE e s' he)
  have hlen : ts.length = its.toArray.size := by simp [e1, il]
  have hzl : (tupleText ts).length ≤ sizeLine := by
    have := tupleText_le ts
    omega
  refine wpAny_bind (wpAny_mkStr (wpAny_pure ?_) (by simpa [tupleText, hlen] using hzl))
  have fin := hR ts { s' with toks := s'.toks + 1 } H' s'.toks (by omega) (I'.tok _) hk
  simpa [tupleText, hlen] using fin
theorem list_at {A : Around} {b0 : Nat} {a : Addr} {z : V} {zs : List V} {pins : List (Addr × Obj)} {g : List Code} {rep : V → Hp → (Str → Hp → Prop) → Prop} {s : Shared} {H : Hp} {K' : List Str → Hp → Prop} {R : Result → Shared → Prop}
    (hrep : ∀ rest : List Value, RepOk X σ (A.under (.builtin "list.__repr__.loop" ⟨.ref a :: rest, []⟩)) (b0 + lim + 1) rep) (hg : A.guards = some g) (hca : Clear g a) (hb : b0 + lim + 10 ≤ sizeLine) (I : Inv X pins σ H s) (ea : H a = some (.lst (z :: zs)))
    (hp : repVs (fun y H k => rep y H fun t H' => H' a = some (.lst (z :: zs)) ∧ k t H') 0 (z :: zs) H K') (hE : ∀ e s', X.xe e s' → R (.error e) s')
    (hR : ∀ ts s' H' u, piled ts ≤ lim → Inv X pins σ H' s' → K' ts H' → R (.ok (.ret (.str (listText ts) u))) s') :
    wpAny (model X.prog X.w) A.in1 (Builtin.listReprAt b0 ⟨[.ref a], []⟩) (fun fin s' => match fin with | .done f => R (.ok f) s' | .again c' => c'.quiet = true ∧ codeAny (model X.prog X.w) A c' R s') (fun e s' => R (.error e) s') s := by
  obtain ⟨_, its, n, rv, ho⟩ := (show ObjOk X.prog X.w H s.heap a (.lst (z :: zs)) from I.hok a _ ea)
  cases rv with
  | @cons _ v _ l r0 r1 =>
    refine wpAny_list_repr_head (A := A.in1) hg (fun v rest kw hm => listSameRef_of_ne (hca _ _ _ _ hm)) ho rfl ?_
    refine wpAny_bind (m := newList []) (wpAny_newObj_type ?_)
    refine wpAny_pure ⟨F.quiet_list_repr_loop _, ?_⟩
    have lt : ∀ {b : Addr} {o : Obj}, s.heap.get? b = some o → b ≠ s.heap.objs.size := fun e => Nat.ne_of_lt (Heap.lt_size e)
    refine rep_loop (b0 := b0) (a := a) (P := s.heap.objs.size) (pins := pins) (rep := rep) (lt ho) hb (fun rest pins base y v s H k Q => hrep rest pins base y v s H k Q) (Ne.symm (Nat.ne_of_lt I.lt)) (I.nofs (Nat.le_refl _)) I.sz (fun x c e => ?_) (fun p hpm => lt (I.pin p hpm).1) hE (z :: zs) 0 0 [] #[] _ _ H _ rfl (I.kept (t' := s.toks) fun b o e => Heap.get?_push_of_some _ e) ea (I.hok.fresh (Nat.le_refl _)) (Heap.get?_push_size _ rfl) rfl rfl (Nat.zero_le _) rfl (Nat.zero_le _) hp fun ts s' H' u hl I' hk => hR ts s' H' u (by omega) I' hk
    obtain ⟨v, hc⟩ := I.cell x c e
    obtain ⟨o, ho2, _⟩ := hc
    exact lt ho2
/-- the class shows itself by sp, or no instance is shown at all -/
def OwnR (X : Cx) (k : Nat) (C : Addr) (sp : Sp) : Prop := SmB X.prog X.w X.K X.mg X.base k C "__repr__" sp ∨ ∀ vs H Q E, ¬ sp vs H Q E
theorem rep_ok {k : Nat} {C : Addr} {sp : Sp} (c : OwnR X k C sp) : ∀ (n : Nat) (anc : List Addr) {A : Around} {g : List Code} {b1 : Nat}, RoomB (k + n + 1) A → A.frames = X.A.frames → A.guards = some g → (∀ b, b ∉ anc → Clear g b) → b1 + n * (lim + 20) ≤ sizeLine → RepOk X σ A b1 (repV X.prog X.w C sp n anc)
  | 0, _, _, _, _, _, _, _, _, _ => fun _ _ _ _ _ _ _ _ _ _ _ h => h.elim
  | n + 1, anc, A, g, b1, hr, fr, hg, hcl, hb => fun pins base y v s H K' Q hbase r0 I hp hQ => by
    have hl : lim = 400000 := rfl
    have hz := sizeLine_eq
    have hmul : (n + 1) * (lim + 20) = n * (lim + 20) + (lim + 20) := Nat.succ_mul _ _
    have hun := hr.un
    rcases hp with ⟨t, ht, hl2, hk⟩ | ⟨b, dx, fs, rfl, eb, q⟩ | ⟨d, hdz, ⟨hs, hdp, hl2⟩, hanc, hk⟩ | ⟨b, zs, rfl, eb, hna, hvs⟩ | ⟨b, z, zs, rfl, eb, hna, hvs⟩
    · exact leafV_is ht hl2 r0 base (by omega) _ _ _ _ fun tk => hQ t _ H (I.tok tk) hk
    · obtain rfl : v = Value.ref b := r0
      rcases c with c | c
      case inr => exact absurd q (c _ _ _ _)
      obtain ⟨f, fd, ps, F, hs, hf, kp, bb⟩ := c.ex
      obtain ⟨od, J⟩ := ins_at I eb
      refine reprUnder_K (by omega) (by omega) I.kIn J hs hf (thn (run_atB (vs := [.ref b]) (hr.mono (by omega)) fr F bb passL I (.cons rfl .nil) q) fun w s' hw => ?_)
      obtain ⟨z, H', I', rz, t, rfl, hp1⟩ := hw
      obtain ⟨tk, rfl⟩ := (show ∃ t', w = Value.str t t' from rz)
      exact ⟨t, tk, rfl, hQ t _ H' I' hp1⟩
    · obtain ⟨as, rd, hsm⟩ := reads_Y I hdz r0
      obtain ⟨bs, hbs, hkk⟩ := ReprK.of_reads (prog := X.prog) (w := X.w) rd hs hsm (by omega)
      refine hkk base (by omega) A g _ s Q hg (fun b hb' => hcl b fun hm => ?_) (by omega) (fun _ _ e => e) fun h' tk hk2 => hQ d.shown _ H (I.kept (t' := tk) hk2) hk
      obtain ⟨d', as', r', hd'⟩ := hbs b hb'
      have := hanc b hm s.heap I.hok d' as' r'
      omega
    · obtain rfl : v = Value.ref b := r0
      obtain ⟨_, its, r, ⟨o, ho, hc, nn, hd⟩⟩ := (show ObjOk X.prog X.w H s.heap b (.tup zs) from I.hok b _ eb)
      refine wpAny_pyReprUnder_ref (by omega) (wpAny_pyReprObjUnder_twin (twin := "tuple.__repr__.under") ⟨o, ho, hc⟩ F.slot_tuple_repr rfl (by omega) (call_twin_own (F.quiet_tuple_repr_under _) F.entry_tuple_repr_under F.check_tuple_repr_under ⟨o, ho, hc⟩ F.slot_tuple_repr (F.args_tuple_repr_1 _) ?_))
      refine tup_at (R := callEnd _ _) (rep := repV X.prog X.w C sp n (b :: anc)) (rep_ok c n (b :: anc) (g := .builtin "tuple.__repr__.under" ⟨[.ref b, rawInt base], []⟩ :: g) ⟨by rw [depth_tupU]; have := hr.dp; omega, by rw [units_under_tuple_repr_under]; omega⟩ ((frames_tupU _ _).trans fr) (guards_under_guard (isGuard_tuple_repr_under _) hg) (fun b' hb' => (hcl b' fun hm => hb' (List.mem_cons_of_mem _ hm)).cons fun e => hb' (e ▸ List.mem_cons_self ..)) (by omega)) hg (hcl b hna) (by omega) I eb hvs (fun e s' h => h) fun ts s' H' u hl3 I' hk => ⟨⟨_, _, rfl⟩, _, _, rfl, hQ _ _ H' I' hk⟩
    · obtain rfl : v = Value.ref b := r0
      obtain ⟨_, its, nn, rv, ho⟩ := (show ObjOk X.prog X.w H s.heap b (.lst (z :: zs)) from I.hok b _ eb)
      refine wpAny_pyReprUnder_ref (by omega) (wpAny_pyReprObjUnder_twin (twin := "list.__repr__.under") ⟨_, ho, rfl⟩ F.slot_list_repr.toG rfl (by omega) (call_twin_plain F.plain_list_repr_under F.entry_list_repr_under F.check_list_repr_under ⟨_, ho, rfl⟩ F.slot_list_repr.toG (F.args_list_repr_1 _) ?_))
      refine list_at (R := callEnd _ _) (rep := repV X.prog X.w C sp n (b :: anc)) (fun rest => rep_ok c n (b :: anc) (g := .builtin "list.__repr__.loop" ⟨.ref b :: rest, []⟩ :: g) ⟨by rw [depth_lloop]; have := hr.dp; omega, by rw [units_under_list_loop]; omega⟩ ((frames_lloop _ _).trans fr) (guards_under_guard (isGuard_list_loop _) hg) (fun b' hb' => (hcl b' fun hm => hb' (List.mem_cons_of_mem _ hm)).cons fun e => hb' (e ▸ List.mem_cons_self ..)) (by omega)) hg (hcl b hna) (by omega) I eb hvs (fun e s' h => h) fun ts s' H' u hl3 I' hk => ⟨⟨_, _, rfl⟩, _, _, rfl, hQ _ _ H' I' hk⟩
end
/-- repr(x), x a list or a tuple -/
def rReprV (P : Program) (w : World) (C : Addr) (sp : Sp) : List V → Hp → VK → Prop := fun xs H Q => ∃ a, xs = [.ref a] ∧ ((∃ zs, H a = some (.tup zs) ∧ repVs (repV P w C sp 25 [a]) 0 zs H fun ts H' => Q (.str (tupleText ts)) H') ∨
  ∃ z zs, H a = some (.lst (z :: zs)) ∧ repVs (fun y H k => repV P w C sp 25 [a] y H fun t H' => H' a = some (.lst (z :: zs)) ∧ k t H') 0 (z :: zs) H fun ts H' => Q (.str (listText ts)) H')
theorem call_reprV {X : Cx} {k : Nat} {C : Addr} {sp : Sp} (c : OwnR X k C sp) (hG : X.A.guards = some []) (hr : RoomB (k + 28) X.A) : CallR X (.builtin "repr") (rReprV X.prog X.w C sp) := by
  intro pins s σ H xs us Q I r h
  have hl : lim = 400000 := rfl
  have hz := sizeLine_eq
  obtain ⟨a, rfl, h⟩ := h
  have e := Vals.ref1 r
  subst e
  have hr1 := RoomB.in1 hr
  have hun := hr1.un
  have hdp := hr1.dp
  have hc0 : ∀ b, b ∉ ([a] : List Addr) → Clear [] b := fun b _ => Clear.nil b
  rcases h with ⟨zs, ea, hvs⟩ | ⟨z, zs, ea, hvs⟩
  · obtain ⟨_, its, _, ⟨o, ho, hc, n, hd⟩⟩ := (show ObjOk X.prog X.w H s.heap a (.tup zs) from I.hok a _ ea)
    refine call_repr_slot (T := "tuple") (idr := "tuple.__repr__") (by have := hr.un; omega) ⟨o, ho, hc⟩ F.slot_tuple_repr ?_
    refine wpAny_call (codeAny_call_builtin_own (Code.quiet_builtin _ (by decide +kernel)) F.entry_tuple_repr (F.slot_tuple_repr.check _ _ _ _ _ _ _ _ ⟨o, ho, hc⟩ (F.args_tuple_repr_1 _) ?_))
    exact tup_at (A := X.A.in1) (b0 := 0) (R := callEnd _ _) (rep := repV X.prog X.w C sp 25 [a]) (rep_ok c 25 [a] (g := [.builtin "tuple.__repr__" ⟨[.ref a], []⟩]) ⟨by rw [depth_tup]; omega, by rw [units_under_tuple_repr]; omega⟩ ((frames_tup _ _).trans rfl) (guards_under_guard (isGuard_tuple_repr _) hG) (fun b hb => (hc0 b hb).cons fun e => hb (e ▸ List.mem_cons_self ..)) (by omega)) hG (Clear.nil a) (by omega) I ea hvs (fun e s' h => h) fun ts s' H' u hl3 I' hk => ⟨_, _, rfl, .str (tupleText ts), H', I', ⟨_, rfl⟩, hk⟩
  · obtain ⟨_, its, nn, rv, ho⟩ := (show ObjOk X.prog X.w H s.heap a (.lst (z :: zs)) from I.hok a _ ea)
    refine call_repr_slot (T := "list") (idr := "list.__repr__") (by have := hr.un; omega) ⟨_, ho, rfl⟩ F.slot_list_repr.toG ?_
    refine wpAny_call (codeAny_call_builtin F.slot_list_repr.plain F.entry_list_repr (F.slot_list_repr.check _ _ _ _ _ _ _ _ ⟨_, ho, rfl⟩ (F.args_list_repr_1 _) ?_))
    exact list_at (A := X.A.in1) (b0 := 0) (R := callEnd _ _) (rep := repV X.prog X.w C sp 25 [a]) (fun rest => rep_ok c 25 [a] (g := [.builtin "list.__repr__.loop" ⟨.ref a :: rest, []⟩]) ⟨by rw [depth_lloop]; omega, by rw [units_under_list_loop]; omega⟩ ((frames_lloop _ _).trans rfl) (guards_under_guard (isGuard_list_loop _) hG) (fun b hb => (hc0 b hb).cons fun e => hb (e ▸ List.mem_cons_self ..)) (by omega)) hG (Clear.nil a) (by omega) I ea hvs (fun e s' h => h) fun ts s' H' u hl3 I' hk => ⟨_, _, rfl, .str (listText ts), H', I', ⟨_, rfl⟩, hk⟩
end Pz
/-! ### repr of lists and tuples that hold own instances, at any depth: the mirror -/
namespace Pz
open PySem PySem.Spec PyProof.Rows L2 He Rt
mutual
/-- what the mirror shows -/
def okR : W → Bool
  | .non => true
  | .bl _ => true
  | .int _ => true
  | .str _ => true
  | .tup ws => okRs ws
  | .lst ws => okRs ws
  | .dic kvs => (datKW kvs).isSome
  | .ins _ _ => true
  | _ => false
def okRs : List W → Bool
  | [] => true
  | w :: ws => okR w && okRs ws
end
mutual
def depR : W → Nat
  | .tup ws => depRs ws + 1
  | .lst ws => depRs ws + 1
  | .dic _ => 1
  | _ => 0
def depRs : List W → Nat
  | [] => 0
  | w :: ws => max (depR w) (depRs ws)
end
def leafWV : W → Option Str
  | .non => some "None"
  | .bl b => some (if b then "True" else "False")
  | .int i => if i.natAbs.log2 < 1920 then some (intStr i) else none
  | .str x => some (reprText x)
  | _ => none
def okZ (d : PyData) : Bool := d.showable && (decide (d.depth ≤ 20) && decide (d.shown.length ≤ lim))
def repWs (f : W → Mm → Option (Str × Mm)) : Nat → List W → Mm → Option (List Str × Mm)
  | _, [], M => some ([], M)
  | m, w :: ws, M => (f w M).bind fun x => if m + (x.1.length + 2) ≤ lim then (repWs f (m + (x.1.length + 2)) ws x.2).map fun r => (x.1 :: r.1, r.2) else none
def repW (c : Str) (g : FA) : Nat → W → Mm → Option (Str × Mm)
  | 0, _, _ => none
  | n + 1, w, M => match leafWV w with
    | some t => if t.length ≤ lim then some (t, M) else none
    | none => match datYW w with
      | some d => if okZ d = true then some (d.shown, M) else none
      | none => match w with
        | .ins c' fs => if c' = c then (g [.p (.ins c' fs)] M).bind fun y => match y.1 with
            | .p (.str t) => some (t, y.2)
            | _ => none
          else none
        | .tup ws => (repWs (repW c g n) 0 ws M).map fun r => (tupleText r.1, r.2)
        | .lst (z :: ws) => (repWs (repW c g n) 0 (z :: ws) M).map fun r => (listText r.1, r.2)
        | _ => none
def repAll (c : Str) (g : FA) : FA := fun us M => match us with
  | [.p (.tup ws)] => if okRs ws = true then (repWs (repW c g 25) 0 ws M).map fun x => (.p (.str (tupleText x.1)), x.2) else none
  | [.p (.lst (z :: ws))] => if okRs (z :: ws) = true then (repWs (repW c g 25) 0 (z :: ws) M).map fun x => (.p (.str (listText x.1)), x.2) else none
  | _ => none
section
variable {K : PySem.W.Frag}
theorem okRs_cons {w : W} {ws : List W} (h : okRs (w :: ws) = true) : okR w = true ∧ okRs ws = true := by
  unfold okRs at h
  simpa using h
mutual
theorem dep_eq {F : Hp} : ∀ {w w' : W} {v : V}, okR w = true → okR w' = true → Rp K F w v → Rp K F w' v → depR w = depR w'
  | .non, w', v, h, h', r, r' => by cases r; cases w' <;> first | rfl | (obtain ⟨_, _, z, _⟩ := r'; cases z) | (obtain ⟨_, _, _, z, _⟩ := r'; cases z) | cases h'
  | .bl _, w', v, h, h', r, r' => by cases r; cases w' <;> first | rfl | (obtain ⟨_, _, z, _⟩ := r'; cases z) | (obtain ⟨_, _, _, z, _⟩ := r'; cases z) | cases h'
  | .int _, w', v, h, h', r, r' => by cases r; cases w' <;> first | rfl | (obtain ⟨_, _, z, _⟩ := r'; cases z) | (obtain ⟨_, _, _, z, _⟩ := r'; cases z) | cases h'
  | .str _, w', v, h, h', r, r' => by cases r; cases w' <;> first | rfl | (obtain ⟨_, _, z, _⟩ := r'; cases z) | (obtain ⟨_, _, _, z, _⟩ := r'; cases z) | cases h'
  | .tup ws, w', v, h, h', r, r' => by
    obtain ⟨a, vs, rfl, f, q⟩ := r
    cases w' with
    | tup ws' =>
      obtain ⟨b, us, e, f', q'⟩ := r'
      cases e
      rw [f] at f'
      cases f'
      show depRs ws + 1 = depRs ws' + 1
      rw [deps_eq h h' q q']
    | lst ws' => obtain ⟨b, us, e, f', q'⟩ := r'; cases e; rw [f] at f'; cases f'
    | dic ws' => obtain ⟨b, us, e, f', q'⟩ := r'; cases e; rw [f] at f'; cases f'
    | ins c fs => obtain ⟨b, dx, us, e, f', q'⟩ := r'; cases e; rw [f] at f'; cases f'
    | non => cases r'
    | bl _ => cases r'
    | int _ => cases r'
    | str _ => cases r'
    | _ => cases h'
  | .lst ws, w', v, h, h', r, r' => by
    obtain ⟨a, vs, rfl, f, q⟩ := r
    cases w' with
    | lst ws' =>
      obtain ⟨b, us, e, f', q'⟩ := r'
      cases e
      rw [f] at f'
      cases f'
      show depRs ws + 1 = depRs ws' + 1
      rw [deps_eq h h' q q']
    | tup ws' => obtain ⟨b, us, e, f', q'⟩ := r'; cases e; rw [f] at f'; cases f'
    | dic ws' => obtain ⟨b, us, e, f', q'⟩ := r'; cases e; rw [f] at f'; cases f'
    | ins c fs => obtain ⟨b, dx, us, e, f', q'⟩ := r'; cases e; rw [f] at f'; cases f'
    | non => cases r'
    | bl _ => cases r'
    | int _ => cases r'
    | str _ => cases r'
    | _ => cases h'
  | .dic kvs, w', v, h, h', r, r' => by
    obtain ⟨a, vs, rfl, f, q⟩ := r
    cases w' with
    | dic ws' => rfl
    | tup ws' => obtain ⟨b, us, e, f', q'⟩ := r'; cases e; rw [f] at f'; cases f'
    | lst ws' => obtain ⟨b, us, e, f', q'⟩ := r'; cases e; rw [f] at f'; cases f'
    | ins c fs => obtain ⟨b, dx, us, e, f', q'⟩ := r'; cases e; rw [f] at f'; cases f'
    | non => cases r'
    | bl _ => cases r'
    | int _ => cases r'
    | str _ => cases r'
    | _ => cases h'
  | .ins c fs, w', v, h, h', r, r' => by
    obtain ⟨a, dx, vs, rfl, f, q⟩ := r
    cases w' with
    | ins c fs => rfl
    | tup ws' => obtain ⟨b, us, e, f', q'⟩ := r'; cases e; rw [f] at f'; cases f'
    | lst ws' => obtain ⟨b, us, e, f', q'⟩ := r'; cases e; rw [f] at f'; cases f'
    | dic ws' => obtain ⟨b, us, e, f', q'⟩ := r'; cases e; rw [f] at f'; cases f'
    | non => cases r'
    | bl _ => cases r'
    | int _ => cases r'
    | str _ => cases r'
    | _ => cases h'
  | .ty _, _, _, h, _, _, _ => by cases h
  | .cls _, _, _, h, _, _, _ => by cases h
  | .frz _, _, _, h, _, _, _ => by cases h
  | .kt _, _, _, h, _, _, _ => by cases h
  | .tself, _, _, h, _, _, _ => by cases h
  | .exc _ _, _, _, h, _, _, _ => by cases h
theorem deps_eq {F : Hp} : ∀ {ws ws' : List W} {vs : List V}, okRs ws = true → okRs ws' = true → RpL K F ws vs → RpL K F ws' vs → depRs ws = depRs ws'
  | [], ws', vs, _, _, r, r' => by
    cases r
    cases ws' with
    | nil => rfl
    | cons w ws' => obtain ⟨_, _, z, _⟩ := r'; cases z
  | w :: ws, ws', vs, h, h', r, r' => by
    obtain ⟨u, us, rfl, r0, r1⟩ := r
    cases ws' with
    | nil => cases r'
    | cons w' ws' =>
      obtain ⟨u', us', z, r0', r1'⟩ := r'
      cases z
      show max (depR w) (depRs ws) = max (depR w') (depRs ws')
      rw [dep_eq (okRs_cons h).1 (okRs_cons h').1 r0 r0', deps_eq (okRs_cons h).2 (okRs_cons h').2 r1 r1']
end
theorem datKs_dep : ∀ {kvs : List (Key × V)} {ds : List (PyData × PyData)}, datKs kvs = some ds → PyData.depthKv ds = 0
  | [], _, h => by cases h; rfl
  | (k, v) :: kvs, _, h => by
    obtain ⟨d, e1, h⟩ := bind2 (show (datF v).bind (fun d => (datKs kvs).map fun ds => (datK k, d) :: ds) = _ from h)
    obtain ⟨ds, e2, rfl⟩ := Option.map_eq_some_iff.mp h
    have i := datKs_dep e2
    show max (max (PyData.depth (datK k)) (PyData.depth d)) (PyData.depthKv ds) = 0
    have h1 : PyData.depth (datK k) = 0 := by cases k <;> simp [datK, PyData.depth]
    have h2 : PyData.depth d = 0 := by
      cases v with
      | non => cases e1; simp [PyData.depth]
      | bl b => cases e1; simp [PyData.depth]
      | int i => cases e1; simp [PyData.depth]
      | str x => cases e1; simp [PyData.depth]
      | _ => cases e1
    rw [h1, h2, i]
    rfl
mutual
theorem reads_dep {P : Program} {w0 : World} {F H : Hp} {h : Heap} (s : Same F H) (ok : HOk P w0 H h) : ∀ {w : W} {v : V} {u : Value} {d : PyData} {as : List Addr}, okR w = true → Rp K F w v → RelV v u → Reads h u d as → d.depth = depR w
  | .non, v, u, d, as, _, r, ru, rd => by cases r; cases (show u = Value.none from ru); cases rd; simp [PyData.depth, depR]
  | .bl b, v, u, d, as, _, r, ru, rd => by cases r; cases (show u = Value.bool b from ru); cases rd; simp [PyData.depth, depR]
  | .int i, v, u, d, as, _, r, ru, rd => by cases r; obtain ⟨t, rfl⟩ := (show ∃ t, u = Value.int i t from ru); cases rd; simp [PyData.depth, depR]
  | .str x, v, u, d, as, _, r, ru, rd => by cases r; obtain ⟨t, rfl⟩ := (show ∃ t, u = Value.str x t from ru); cases rd; simp [PyData.depth, depR]
  | .tup ws, v, u, d, as, hw, r, ru, rd => by
    obtain ⟨a, vs, rfl, f, q⟩ := r
    obtain rfl : u = Value.ref a := ru
    obtain ⟨_, its, rv, ⟨o, ho, hc, n, hd⟩⟩ := (show ObjOk P w0 H h a (.tup vs) from ok a _ (s _ _ f))
    cases rd with
    | tuple h1 h2 h3 h4 =>
      rw [ho] at h1; cases h1
      rw [hd] at h3; cases h3
      have := readss_dep s ok hw q rv (by simpa using h4)
      simp only [PyData.depth, depR, this]
    | list h1 h2 h3 h4 => rw [ho] at h1; cases h1; rw [hc] at h2; exact absurd h2 (by decide)
    | dict h1 h2 h3 h4 h5 => rw [ho] at h1; cases h1; rw [hc] at h2; exact absurd h2 (by decide)
  | .lst ws, v, u, d, as, hw, r, ru, rd => by
    obtain ⟨a, vs, rfl, f, q⟩ := r
    obtain rfl : u = Value.ref a := ru
    obtain ⟨_, its, n, rv, ho⟩ := (show ObjOk P w0 H h a (.lst vs) from ok a _ (s _ _ f))
    cases rd with
    | list h1 h2 h3 h4 =>
      rw [ho] at h1; cases h1
      cases h3
      have := readss_dep s ok hw q rv (by simpa using h4)
      simp only [PyData.depth, depR, this]
    | tuple h1 h2 h3 h4 => rw [ho] at h1; cases h1; exact absurd (show Value.type "list" = Value.type "tuple" from h2) (by decide)
    | dict h1 h2 h3 h4 h5 => rw [ho] at h1; cases h1; exact absurd (show Value.type "list" = Value.type "dict" from h2) (by decide)
  | .dic kvs, v, u, d, as, hw, r, ru, rd => by
    obtain ⟨a, vs, rfl, f, q⟩ := r
    obtain rfl : u = Value.ref a := ru
    obtain ⟨kds, ek⟩ := Option.isSome_iff_exists.mp (show (datKW kvs).isSome = true from hw)
    have ek2 := datK_W ek q
    obtain ⟨_, hs, vs2, r0, o, es, ep, ho, hx, hd, _, hp, _⟩ := (show ObjOk P w0 H h a (.dK vs) from ok a _ (s _ _ f))
    obtain ⟨i1, i2⟩ := dict_reads r0 hp ek2
    have rd2 : Reads h (.ref a) (.dict kds) _ := .dict ho hx.1 hd (by simpa using i1) (by simpa using i2)
    obtain ⟨e, _⟩ := reads_det (fun _ _ e _ => e) rd2 rd
    subst e
    simp only [PyData.depth, depR, datKs_dep ek2]
  | .ins c fs, v, u, d, as, hw, r, ru, rd => by
    obtain ⟨a, dx, vs, rfl, f, q⟩ := r
    obtain rfl : u = Value.ref a := ru
    obtain ⟨_, _, _, ho, _⟩ := (show ObjOk P w0 H h a (.ins (ga K c) dx vs) from ok a _ (s _ _ f))
    cases rd with
    | list h1 h2 h3 h4 => rw [ho] at h1; cases h1; cases h2
    | tuple h1 h2 h3 h4 => rw [ho] at h1; cases h1; cases h2
    | dict h1 h2 h3 h4 h5 => rw [ho] at h1; cases h1; cases h2
  | .ty _, _, _, _, _, h, _, _, _ => by cases h
  | .cls _, _, _, _, _, h, _, _, _ => by cases h
  | .frz _, _, _, _, _, h, _, _, _ => by cases h
  | .kt _, _, _, _, _, h, _, _, _ => by cases h
  | .tself, _, _, _, _, h, _, _, _ => by cases h
  | .exc _ _, _, _, _, _, h, _, _, _ => by cases h
theorem readss_dep {P : Program} {w0 : World} {F H : Hp} {h : Heap} (s : Same F H) (ok : HOk P w0 H h) : ∀ {ws : List W} {vs : List V} {us : List Value} {ds : List PyData} {as : List Addr}, okRs ws = true → RpL K F ws vs → Vals vs us → ReadsAll h us ds as → PyData.depthAll ds = depRs ws
  | [], _, _, _, _, _, r, ru, rd => by cases r; cases ru; cases rd; rfl
  | w :: ws, _, _, _, _, hw, r, ru, rd => by
    obtain ⟨v, vs, rfl, r0, r1⟩ := r
    cases ru with
    | cons ru0 ru1 =>
      cases rd with
      | cons rd0 rd1 =>
        show max _ _ = max (depR w) (depRs ws)
        rw [reads_dep s ok (okRs_cons hw).1 r0 ru0 rd0, readss_dep s ok (okRs_cons hw).2 r1 ru1 rd1]
end
mutual
theorem datW_dep : ∀ {w : W} {d : PyData}, datW w = some d → okR w = true → d.depth = depR w
  | .non, _, h, _ => by cases h; simp [PyData.depth, depR]
  | .bl b, _, h, _ => by cases h; simp [PyData.depth, depR]
  | .int i, _, h, _ => by cases h; simp [PyData.depth, depR]
  | .str x, _, h, _ => by cases h; simp [PyData.depth, depR]
  | .tup ws, _, h, hw => by
    obtain ⟨ds, e, rfl⟩ := Option.map_eq_some_iff.mp (show (datL ws).map PyData.tuple = _ from h)
    simp only [PyData.depth, depR, datL_dep e hw]
  | .lst ws, _, h, hw => by
    obtain ⟨ds, e, rfl⟩ := Option.map_eq_some_iff.mp (show (datL ws).map PyData.list = _ from h)
    simp only [PyData.depth, depR, datL_dep e hw]
  | .dic _, _, h, _ => by cases h
  | .ins _ _, _, h, _ => by cases h
  | .ty _, _, _, h => by cases h
  | .cls _, _, _, h => by cases h
  | .frz _, _, _, h => by cases h
  | .kt _, _, _, h => by cases h
  | .tself, _, _, h => by cases h
  | .exc _ _, _, _, h => by cases h
theorem datL_dep : ∀ {ws : List W} {ds : List PyData}, datL ws = some ds → okRs ws = true → PyData.depthAll ds = depRs ws
  | [], _, h, _ => by cases h; rfl
  | w :: ws, _, h, hw => by
    obtain ⟨d, e1, h⟩ := bind2 (show (datW w).bind (fun d => (datL ws).map fun ds => d :: ds) = _ from h)
    obtain ⟨ds, e2, rfl⟩ := Option.map_eq_some_iff.mp h
    show max _ _ = max (depR w) (depRs ws)
    rw [datW_dep e1 (okRs_cons hw).1, datL_dep e2 (okRs_cons hw).2]
end
theorem datKW_dep : ∀ {kvs : List (Key × W)} {ds : List (PyData × PyData)}, datKW kvs = some ds → PyData.depthKv ds = 0
  | [], _, h => by cases h; rfl
  | (k, v) :: kvs, _, h => by
    obtain ⟨d, e1, h⟩ := bind2 (show (datFW v).bind (fun d => (datKW kvs).map fun ds => (datK k, d) :: ds) = _ from h)
    obtain ⟨ds, e2, rfl⟩ := Option.map_eq_some_iff.mp h
    have i := datKW_dep e2
    show max (max (PyData.depth (datK k)) (PyData.depth d)) (PyData.depthKv ds) = 0
    have h1 : PyData.depth (datK k) = 0 := by cases k <;> simp [datK, PyData.depth]
    have h2 : PyData.depth d = 0 := by
      cases v with
      | non => cases e1; simp [PyData.depth]
      | bl b => cases e1; simp [PyData.depth]
      | int i => cases e1; simp [PyData.depth]
      | str x => cases e1; simp [PyData.depth]
      | _ => cases e1
    rw [h1, h2, i]
    rfl
theorem datY_dep {w : W} {d : PyData} (hw : okR w = true) (h : datYW w = some d) : d.depth = depR w := by
  unfold datYW at h
  split at h
  · obtain ⟨ds, e, rfl⟩ := Option.map_eq_some_iff.mp h
    simp only [PyData.depth, depR, datKW_dep e]
  · obtain ⟨d', e1, h⟩ := bind2 h
    split at h
    · cases h
      exact datW_dep e1 hw
    · cases h
theorem leafV_W {F : Hp} {w : W} {v : V} {t : Str} (h : leafWV w = some t) (r : Rp K F w v) : leafV v = some t := by
  cases w with
  | non => cases r; exact h
  | bl b => cases r; exact h
  | int i => cases r; exact h
  | str x => cases r; exact h
  | _ => cases h
/-- those above -/
def AncOk (K : PySem.W.Frag) (F : Hp) (anc : List Addr) (n : Nat) : Prop := ∀ a ∈ anc, ∃ w, okR w = true ∧ Rp K F w (.ref a) ∧ n < depR w
theorem AncOk.mono {F F' : Hp} {anc : List Addr} {n m : Nat} (s : Same F F') (h : m ≤ n) (k : AncOk K F anc n) : AncOk K F' anc m := fun a ha => by
  obtain ⟨w, h1, h2, h3⟩ := k a ha
  exact ⟨w, h1, h2.mono s, by omega⟩
theorem repWs_ok {f : W → Mm → Option (Str × Mm)} {rep : V → Hp → (Str → Hp → Prop) → Prop} {F0 : Hp} {dd : Nat}
    (hrep : ∀ {w : W} {v : V} {F H : Hp} {ρ : List Addr} {M M' : Mm} {t : Str} {k : Str → Hp → Prop}, okR w = true → depR w ≤ dd → Same F0 F → Sr K F ρ H M → Rp K F w v → f w M = some (t, M') → (∀ F' ρ' H', Go F ρ H F' ρ' H' → Sr K F' ρ' H' M' → k t H') → rep v H k) :
    ∀ {ws : List W} {vs : List V} {m : Nat} {F H : Hp} {ρ : List Addr} {M M' : Mm} {ts : List Str} {k : List Str → Hp → Prop}, okRs ws = true → depRs ws ≤ dd → Same F0 F → Sr K F ρ H M → RpL K F ws vs → repWs f m ws M = some (ts, M') →
    (∀ F' ρ' H', Go F ρ H F' ρ' H' → Sr K F' ρ' H' M' → k ts H') → repVs rep m vs H k
  | [], _, _, F, H, ρ, _, _, _, _, _, _, _, sr, r, h, kk => by
    cases r
    cases h
    exact kk F ρ H Go.refl sr
  | w :: ws, _, m, F, H, ρ, M, M', ts, k, hw, hd, s0, sr, r, h, kk => by
    obtain ⟨v, vs, rfl, r0, r1⟩ := r
    unfold repWs at h
    obtain ⟨⟨t, M1⟩, e1, h⟩ := bind2 h
    dsimp only at h
    split at h
    · rename_i hm
      obtain ⟨⟨ts1, M2⟩, e2, e3⟩ := Option.map_eq_some_iff.mp h
      cases e3
      have hd2 : max (depR w) (depRs ws) ≤ dd := hd
      refine hrep (okRs_cons hw).1 (by omega) s0 sr r0 e1 fun F1 ρ1 H1 g1 sr1 => ⟨hm, ?_⟩
      exact repWs_ok hrep (okRs_cons hw).2 (by omega) (s0.trans g1.sf) sr1 (r1.mono g1.sf) e2 fun F' ρ' H' g' s' => kk F' ρ' H' (g1.trans g') s'
    · cases h
theorem repW_ok {P : Program} {w0 : World} {c : Str} {g : FA} : ∀ (n : Nat) {anc : List Addr} {w : W} {v : V} {F H : Hp} {ρ : List Addr} {M M' : Mm} {t : Str} {k : Str → Hp → Prop}, okR w = true → AncOk K F anc (depR w) → Sr K F ρ H M → Rp K F w v → repW c g n w M = some (t, M') →
    (∀ F' ρ' H', Go F ρ H F' ρ' H' → Sr K F' ρ' H' M' → k t H') → repV P w0 (ga K c) (spW K g) n anc v H k
  | 0, _, _, _, _, _, _, _, _, _, _, _, _, _, _, h, _ => by cases h
  | n + 1, anc, w, v, F, H, ρ, M, M', t, k, hw, ha, sr, r, h, kk => by
    have nin : ∀ {b : Addr}, v = .ref b → b ∉ anc := fun {b} e hm => by
      obtain ⟨w', h1, h2, h3⟩ := ha b hm
      subst e
      have := dep_eq hw h1 r h2
      omega
    unfold repW at h
    split at h
    · rename_i t' ht
      split at h
      · rename_i hl
        cases h
        exact .inl ⟨t, leafV_W ht r, hl, kk F ρ H Go.refl sr⟩
      · cases h
    · split at h
      · rename_i d hd
        split at h
        · rename_i ho
          cases h
          unfold okZ at ho
          simp only [Bool.and_eq_true, decide_eq_true_eq] at ho
          refine .inr (.inr (.inl ⟨d, datY_W sr.sub hd r, ⟨ho.1, ho.2.1, ho.2.2⟩, fun a hm h hok d' as rd => ?_, kk F ρ H Go.refl sr⟩))
          obtain ⟨w', h1, h2, h3⟩ := ha a hm
          rw [reads_dep sr.sub hok h1 h2 rfl rd]
          have hdd : d.depth = depR w := by
            have hy := datY_W (K := K) sr.sub hd r
            exact datY_dep hw hd
          omega
        · cases h
      · split at h
        · rename_i c' fs _ _
          split at h
          · rename_i hc
            subst hc
            obtain ⟨⟨u, M1⟩, e1, h⟩ := bind2 h
            dsimp only at h
            split at h
            · rename_i t2
              cases h
              obtain ⟨b, dx, gs, rfl, fb, q⟩ := r
              refine .inr (.inl ⟨b, dx, gs, rfl, sr.sub _ _ fb, F, ρ, [.p (.ins c' fs)], M, _, _, sr, ⟨_, _, rfl, ⟨b, dx, gs, rfl, fb, q⟩, rfl⟩, e1, fun F1 ρ1 H1 v g1 sr1 rv => ?_⟩)
              cases rv
              exact ⟨_, rfl, kk F1 ρ1 H1 g1 sr1⟩
            · cases h
          · cases h
        · rename_i ws _ _
          obtain ⟨⟨ts, M1⟩, e1, e2⟩ := Option.map_eq_some_iff.mp h
          cases e2
          have rr := r
          obtain ⟨b, vs, rfl, fb, q⟩ := r
          refine .inr (.inr (.inr (.inl ⟨b, vs, rfl, sr.sub _ _ fb, nin rfl, ?_⟩)))
          refine repWs_ok (F0 := F) (dd := depRs ws) (fun hw2 hd2 s2 sr2 r2 e2 k2 => repW_ok n hw2 (fun a hm => ?_) sr2 r2 e2 k2) hw (Nat.le_refl _) (Same.refl _) sr q e1 kk
          rcases List.mem_cons.mp hm with rfl | hm
          · exact ⟨.tup ws, hw, rr.mono s2, by show _ < depRs ws + 1; omega⟩
          · obtain ⟨w', h1, h2, h3⟩ := ha a hm
            exact ⟨w', h1, h2.mono s2, by have h3 : depRs ws + 1 < depR w' := h3; omega⟩
        · rename_i z ws _ _
          obtain ⟨⟨ts, M1⟩, e1, e2⟩ := Option.map_eq_some_iff.mp h
          cases e2
          have rr := r
          obtain ⟨b, vs, rfl, fb, q⟩ := r
          obtain ⟨v0, vs0, rfl, q0, q1⟩ := q
          refine .inr (.inr (.inr (.inr ⟨b, v0, vs0, rfl, sr.sub _ _ fb, nin rfl, ?_⟩)))
          refine repWs_ok (F0 := F) (dd := depRs (z :: ws)) (fun hw2 hd2 s2 sr2 r2 e2 k2 => repW_ok n hw2 (fun a hm => ?_) sr2 r2 e2 fun F' ρ' H' g' s' => ⟨s'.sub _ _ (g'.sf _ _ (s2 _ _ fb)), k2 F' ρ' H' g' s'⟩) hw (Nat.le_refl _) (Same.refl _) sr ⟨v0, vs0, rfl, q0, q1⟩ e1 kk
          rcases List.mem_cons.mp hm with rfl | hm
          · exact ⟨.lst (z :: ws), hw, rr.mono s2, by show _ < depRs (z :: ws) + 1; omega⟩
          · obtain ⟨w', h1, h2, h3⟩ := ha a hm
            exact ⟨w', h1, h2.mono s2, by have h3 : depRs (z :: ws) + 1 < depR w' := h3; omega⟩
        · cases h
theorem vr_repAll {P : Program} {w0 : World} {c : Str} {g : FA} : VRA K (rReprV P w0 (ga K c) (spW K g)) (repAll c g) := by
  intro F ρ H M x u r M' Q sr ru hm k
  unfold repAll at hm
  split at hm
  · rename_i ws
    split at hm
    · rename_i hw
      obtain ⟨⟨ts, M1⟩, e, e2⟩ := Option.map_eq_some_iff.mp hm
      cases e2
      obtain ⟨v, us, rfl, rr, rfl⟩ := ru
      have rr' : Rp K F (.tup ws) v := rr
      obtain ⟨a, vs, rfl, fa, q⟩ := rr'
      refine ⟨a, rfl, .inl ⟨vs, sr.sub _ _ fa, ?_⟩⟩
      refine repWs_ok (F0 := F) (dd := depRs ws) (fun hw2 hd2 s2 sr2 r2 e2 k2 => repW_ok 25 hw2 (fun b hm => ?_) sr2 r2 e2 k2) hw (Nat.le_refl _) (Same.refl _) sr q e fun F' ρ' H' g' s' => k F' ρ' H' _ g' s' rfl
      obtain rfl : b = a := by simpa using hm
      exact ⟨.tup ws, hw, Rp.mono s2 (w := .tup ws) ⟨b, vs, rfl, fa, q⟩, by show _ < depRs ws + 1; omega⟩
    · cases hm
  · rename_i z ws
    split at hm
    · rename_i hw
      obtain ⟨⟨ts, M1⟩, e, e2⟩ := Option.map_eq_some_iff.mp hm
      cases e2
      obtain ⟨v, us, rfl, rr, rfl⟩ := ru
      have rr' : Rp K F (.lst (z :: ws)) v := rr
      obtain ⟨a, vs, rfl, fa, v0, vs0, rfl, q0, q1⟩ := rr'
      refine ⟨a, rfl, .inr ⟨v0, vs0, sr.sub _ _ fa, ?_⟩⟩
      refine repWs_ok (F0 := F) (dd := depRs (z :: ws)) (fun hw2 hd2 s2 sr2 r2 e2 k2 => repW_ok 25 hw2 (fun b hm => ?_) sr2 r2 e2 fun F' ρ' H' g' s' => ⟨s'.sub _ _ (g'.sf _ _ (s2 _ _ fa)), k2 F' ρ' H' g' s'⟩) hw (Nat.le_refl _) (Same.refl _) sr ⟨v0, vs0, rfl, q0, q1⟩ e fun F' ρ' H' g' s' => k F' ρ' H' _ g' s' rfl
      obtain rfl : b = a := by simpa using hm
      exact ⟨.lst (z :: ws), hw, Rp.mono s2 (w := .lst (z :: ws)) ⟨b, _, rfl, fa, v0, vs0, rfl, q0, q1⟩, by show _ < depRs (z :: ws) + 1; omega⟩
    · cases hm
  · cases hm
end
/-- no own instances -/
def noRep : FA := fun _ _ => none
theorem ownR_none {X : Cx} {k : Nat} {C : Addr} : OwnR X k C (spW X.K noRep) := .inr fun vs H Q E h => by
  obtain ⟨_, _, _, _, _, _, _, _, z, _⟩ := h
  cases z
end Pz
/-! ### facts of exception classes, in one -/
namespace Pz
open PySem PySem.Spec PyProof.Rows L2 He Rt
structure XaC (K : PySem.W.Frag) (c : Str) (B : String) (fs : List Str) : Prop where
  ex : ExcC K (ga K c)
  xf : XfC K (ga K c)
  ra : RaC K (ga K c)
  xc : XcC K (ga K c) (bmOf B) (B ++ ".__new__")
  xi : XiC K (ga K c) (ma K (ga K c) "__init__")
  nof : ∀ f, f ∈ fs → PySem.W.findIn K (.ref (ga K c)) f = some none
structure Xa0C (K : PySem.W.Frag) (c : Str) (B : String) (fs : List Str) : Prop where
  ex : ExcC K (ga K c)
  xf : XfC K (ga K c)
  ra : RaC K (ga K c)
  x0 : PySem.W.excIn K (ga K c) (bmOf B) (B ++ ".__new__") = true
  nof : ∀ f, f ∈ fs → PySem.W.findIn K (.ref (ga K c)) f = some none
def fXa (c : Str) (B : String) (fs : List Str) (K : PySem.W.Frag) : Bool := fExc c K && (xfB K (ga K c) && (fRa c K && (fXc c B K && (fXi c K && fs.all fun f => fNoF c f K))))
def fXa0 (c : Str) (B : String) (fs : List Str) (K : PySem.W.Frag) : Bool := fExc c K && (xfB K (ga K c) && (fRa c K && (fX0 c B K && fs.all fun f => fNoF c f K)))
theorem fXa_ok {K : PySem.W.Frag} {c : Str} {B : String} {fs : List Str} (h : fXa c B fs K = true) : XaC K c B fs := by
  obtain ⟨h1, h⟩ := ba h
  obtain ⟨h2, h⟩ := ba h
  obtain ⟨h3, h⟩ := ba h
  obtain ⟨h4, h⟩ := ba h
  obtain ⟨h5, h6⟩ := ba h
  exact ⟨fExc_ok h1, xfB_ok h2, fRa_ok h3, fXc_ok h4, fXi_ok h5, fun f hf => of_decide_eq_true (List.all_eq_true.mp h6 f hf)⟩
theorem fXa0_ok {K : PySem.W.Frag} {c : Str} {B : String} {fs : List Str} (h : fXa0 c B fs K = true) : Xa0C K c B fs := by
  obtain ⟨h1, h⟩ := ba h
  obtain ⟨h2, h⟩ := ba h
  obtain ⟨h3, h⟩ := ba h
  obtain ⟨h4, h6⟩ := ba h
  exact ⟨fExc_ok h1, xfB_ok h2, fRa_ok h3, h4, fun f hf => of_decide_eq_true (List.all_eq_true.mp h6 f hf)⟩
theorem lookup_memZ {α β : Type} [BEq α] [LawfulBEq α] {a : α} {b : β} : ∀ {l : List (α × β)}, l.lookup a = some b → (a, b) ∈ l
  | [], h => by cases h
  | (x, y) :: r, h => by
    rw [List.lookup_cons] at h
    split at h
    · rename_i e
      cases h
      rw [eq_of_beq e]
      exact List.mem_cons_self
    · exact List.mem_cons_of_mem _ (lookup_memZ h)
theorem kx_ok {K : PySem.W.Frag} {sup : List (Str × List Cl)} {ask : List Cl} (h : (sup.all fun p => ask.all fun t => decide (PySem.W.kitOne K (.ref (ga K p.1)) (clV K t) = some (decide (t ∈ p.2)))) = true) {c : Str} {t : Cl} {b : Bool}
    (h2 : (if t ∈ ask then (sup.lookup c).map fun l => decide (t ∈ l) else none) = some b) : PySem.W.kitOne K (.ref (ga K c)) (clV K t) = some b := by
  split at h2
  · rename_i ht
    obtain ⟨l, e1, e2⟩ := Option.map_eq_some_iff.mp h2
    have := of_decide_eq_true (List.all_eq_true.mp (List.all_eq_true.mp h _ (lookup_memZ e1)) t ht)
    rw [this, e2]
  · cases h2
end Pz
/-! ### small words for the plain laws -/
namespace Pz
open PySem PySem.Spec PyProof.Rows L2 He Rt
theorem app_get {M : Mm} {c : C} : (M ++ [c])[M.length]? = some c := by simp
theorem app_set {M : Mm} {c d : C} : (M ++ [c]).set M.length d = M ++ [d] := by simp
theorem app_take {M : Mm} {c : C} : (M ++ [c]).take M.length = M := by simp
theorem mulC_s {x y : Int} (h : x.natAbs < 2 ^ 64 ∨ y.natAbs < 2 ^ 64) : mulC x y = true := decide_eq_true (.inl h)
theorem mul_i {a b : Int} {M : Mm} (h : mulC a b = true) : mulU (.p (.int a)) (.p (.int b)) M = some (.p (.int (a * b)), M) := by
  unfold mulU
  exact if_pos h
theorem add_i {a b : Int} {M : Mm} : addU (.p (.int a)) (.p (.int b)) M = some (.p (.int (a + b)), M) := rfl
theorem sub_i {a b : Int} {M : Mm} : subU (.p (.int a)) (.p (.int b)) M = some (.p (.int (a - b)), M) := rfl
theorem neg_i {a : Int} {M : Mm} : ngU (.p (.int a)) M = some (.p (.int (-a)), M) := rfl
theorem gt_i {a b : Int} {M : Mm} : gtU (.p (.int a)) (.p (.int b)) M = some (.p (.bl (decide (b < a))), M) := rfl
theorem lt_i {a b : Int} {M : Mm} : ltU (.p (.int a)) (.p (.int b)) M = some (.p (.bl (decide (a < b))), M) := rfl
theorem le_i {a b : Int} {M : Mm} : leU (.p (.int a)) (.p (.int b)) M = some (.p (.bl (decide (a ≤ b))), M) := rfl
theorem ge_i {a b : Int} {M : Mm} : geU (.p (.int a)) (.p (.int b)) M = some (.p (.bl (decide (b ≤ a))), M) := rfl
theorem eq_i {a b : Int} {M : Mm} : Pz.eqU (.p (.int a)) (.p (.int b)) M = some (.p (.bl (decide (a = b))), M) := rfl
theorem ne_i {a b : Int} {M : Mm} : neU (.p (.int a)) (.p (.int b)) M = some (.p (.bl (!decide (a = b))), M) := rfl
theorem eq_b {a b : Bool} {M : Mm} : Pz.eqU (.p (.bl a)) (.p (.bl b)) M = some (.p (.bl (decide (a = b))), M) := rfl
theorem ne_b {a b : Bool} {M : Mm} : neU (.p (.bl a)) (.p (.bl b)) M = some (.p (.bl (!decide (a = b))), M) := rfl
theorem eq_s {a b : Str} {M : Mm} : Pz.eqU (.p (.str a)) (.p (.str b)) M = some (.p (.bl (decide (a = b))), M) := rfl
theorem ne_s {a b : Str} {M : Mm} : neU (.p (.str a)) (.p (.str b)) M = some (.p (.bl (!decide (a = b))), M) := rfl
theorem abs_i {a : Int} {M : Mm} : absI [.p (.int a)] M = some (.p (.int (a.natAbs : Int)), M) := rfl
theorem int_i {a : Int} {M : Mm} : intI [.p (.int a)] M = some (.p (.int a), M) := rfl
theorem md_i {a b : Int} {M : Mm} (h : b ≠ 0) : mdU (.p (.int a)) (.p (.int b)) M = some (.p (.int (a.fmod b)), M) := by
  unfold mdU I2 mdC
  simp only [decide_eq_true h, if_true]
theorem fd_i {a b : Int} {M : Mm} (h : b ≠ 0) (h2 : b.natAbs.log2 < 9000) : fdU (.p (.int a)) (.p (.int b)) M = some (.p (.int (a.fdiv b)), M) := by
  unfold fdU I2 fdC
  simp only [decide_eq_true (show b ≠ 0 ∧ b.natAbs.log2 < 9000 from ⟨h, h2⟩), if_true]
/-! the greatest common divisor -/
theorem gcd_step {u v : Nat} (hv : 0 < v) : Nat.gcd u v = Nat.gcd v (u % v) := by
  rw [Nat.gcd_comm u v, Nat.gcd_rec v u, Nat.gcd_comm]
theorem half_mod {u v k : Nat} (hv : v < 2 ^ (k + 1)) (h0 : 0 < u % v) (hv0 : 0 < v) : v % (u % v) < 2 ^ k := by
  have h2 : v % (u % v) < u % v := Nat.mod_lt _ h0
  have h3 : u % v < v := Nat.mod_lt _ hv0
  have h4 : v % (u % v) + (u % v) ≤ v := by
    have := Nat.div_add_mod v (u % v)
    have h5 : 1 ≤ v / (u % v) := Nat.div_pos (Nat.le_of_lt h3) h0
    have h6 : (u % v) * 1 ≤ (u % v) * (v / (u % v)) := Nat.mul_le_mul_left _ h5
    omega
  have : 2 ^ (k + 1) = 2 * 2 ^ k := by rw [Nat.pow_succ]; omega
  omega
theorem fmod_nat (u v : Nat) : ((u : Int).fmod (v : Int)) = ((u % v : Nat) : Int) := by
  rw [Int.fmod_eq_emod_of_nonneg _ (Int.natCast_nonneg _)]
  rfl
/-- the loop of Euclid: the names a, b, then the two -/
theorem gcd_loop (t : T) (b : S) (x y : Option U) (M : Mm) (ht : ∀ u v : Nat, t [x, y, some (.p (.int u)), some (.p (.int v))] M = some (decide (0 < v), M))
    (hb : ∀ u v : Nat, 0 < v → b [x, y, some (.p (.int u)), some (.p (.int v))] M = some (.nx, [x, y, some (.p (.int v)), some (.p (.int (u % v : Nat)))], M)) :
    ∀ (k u v f : Nat), v < 2 ^ k → 2 * k + 1 ≤ f → mWhile t b f [x, y, some (.p (.int u)), some (.p (.int v))] M = some (.nx, [x, y, some (.p (.int (Nat.gcd u v : Nat))), some (.p (.int (0 : Nat)))], M) := by
  intro k
  induction k with
  | zero =>
    intro u v f hv hf
    obtain ⟨f, rfl⟩ : ∃ g, f = g + 1 := ⟨f - 1, by omega⟩
    have : v = 0 := by simpa using hv
    subst this
    unfold mWhile
    rw [ht]
    simp
  | succ k ih =>
    intro u v f hv hf
    obtain ⟨f, rfl⟩ : ∃ g, f = g + 2 := ⟨f - 2, by omega⟩
    rcases Nat.eq_zero_or_pos v with e | e
    · subst e
      unfold mWhile
      rw [ht]
      simp
    · unfold mWhile
      rw [ht]
      simp only [decide_eq_true e, Option.bind_some, if_true, hb u v e]
      rcases Nat.eq_zero_or_pos (u % v) with e2 | e2
      · rw [e2, gcd_step e, e2]
        unfold mWhile
        rw [ht]
        simp
      · unfold mWhile
        rw [ht]
        simp only [decide_eq_true e2, Option.bind_some, if_true, hb v (u % v) e2]
        rw [ih (u % v) (v % (u % v)) f (half_mod hv e2 e) (by omega), gcd_step e, gcd_step e2]
theorem lt_pow_log {n k : Nat} (h : n.log2 < k) : n < 2 ^ k := by
  have h1 : n < 2 ^ (n.log2 + 1) := Nat.lt_log2_self
  exact Nat.lt_of_lt_of_le h1 (Nat.pow_le_pow_right (by decide) (by omega))
end Pz
/-! ### texts: what may be laid, repr of one text, words, digits -/
namespace Ptx
open PySem PySem.Spec PyProof.Rows L2 He Rt SX Pz
open PySem.PyData (strOk)
theorem okS_app {a b : Str} (ha : strOk a = true) (hb : strOk b = true) : strOk (a ++ b) = true := by
  have e : (a ++ b).cps = a.cps ++ b.cps := rfl
  unfold strOk at *
  rw [e, Array.all_append, ha, hb]
  rfl
theorem okS_S {l : List Nat} (h : ∀ c ∈ l, c < 128) : strOk (S l) = true := by
  unfold strOk
  rw [← Array.all_toList, List.all_eq_true]
  exact fun c hc => decide_eq_true (by have := h c hc; omega)
theorem okS_int (i : Int) : strOk (intStr i) = true := by
  have hn : ∀ n : Nat, strOk (Str.ofString (toString ((n : Nat) : Int))) = true := fun n => by
    rw [num_S]
    exact okS_S fun c hc => by have := TL.numL_digits n c hc; omega
  unfold intStr
  cases i with
  | ofNat n => exact hn n
  | negSucc n =>
    have e : Str.ofString ("-" ++ Nat.repr (n + 1)) = Str.ofString "-" ++ Str.ofString (toString (((n + 1 : Nat)) : Int)) := by
      refine TL.ext_tl ?_
      rw [TL.tl_append, TL.tl_ofString, TL.tl_ofString, TL.tl_ofString, String.toList_append, List.map_append]
      rfl
    show strOk (Str.ofString ("-" ++ Nat.repr (n + 1))) = true
    rw [e]
    exact okS_app (by decide +kernel) (hn _)
theorem rc_ok : ∀ q : Nat, q = 34 ∨ q = 39 → ∀ c < 128, ∀ d ∈ PySem.Builtin.Str.reprChar q c, d < 128 := by
  intro q hq
  rcases hq with rfl | rfl <;> decide +kernel
theorem fold_ok (q : Nat) (hq : q = 34 ∨ q = 39) : ∀ (l : List Nat) (acc : Array Nat), (∀ c ∈ l, c < 128) → (∀ d ∈ acc.toList, d < 128) → ∀ d ∈ (l.foldl (fun out c => out ++ (PySem.Builtin.Str.reprChar q c).toArray) acc).toList, d < 128
  | [], _, _, h => h
  | c :: l, acc, hl, ha => by
    rw [List.foldl_cons]
    refine fold_ok q hq l _ (fun d hd => hl d (List.mem_cons_of_mem _ hd)) fun d hd => ?_
    rw [Array.toList_append] at hd
    rcases List.mem_append.mp hd with h | h
    · exact ha d h
    · exact rc_ok q hq c (hl c (List.mem_cons_self ..)) d (by simpa using h)
theorem okS_repr {l : List Nat} (h : ∀ c ∈ l, c < 128) : ∃ r : List Nat, reprText (S l) = S r ∧ ∀ d ∈ r, d < 128 := by
  have hq : reprQuote (S l) = 34 ∨ reprQuote (S l) = 39 := by
    unfold reprQuote
    split
    · exact .inl rfl
    · exact .inr rfl
  refine ⟨_, (S_tl (reprText (S l))).symm, fun d hd => ?_⟩
  unfold reprText at hd
  rw [Array.toList_push, ← Array.foldl_toList] at hd
  rcases List.mem_append.mp hd with e | e
  · refine fold_ok _ hq l _ h (fun d hd => ?_) d e
    rcases hq with z | z <;> (rw [z] at hd; simp at hd; omega)
  · have := List.mem_singleton.mp e
    rcases hq with z | z <;> omega
/-- repr((x,)) -/
def rep1 (l : List Nat) : Str := (PyData.tuple [.str (S l)]).shown
theorem rep1_eq (l : List Nat) : rep1 l = "(" ++ reprText (S l) ++ ",)" := by
  unfold rep1
  rfl
theorem ok_rep1 {l : List Nat} (h : ∀ c ∈ l, c < 128) : strOk (rep1 l) = true := by
  obtain ⟨r, e, hr⟩ := okS_repr h
  rw [rep1_eq, e]
  exact okS_app (okS_app (by decide +kernel) (okS_S hr)) (by decide +kernel)
theorem rep_1 {l : List Nat} {M : Mm} (h : ∀ c ∈ l, c < 128) (hl : l.length ≤ 10000) : repU [.p (.tup [.str (S l)])] M = some (.p (.str (rep1 l)), M) := by
  have hz : (PyData.tuple [.str (S l)]).shown.length ≤ 1000000 := by
    show (rep1 l).length ≤ _
    have h1 := StrLaws.reprText_len (S l) fun c hc => by
      have := h c hc
      omega
    rw [S_len l] at h1
    rw [rep1_eq]
    have e : ∀ a b : Str, (a ++ b).length = a.length + b.length := fun a b => by rw [TL.len_tl, TL.tl_append, List.length_append, ← TL.len_tl, ← TL.len_tl]
    rw [e, e, show ("(" : Str).length = 1 by decide +kernel, show (",)" : Str).length = 2 by decide +kernel]
    omega
  have ho : okD (.tuple [.str (S l)]) = true := by
    unfold okD
    rw [decide_eq_true hz]
    rfl
  unfold repU
  dsimp only
  rw [show datL [W.str (S l)] = some [.str (S l)] from rfl]
  simp only [Option.bind_some]
  rw [if_pos ho]
  rfl
/-- words and cuts -/
theorem cut_S (l : List Nat) (lo hi : Option Int) : ∃ a b, cutS (S l) lo hi = S ((l.drop a).take b) := ⟨_, _, rfl⟩
theorem split_first {s : Nat} {l : List Nat} (h : s ∈ l) : ∃ p q, l = p ++ s :: q ∧ s ∉ p := by
  obtain ⟨p, q, e, n⟩ := List.eq_append_cons_of_mem h
  exact ⟨p, q, e, n⟩
/-- lists of single characters -/
theorem dat_chars : ∀ cs : List Nat, datL (cs.map chW) = some (cs.map fun c => .str ⟨#[c]⟩)
  | [] => rfl
  | c :: cs => by
    rw [List.map_cons]
    unfold datL
    rw [dat_chars cs]
    rfl
theorem sh_chars {cs : List Nat} (h : ∀ c ∈ cs, c < 128) : SeqAt.shaped (.list (cs.map fun c => .str ⟨#[c]⟩)) = true := by
  have h1 : ∀ l : List Nat, (∀ c ∈ l, c < 128) → PyData.canLayAll0 (l.map fun c => .str ⟨#[c]⟩) = true := by
    intro l
    induction l with
    | nil => exact fun _ => rfl
    | cons c l ih =>
      intro h
      have := ih fun d hd => h d (List.mem_cons_of_mem _ hd)
      show (strOk ⟨#[c]⟩ && PyData.canLayAll0 (l.map fun c => .str ⟨#[c]⟩)) = true
      rw [this, show (⟨#[c]⟩ : Str) = S [c] from rfl, okS_S fun d hd => h d (by simp at hd; rw [hd]; exact List.mem_cons_self ..)]
      rfl
  have h2 : ∀ l : List Nat, PyData.depthAll (l.map fun c => .str ⟨#[c]⟩) = 0 := by
    intro l
    induction l with
    | nil => rfl
    | cons c l ih =>
      show max 0 (PyData.depthAll (l.map fun c => .str ⟨#[c]⟩)) = 0
      rw [ih]
      rfl
  unfold SeqAt.shaped
  rw [show PyData.canLay0 (.list (cs.map fun c => .str ⟨#[c]⟩)) = PyData.canLayAll0 (cs.map fun c => .str ⟨#[c]⟩) from rfl, h1 cs h, show PyData.depth (.list (cs.map fun c => .str ⟨#[c]⟩)) = PyData.depthAll (cs.map fun c => .str ⟨#[c]⟩) + 1 from rfl, h2]
  rfl
theorem ne_chars {cs : List Nat} (h : ∀ c ∈ cs, c < 128) {M : Mm} : neU (.p (.lst (cs.map chW))) (.p (.lst [])) M = some (.p (.bl (!cs.isEmpty)), M) := by
  unfold neU eqA
  have e1 : datU M (.p (.lst (cs.map chW))) = some (.list (cs.map fun c => .str ⟨#[c]⟩)) := by
    show (datL (cs.map chW)).map PyData.list = _
    rw [dat_chars]
    rfl
  have e2 : datU M (.p (.lst [])) = some (.list []) := rfl
  have e3 : PyData.eqv (.list (cs.map fun c => .str ⟨#[c]⟩)) (.list []) = cs.isEmpty := by
    cases cs <;> rfl
  simp only [e1, e2, Option.bind_some, sh_chars h, show SeqAt.shaped (.list []) = true from rfl, Bool.and_self, if_true, e3, Option.map_some]
end Ptx
namespace Q01
open PySem PySem.Spec PyProof.Rows L2 He Rt Pz
def excSup : List (Str × List Cl) := [("InvalidNumber", [.own "InvalidNumber", .own "GivenError", .ty "ValueError"]), ("InvalidText", [.own "InvalidText", .own "GivenError", .ty "ValueError"]), ("InvalidCount", [.own "InvalidCount", .own "GivenError", .ty "ValueError"]), ("InvalidName", [.own "InvalidName", .own "GivenError", .ty "ValueError"]), ("InvalidTruth", [.own "InvalidTruth", .own "GivenError", .ty "ValueError"]), ("InvalidEntries", [.own "InvalidEntries", .own "GivenError", .ty "ValueError"]), ("InvalidData", [.own "InvalidData", .own "GivenError", .ty "ValueError"]), ("InvalidLength", [.own "InvalidLength", .own "GivenError", .ty "ValueError"]), ("InvalidPath", [.own "InvalidPath", .own "GivenError", .ty "ValueError"]), ("InvalidClaim", [.own "InvalidClaim", .own "GivenError", .ty "ValueError"]), ("InvalidIndex", [.own "InvalidIndex", .own "GivenError", .ty "ValueError"]), ("NotAFormula", [.own "NotAFormula", .own "GivenError", .ty "ValueError"]), ("NotASeries", [.own "NotASeries", .own "GivenError", .ty "ValueError"]), ("NotARunner", [.own "NotARunner", .own "GivenError", .ty "ValueError"]), ("TextError", [.own "TextError", .own "GivenError", .ty "ValueError"]), ("UnknownName", [.own "UnknownName", .own "NameProblem", .ty "LookupError"]), ("Taken", [.own "Taken", .own "NameProblem", .ty "LookupError"]), ("InUse", [.own "InUse", .own "NameProblem", .ty "LookupError"]), ("Circular", [.own "Circular", .own "NameProblem", .ty "LookupError"]), ("Clash", [.own "Clash", .own "NameProblem", .ty "LookupError"]), ("NoSeries", [.own "NoSeries", .own "NameProblem", .ty "LookupError"]), ("NoEntry", [.own "NoEntry", .own "NameProblem", .ty "LookupError"]), ("NotMade", [.own "NotMade", .own "NameProblem", .ty "LookupError"]), ("DividedByZero", [.own "DividedByZero", .own "AnswerError", .ty "ArithmeticError"]), ("TooLarge", [.own "TooLarge", .own "AnswerError", .ty "ArithmeticError"]), ("TooHeavy", [.own "TooHeavy", .own "AnswerError", .ty "ArithmeticError"]), ("NotUndoable", [.own "NotUndoable", .own "AnswerError", .ty "ArithmeticError"]), ("NoWay", [.own "NoWay", .own "AnswerError", .ty "ArithmeticError"]), ("Ended", [.own "Ended", .own "AnswerError", .ty "ArithmeticError"]), ("NothingToUndo", [.own "NothingToUndo", .own "AnswerError", .ty "ArithmeticError"]), ("Broken", [.own "Broken", .own "AnswerError", .ty "ArithmeticError"])]
def excAsk : List Cl := [.own "InvalidNumber", .own "InvalidText", .own "InvalidCount", .own "InvalidName", .own "InvalidTruth", .own "InvalidEntries", .own "InvalidData", .own "InvalidLength", .own "InvalidPath", .own "InvalidClaim", .own "InvalidIndex", .own "NotAFormula", .own "NotASeries", .own "NotARunner", .own "TextError", .own "UnknownName", .own "Taken", .own "InUse", .own "Circular", .own "Clash", .own "NoSeries", .own "NoEntry", .own "NotMade", .own "DividedByZero", .own "TooLarge", .own "TooHeavy", .own "NotUndoable", .own "NoWay", .own "Ended", .own "NothingToUndo", .own "Broken", .own "GivenError", .own "NameProblem", .own "AnswerError", .ty "ValueError", .ty "LookupError", .ty "ArithmeticError", .ty "KeyError", .ty "IndexError", .ty "ZeroDivisionError", .ty "OverflowError"]
def fKx (K : PySem.W.Frag) : Bool := excSup.all fun p => excAsk.all fun t => decide (PySem.W.kitOne K (.ref (ga K p.1)) (clV K t) = some (decide (t ∈ p.2)))
abbrev tabs : List He.Defn := []
/-! ### the text by places -/
def top (i : Nat) : Stmt := PySem.Challenge.pw_seriesforms_k01_constants_and_errors.main.body.getD i (.Pass ⟨0, 0, 0, 0⟩)
abbrev s_InvalidNumber_DinitD : Stmt := inClass (top 2) 0
abbrev s_InvalidText_DinitD : Stmt := inClass (top 3) 0
abbrev s_InvalidCount_DinitD : Stmt := inClass (top 4) 0
abbrev s_InvalidName_DinitD : Stmt := inClass (top 5) 0
abbrev s_InvalidTruth_DinitD : Stmt := inClass (top 6) 0
abbrev s_InvalidEntries_DinitD : Stmt := inClass (top 7) 0
abbrev s_InvalidData_DinitD : Stmt := inClass (top 8) 0
abbrev s_InvalidLength_DinitD : Stmt := inClass (top 9) 0
abbrev s_InvalidPath_DinitD : Stmt := inClass (top 10) 0
abbrev s_InvalidClaim_DinitD : Stmt := inClass (top 11) 0
abbrev s_InvalidIndex_DinitD : Stmt := inClass (top 12) 0
abbrev s_NotAFormula_DinitD : Stmt := inClass (top 13) 0
abbrev s_NotASeries_DinitD : Stmt := inClass (top 14) 0
abbrev s_NotARunner_DinitD : Stmt := inClass (top 15) 0
abbrev s_TextError_DinitD : Stmt := inClass (top 16) 0
abbrev s_UnknownName_DinitD : Stmt := inClass (top 18) 0
abbrev s_Taken_DinitD : Stmt := inClass (top 19) 0
abbrev s_InUse_DinitD : Stmt := inClass (top 20) 0
abbrev s_Circular_DinitD : Stmt := inClass (top 21) 0
abbrev s_Clash_DinitD : Stmt := inClass (top 22) 0
abbrev s_NoSeries_DinitD : Stmt := inClass (top 23) 0
abbrev s_NoEntry_DinitD : Stmt := inClass (top 24) 0
abbrev s_NotMade_DinitD : Stmt := inClass (top 25) 0
abbrev s_TooLarge_DinitD : Stmt := inClass (top 28) 0
abbrev s_TooHeavy_DinitD : Stmt := inClass (top 29) 0
abbrev s_NotUndoable_DinitD : Stmt := inClass (top 30) 0
abbrev s_NoWay_DinitD : Stmt := inClass (top 31) 0
abbrev s_Broken_DinitD : Stmt := inClass (top 34) 0
abbrev s_l_cell : Stmt := top 44
abbrev s_l_source : Stmt := top 45
abbrev s_l_draw : Stmt := top 46
abbrev s_l_given : Stmt := top 47
abbrev s_l_of_names : Stmt := top 48
abbrev s_l_of_answers : Stmt := top 49
abbrev s_l_word : Stmt := top 50
abbrev s_l_fields : Stmt := top 51
abbrev s_l_odd : Stmt := top 52
abbrev s_l_names_of_classes : Stmt := top 53
abbrev s_l_made : Stmt := top 54
abbrev s_l_named : Stmt := top 55
abbrev s_l_right : Stmt := top 56
abbrev s_law : Stmt := top 57
/-! ### the defs as the top leaves them -/
abbrev d_l_cell : He5.DefA := { at_ := fun K => ga K "_law_cell", name := "_law_cell", qual := "_law_cell", params := defArgs s_l_cell, body := defBody s_l_cell, scope := defScope s_l_cell, dfl := [] }
abbrev d_l_source : He5.DefA := { at_ := fun K => ga K "_law_source", name := "_law_source", qual := "_law_source", params := defArgs s_l_source, body := defBody s_l_source, scope := defScope s_l_source, dfl := [] }
abbrev d_l_draw : He5.DefA := { at_ := fun K => ga K "_law_draw", name := "_law_draw", qual := "_law_draw", params := defArgs s_l_draw, body := defBody s_l_draw, scope := defScope s_l_draw, dfl := [] }
abbrev d_l_odd : He5.DefA := { at_ := fun K => ga K "_law_odd", name := "_law_odd", qual := "_law_odd", params := defArgs s_l_odd, body := defBody s_l_odd, scope := defScope s_l_odd, dfl := [] }
abbrev d_l_names_of_classes : He5.DefA := { at_ := fun K => ga K "_law_names_of_classes", name := "_law_names_of_classes", qual := "_law_names_of_classes", params := defArgs s_l_names_of_classes, body := defBody s_l_names_of_classes, scope := defScope s_l_names_of_classes, dfl := [] }
abbrev d_InvalidName_DinitD : He5.DefA := { at_ := fun K => ma K (ga K "InvalidName") "__init__", name := "__init__", qual := "InvalidName.__init__", params := defArgs s_InvalidName_DinitD, body := defBody s_InvalidName_DinitD, scope := defScope s_InvalidName_DinitD, dfl := [] }
abbrev d_InvalidCount_DinitD : He5.DefA := { at_ := fun K => ma K (ga K "InvalidCount") "__init__", name := "__init__", qual := "InvalidCount.__init__", params := defArgs s_InvalidCount_DinitD, body := defBody s_InvalidCount_DinitD, scope := defScope s_InvalidCount_DinitD, dfl := [] }
abbrev d_InvalidText_DinitD : He5.DefA := { at_ := fun K => ma K (ga K "InvalidText") "__init__", name := "__init__", qual := "InvalidText.__init__", params := defArgs s_InvalidText_DinitD, body := defBody s_InvalidText_DinitD, scope := defScope s_InvalidText_DinitD, dfl := [] }
abbrev d_InvalidNumber_DinitD : He5.DefA := { at_ := fun K => ma K (ga K "InvalidNumber") "__init__", name := "__init__", qual := "InvalidNumber.__init__", params := defArgs s_InvalidNumber_DinitD, body := defBody s_InvalidNumber_DinitD, scope := defScope s_InvalidNumber_DinitD, dfl := [] }
abbrev d_InvalidData_DinitD : He5.DefA := { at_ := fun K => ma K (ga K "InvalidData") "__init__", name := "__init__", qual := "InvalidData.__init__", params := defArgs s_InvalidData_DinitD, body := defBody s_InvalidData_DinitD, scope := defScope s_InvalidData_DinitD, dfl := [] }
abbrev d_InvalidEntries_DinitD : He5.DefA := { at_ := fun K => ma K (ga K "InvalidEntries") "__init__", name := "__init__", qual := "InvalidEntries.__init__", params := defArgs s_InvalidEntries_DinitD, body := defBody s_InvalidEntries_DinitD, scope := defScope s_InvalidEntries_DinitD, dfl := [] }
abbrev d_InvalidTruth_DinitD : He5.DefA := { at_ := fun K => ma K (ga K "InvalidTruth") "__init__", name := "__init__", qual := "InvalidTruth.__init__", params := defArgs s_InvalidTruth_DinitD, body := defBody s_InvalidTruth_DinitD, scope := defScope s_InvalidTruth_DinitD, dfl := [] }
abbrev d_InvalidClaim_DinitD : He5.DefA := { at_ := fun K => ma K (ga K "InvalidClaim") "__init__", name := "__init__", qual := "InvalidClaim.__init__", params := defArgs s_InvalidClaim_DinitD, body := defBody s_InvalidClaim_DinitD, scope := defScope s_InvalidClaim_DinitD, dfl := [] }
abbrev d_InvalidPath_DinitD : He5.DefA := { at_ := fun K => ma K (ga K "InvalidPath") "__init__", name := "__init__", qual := "InvalidPath.__init__", params := defArgs s_InvalidPath_DinitD, body := defBody s_InvalidPath_DinitD, scope := defScope s_InvalidPath_DinitD, dfl := [] }
abbrev d_InvalidLength_DinitD : He5.DefA := { at_ := fun K => ma K (ga K "InvalidLength") "__init__", name := "__init__", qual := "InvalidLength.__init__", params := defArgs s_InvalidLength_DinitD, body := defBody s_InvalidLength_DinitD, scope := defScope s_InvalidLength_DinitD, dfl := [] }
abbrev d_NotARunner_DinitD : He5.DefA := { at_ := fun K => ma K (ga K "NotARunner") "__init__", name := "__init__", qual := "NotARunner.__init__", params := defArgs s_NotARunner_DinitD, body := defBody s_NotARunner_DinitD, scope := defScope s_NotARunner_DinitD, dfl := [] }
abbrev d_NotASeries_DinitD : He5.DefA := { at_ := fun K => ma K (ga K "NotASeries") "__init__", name := "__init__", qual := "NotASeries.__init__", params := defArgs s_NotASeries_DinitD, body := defBody s_NotASeries_DinitD, scope := defScope s_NotASeries_DinitD, dfl := [] }
abbrev d_NotAFormula_DinitD : He5.DefA := { at_ := fun K => ma K (ga K "NotAFormula") "__init__", name := "__init__", qual := "NotAFormula.__init__", params := defArgs s_NotAFormula_DinitD, body := defBody s_NotAFormula_DinitD, scope := defScope s_NotAFormula_DinitD, dfl := [] }
abbrev d_InvalidIndex_DinitD : He5.DefA := { at_ := fun K => ma K (ga K "InvalidIndex") "__init__", name := "__init__", qual := "InvalidIndex.__init__", params := defArgs s_InvalidIndex_DinitD, body := defBody s_InvalidIndex_DinitD, scope := defScope s_InvalidIndex_DinitD, dfl := [] }
abbrev d_InUse_DinitD : He5.DefA := { at_ := fun K => ma K (ga K "InUse") "__init__", name := "__init__", qual := "InUse.__init__", params := defArgs s_InUse_DinitD, body := defBody s_InUse_DinitD, scope := defScope s_InUse_DinitD, dfl := [] }
abbrev d_Taken_DinitD : He5.DefA := { at_ := fun K => ma K (ga K "Taken") "__init__", name := "__init__", qual := "Taken.__init__", params := defArgs s_Taken_DinitD, body := defBody s_Taken_DinitD, scope := defScope s_Taken_DinitD, dfl := [] }
abbrev d_UnknownName_DinitD : He5.DefA := { at_ := fun K => ma K (ga K "UnknownName") "__init__", name := "__init__", qual := "UnknownName.__init__", params := defArgs s_UnknownName_DinitD, body := defBody s_UnknownName_DinitD, scope := defScope s_UnknownName_DinitD, dfl := [] }
abbrev d_TextError_DinitD : He5.DefA := { at_ := fun K => ma K (ga K "TextError") "__init__", name := "__init__", qual := "TextError.__init__", params := defArgs s_TextError_DinitD, body := defBody s_TextError_DinitD, scope := defScope s_TextError_DinitD, dfl := [] }
abbrev d_NotMade_DinitD : He5.DefA := { at_ := fun K => ma K (ga K "NotMade") "__init__", name := "__init__", qual := "NotMade.__init__", params := defArgs s_NotMade_DinitD, body := defBody s_NotMade_DinitD, scope := defScope s_NotMade_DinitD, dfl := [] }
abbrev d_NoEntry_DinitD : He5.DefA := { at_ := fun K => ma K (ga K "NoEntry") "__init__", name := "__init__", qual := "NoEntry.__init__", params := defArgs s_NoEntry_DinitD, body := defBody s_NoEntry_DinitD, scope := defScope s_NoEntry_DinitD, dfl := [] }
abbrev d_NoSeries_DinitD : He5.DefA := { at_ := fun K => ma K (ga K "NoSeries") "__init__", name := "__init__", qual := "NoSeries.__init__", params := defArgs s_NoSeries_DinitD, body := defBody s_NoSeries_DinitD, scope := defScope s_NoSeries_DinitD, dfl := [] }
abbrev d_Clash_DinitD : He5.DefA := { at_ := fun K => ma K (ga K "Clash") "__init__", name := "__init__", qual := "Clash.__init__", params := defArgs s_Clash_DinitD, body := defBody s_Clash_DinitD, scope := defScope s_Clash_DinitD, dfl := [] }
abbrev d_Circular_DinitD : He5.DefA := { at_ := fun K => ma K (ga K "Circular") "__init__", name := "__init__", qual := "Circular.__init__", params := defArgs s_Circular_DinitD, body := defBody s_Circular_DinitD, scope := defScope s_Circular_DinitD, dfl := [] }
abbrev d_NotUndoable_DinitD : He5.DefA := { at_ := fun K => ma K (ga K "NotUndoable") "__init__", name := "__init__", qual := "NotUndoable.__init__", params := defArgs s_NotUndoable_DinitD, body := defBody s_NotUndoable_DinitD, scope := defScope s_NotUndoable_DinitD, dfl := [] }
abbrev d_TooHeavy_DinitD : He5.DefA := { at_ := fun K => ma K (ga K "TooHeavy") "__init__", name := "__init__", qual := "TooHeavy.__init__", params := defArgs s_TooHeavy_DinitD, body := defBody s_TooHeavy_DinitD, scope := defScope s_TooHeavy_DinitD, dfl := [] }
abbrev d_TooLarge_DinitD : He5.DefA := { at_ := fun K => ma K (ga K "TooLarge") "__init__", name := "__init__", qual := "TooLarge.__init__", params := defArgs s_TooLarge_DinitD, body := defBody s_TooLarge_DinitD, scope := defScope s_TooLarge_DinitD, dfl := [] }
abbrev d_Broken_DinitD : He5.DefA := { at_ := fun K => ma K (ga K "Broken") "__init__", name := "__init__", qual := "Broken.__init__", params := defArgs s_Broken_DinitD, body := defBody s_Broken_DinitD, scope := defScope s_Broken_DinitD, dfl := [] }
abbrev d_NoWay_DinitD : He5.DefA := { at_ := fun K => ma K (ga K "NoWay") "__init__", name := "__init__", qual := "NoWay.__init__", params := defArgs s_NoWay_DinitD, body := defBody s_NoWay_DinitD, scope := defScope s_NoWay_DinitD, dfl := [] }
abbrev d_l_named : He5.DefA := { at_ := fun K => ga K "_law_named", name := "_law_named", qual := "_law_named", params := defArgs s_l_named, body := defBody s_l_named, scope := defScope s_l_named, dfl := [] }
abbrev d_l_made : He5.DefA := { at_ := fun K => ga K "_law_made", name := "_law_made", qual := "_law_made", params := defArgs s_l_made, body := defBody s_l_made, scope := defScope s_l_made, dfl := [] }
abbrev d_l_of_answers : He5.DefA := { at_ := fun K => ga K "_law_of_answers", name := "_law_of_answers", qual := "_law_of_answers", params := defArgs s_l_of_answers, body := defBody s_l_of_answers, scope := defScope s_l_of_answers, dfl := [] }
abbrev d_l_of_names : He5.DefA := { at_ := fun K => ga K "_law_of_names", name := "_law_of_names", qual := "_law_of_names", params := defArgs s_l_of_names, body := defBody s_l_of_names, scope := defScope s_l_of_names, dfl := [] }
abbrev d_l_given : He5.DefA := { at_ := fun K => ga K "_law_given", name := "_law_given", qual := "_law_given", params := defArgs s_l_given, body := defBody s_l_given, scope := defScope s_l_given, dfl := [] }
abbrev d_l_word : He5.DefA := { at_ := fun K => ga K "_law_word", name := "_law_word", qual := "_law_word", params := defArgs s_l_word, body := defBody s_l_word, scope := defScope s_l_word, dfl := [] }
abbrev d_l_fields : He5.DefA := { at_ := fun K => ga K "_law_fields", name := "_law_fields", qual := "_law_fields", params := defArgs s_l_fields, body := defBody s_l_fields, scope := defScope s_l_fields, dfl := [] }
abbrev d_l_right : He5.DefA := { at_ := fun K => ga K "_law_right", name := "_law_right", qual := "_law_right", params := defArgs s_l_right, body := defBody s_l_right, scope := defScope s_l_right, dfl := [] }
abbrev d_law : He5.DefA := { at_ := fun K => ga K "law", name := "law", qual := "law", params := defArgs s_law, body := defBody s_law, scope := defScope s_law, dfl := [] }
abbrev fns : List He5.DefA := [d_l_cell, d_l_source, d_l_draw, d_l_odd, d_l_names_of_classes, d_InvalidName_DinitD, d_InvalidCount_DinitD, d_InvalidText_DinitD, d_InvalidNumber_DinitD, d_InvalidData_DinitD, d_InvalidEntries_DinitD, d_InvalidTruth_DinitD, d_InvalidClaim_DinitD, d_InvalidPath_DinitD, d_InvalidLength_DinitD, d_NotARunner_DinitD, d_NotASeries_DinitD, d_NotAFormula_DinitD, d_InvalidIndex_DinitD, d_InUse_DinitD, d_Taken_DinitD, d_UnknownName_DinitD, d_TextError_DinitD, d_NotMade_DinitD, d_NoEntry_DinitD, d_NoSeries_DinitD, d_Clash_DinitD, d_Circular_DinitD, d_NotUndoable_DinitD, d_TooHeavy_DinitD, d_TooLarge_DinitD, d_Broken_DinitD, d_NoWay_DinitD, d_l_named, d_l_made, d_l_of_answers, d_l_of_names, d_l_given, d_l_word, d_l_fields, d_l_right, d_law]
abbrev fx0 : List (PySem.W.Frag → Bool) := [fGlo "_law_cell", fGlo "_law_source", fGlo "_law_draw", fGlo "_law_odd", fGlo "_law_names_of_classes", fGlo "_law_named", fGlo "_law_made", fGlo "_law_of_answers", fGlo "_law_of_names", fGlo "_law_given", fGlo "_law_word", fGlo "_law_fields", fGlo "_law_right", fGlo "law", fFree "ArithmeticError", fFree "IndexError", fFree "KeyError", fFree "LookupError", fFree "OverflowError", fFree "ValueError", fFree "ZeroDivisionError", fFree "abs", fFree "divmod", fFree "int", fFree "isinstance", fFree "len", fFree "max", fFree "min", fFree "range", fFree "repr"]
abbrev fx1 : List (PySem.W.Frag → Bool) := [fGlo "InvalidNumber", fGlo "InvalidText", fGlo "InvalidCount", fGlo "InvalidName", fGlo "InvalidTruth", fGlo "InvalidEntries", fGlo "InvalidData", fGlo "InvalidLength", fGlo "InvalidPath", fGlo "InvalidClaim", fGlo "InvalidIndex", fGlo "NotAFormula", fGlo "NotASeries", fGlo "NotARunner", fGlo "TextError", fGlo "UnknownName", fGlo "Taken", fGlo "InUse", fGlo "Circular", fGlo "Clash", fGlo "NoSeries", fGlo "NoEntry", fGlo "NotMade", fGlo "DividedByZero", fGlo "TooLarge", fGlo "TooHeavy", fGlo "NotUndoable", fGlo "NoWay", fGlo "Ended", fGlo "NothingToUndo"]
abbrev fx2 : List (PySem.W.Frag → Bool) := [fGlo "Broken", fGlo "GivenError", fGlo "NameProblem", fGlo "AnswerError", fXa "InvalidNumber" "ValueError" ["given", "place", "user", "limit", "reason", "index", "shown"], fXa "InvalidText" "ValueError" ["given", "place", "user", "limit", "reason", "index", "shown"], fXa "InvalidCount" "ValueError" ["given", "place", "user", "limit", "reason", "index", "shown"], fXa "InvalidName" "ValueError" ["given", "place", "user", "limit", "reason", "index", "shown"], fXa "InvalidTruth" "ValueError" ["given", "place", "user", "limit", "reason", "index", "shown"], fXa "InvalidEntries" "ValueError" ["given", "place", "user", "limit", "reason", "index", "shown"], fXa "InvalidData" "ValueError" ["given", "place", "user", "limit", "reason", "index", "shown"], fXa "InvalidLength" "ValueError" ["given", "place", "user", "limit", "reason", "index", "shown"], fXa "InvalidPath" "ValueError" ["given", "place", "user", "limit", "reason", "index", "shown"], fXa "InvalidClaim" "ValueError" ["given", "place", "user", "limit", "reason", "index", "shown"], fXa "InvalidIndex" "ValueError" ["given", "place", "user", "limit", "reason", "index", "shown"], fXa "NotAFormula" "ValueError" ["given", "place", "user", "limit", "reason", "index", "shown"], fXa "NotASeries" "ValueError" ["given", "place", "user", "limit", "reason", "index", "shown"], fXa "NotARunner" "ValueError" ["given", "place", "user", "limit", "reason", "index", "shown"], fXa "TextError" "ValueError" ["given", "place", "user", "limit", "reason", "index", "shown"], fXa "UnknownName" "LookupError" ["given", "place", "user", "limit", "reason", "index", "shown"], fXa "Taken" "LookupError" ["given", "place", "user", "limit", "reason", "index", "shown"], fXa "InUse" "LookupError" ["given", "place", "user", "limit", "reason", "index", "shown"], fXa "Circular" "LookupError" ["given", "place", "user", "limit", "reason", "index", "shown"], fXa "Clash" "LookupError" ["given", "place", "user", "limit", "reason", "index", "shown"], fXa "NoSeries" "LookupError" ["given", "place", "user", "limit", "reason", "index", "shown"], fXa "NoEntry" "LookupError" ["given", "place", "user", "limit", "reason", "index", "shown"], fXa "NotMade" "LookupError" ["given", "place", "user", "limit", "reason", "index", "shown"], fXa0 "DividedByZero" "ArithmeticError" ["given", "place", "user", "limit", "reason", "index", "shown"], fXa "TooLarge" "ArithmeticError" ["given", "place", "user", "limit", "reason", "index", "shown"], fXa "TooHeavy" "ArithmeticError" ["given", "place", "user", "limit", "reason", "index", "shown"]]
abbrev fx3 : List (PySem.W.Frag → Bool) := [fXa "NotUndoable" "ArithmeticError" ["given", "place", "user", "limit", "reason", "index", "shown"], fXa "NoWay" "ArithmeticError" ["given", "place", "user", "limit", "reason", "index", "shown"], fXa0 "Ended" "ArithmeticError" ["given", "place", "user", "limit", "reason", "index", "shown"], fXa0 "NothingToUndo" "ArithmeticError" ["given", "place", "user", "limit", "reason", "index", "shown"], fXa "Broken" "ArithmeticError" ["given", "place", "user", "limit", "reason", "index", "shown"], fKx, fDg, fIntC "MOST_SIZE" 60, fIntC "MOST_LEVELS" 20, fIntC "MOST_LEAD" 8, fIntC "MOST_LOAD" 65536, fIntC "MOST_WIDTH" 64, fIntC "MOST_SHIFT" 8, fIntC "MOST_WINDOW" 7, fIntC "MOST_SEASON" 12]
abbrev fxs : List (PySem.W.Frag → Bool) := fx0 ++ fx1 ++ fx2 ++ fx3
def loose0 : List PySem.Str := ["GivenError", "InvalidNumber", "InvalidText", "InvalidCount", "InvalidName", "InvalidTruth", "InvalidEntries", "InvalidData", "InvalidLength", "InvalidPath", "InvalidClaim", "InvalidIndex", "NotAFormula", "NotASeries", "NotARunner", "TextError", "NameProblem", "UnknownName", "Taken", "InUse"]
def loose1 : List PySem.Str := ["Circular", "Clash", "NoSeries", "NoEntry", "NotMade", "AnswerError", "DividedByZero", "TooLarge", "TooHeavy", "NotUndoable", "NoWay", "Ended", "NothingToUndo", "Broken", "MOST_SIZE", "MOST_LEVELS", "MOST_LEAD", "MOST_LOAD", "MOST_WIDTH", "MOST_SHIFT"]
def loose2 : List PySem.Str := ["MOST_WINDOW", "MOST_SEASON", "_law_cell", "_law_source", "_law_draw", "_law_given", "_law_of_names", "_law_of_answers", "_law_word", "_law_fields", "_law_odd", "_law_names_of_classes", "_law_made", "_law_named", "_law_right"]
abbrev loose : List PySem.Str := loose0 ++ loose1 ++ loose2
abbrev R : PySem.W.OpenRow := PySem.W.OpenLaw.row PySem.Challenge.rw_seriesforms_k01_constants_and_errors
abbrev hk : PySem.W.Hook := hookRT 5 fxs fns tabs
def ob (s : PySem.W.SharedT) : He.AlD × Bool := obsRT 5 fxs fns tabs (HandSHeadRun.getT s)
theorem ob_eq (s : PySem.W.SharedT) : ob s = hk.obs s.abs := obsRT_eq (HandSHeadRun.getT_eq s)
set_option maxHeartbeats 0 in
theorem run (w : World) : HandSHeadRun.RunEq R (PySem.W.view R.prog [57]) hk ob 20000 loose w := by
  intro os
  kernel_rfl
end Q01
namespace Q01
open PySem PySem.Spec PyProof.Rows L2 He Rt Pz
/-- what the top has written -/
structure Txt (K : PySem.W.Frag) (mg : Str → Option Value) : Prop where
  F_l_cell : ∃ fd, FnD K "_law_cell" "_law_cell" s_l_cell [] (ga K "_law_cell") fd
  F_l_source : ∃ fd, FnD K "_law_source" "_law_source" s_l_source [] (ga K "_law_source") fd
  F_l_draw : ∃ fd, FnD K "_law_draw" "_law_draw" s_l_draw [] (ga K "_law_draw") fd
  F_l_odd : ∃ fd, FnD K "_law_odd" "_law_odd" s_l_odd [] (ga K "_law_odd") fd
  F_l_names_of_classes : ∃ fd, FnD K "_law_names_of_classes" "_law_names_of_classes" s_l_names_of_classes [] (ga K "_law_names_of_classes") fd
  F_InvalidName_DinitD : ∃ fd, FnD K "__init__" "InvalidName.__init__" s_InvalidName_DinitD [] (ma K (ga K "InvalidName") "__init__") fd
  F_InvalidCount_DinitD : ∃ fd, FnD K "__init__" "InvalidCount.__init__" s_InvalidCount_DinitD [] (ma K (ga K "InvalidCount") "__init__") fd
  F_InvalidText_DinitD : ∃ fd, FnD K "__init__" "InvalidText.__init__" s_InvalidText_DinitD [] (ma K (ga K "InvalidText") "__init__") fd
  F_InvalidNumber_DinitD : ∃ fd, FnD K "__init__" "InvalidNumber.__init__" s_InvalidNumber_DinitD [] (ma K (ga K "InvalidNumber") "__init__") fd
  F_InvalidData_DinitD : ∃ fd, FnD K "__init__" "InvalidData.__init__" s_InvalidData_DinitD [] (ma K (ga K "InvalidData") "__init__") fd
  F_InvalidEntries_DinitD : ∃ fd, FnD K "__init__" "InvalidEntries.__init__" s_InvalidEntries_DinitD [] (ma K (ga K "InvalidEntries") "__init__") fd
  F_InvalidTruth_DinitD : ∃ fd, FnD K "__init__" "InvalidTruth.__init__" s_InvalidTruth_DinitD [] (ma K (ga K "InvalidTruth") "__init__") fd
  F_InvalidClaim_DinitD : ∃ fd, FnD K "__init__" "InvalidClaim.__init__" s_InvalidClaim_DinitD [] (ma K (ga K "InvalidClaim") "__init__") fd
  F_InvalidPath_DinitD : ∃ fd, FnD K "__init__" "InvalidPath.__init__" s_InvalidPath_DinitD [] (ma K (ga K "InvalidPath") "__init__") fd
  F_InvalidLength_DinitD : ∃ fd, FnD K "__init__" "InvalidLength.__init__" s_InvalidLength_DinitD [] (ma K (ga K "InvalidLength") "__init__") fd
  F_NotARunner_DinitD : ∃ fd, FnD K "__init__" "NotARunner.__init__" s_NotARunner_DinitD [] (ma K (ga K "NotARunner") "__init__") fd
  F_NotASeries_DinitD : ∃ fd, FnD K "__init__" "NotASeries.__init__" s_NotASeries_DinitD [] (ma K (ga K "NotASeries") "__init__") fd
  F_NotAFormula_DinitD : ∃ fd, FnD K "__init__" "NotAFormula.__init__" s_NotAFormula_DinitD [] (ma K (ga K "NotAFormula") "__init__") fd
  F_InvalidIndex_DinitD : ∃ fd, FnD K "__init__" "InvalidIndex.__init__" s_InvalidIndex_DinitD [] (ma K (ga K "InvalidIndex") "__init__") fd
  F_InUse_DinitD : ∃ fd, FnD K "__init__" "InUse.__init__" s_InUse_DinitD [] (ma K (ga K "InUse") "__init__") fd
  F_Taken_DinitD : ∃ fd, FnD K "__init__" "Taken.__init__" s_Taken_DinitD [] (ma K (ga K "Taken") "__init__") fd
  F_UnknownName_DinitD : ∃ fd, FnD K "__init__" "UnknownName.__init__" s_UnknownName_DinitD [] (ma K (ga K "UnknownName") "__init__") fd
  F_TextError_DinitD : ∃ fd, FnD K "__init__" "TextError.__init__" s_TextError_DinitD [] (ma K (ga K "TextError") "__init__") fd
  F_NotMade_DinitD : ∃ fd, FnD K "__init__" "NotMade.__init__" s_NotMade_DinitD [] (ma K (ga K "NotMade") "__init__") fd
  F_NoEntry_DinitD : ∃ fd, FnD K "__init__" "NoEntry.__init__" s_NoEntry_DinitD [] (ma K (ga K "NoEntry") "__init__") fd
  F_NoSeries_DinitD : ∃ fd, FnD K "__init__" "NoSeries.__init__" s_NoSeries_DinitD [] (ma K (ga K "NoSeries") "__init__") fd
  F_Clash_DinitD : ∃ fd, FnD K "__init__" "Clash.__init__" s_Clash_DinitD [] (ma K (ga K "Clash") "__init__") fd
  F_Circular_DinitD : ∃ fd, FnD K "__init__" "Circular.__init__" s_Circular_DinitD [] (ma K (ga K "Circular") "__init__") fd
  F_NotUndoable_DinitD : ∃ fd, FnD K "__init__" "NotUndoable.__init__" s_NotUndoable_DinitD [] (ma K (ga K "NotUndoable") "__init__") fd
  F_TooHeavy_DinitD : ∃ fd, FnD K "__init__" "TooHeavy.__init__" s_TooHeavy_DinitD [] (ma K (ga K "TooHeavy") "__init__") fd
  F_TooLarge_DinitD : ∃ fd, FnD K "__init__" "TooLarge.__init__" s_TooLarge_DinitD [] (ma K (ga K "TooLarge") "__init__") fd
  F_Broken_DinitD : ∃ fd, FnD K "__init__" "Broken.__init__" s_Broken_DinitD [] (ma K (ga K "Broken") "__init__") fd
  F_NoWay_DinitD : ∃ fd, FnD K "__init__" "NoWay.__init__" s_NoWay_DinitD [] (ma K (ga K "NoWay") "__init__") fd
  F_l_named : ∃ fd, FnD K "_law_named" "_law_named" s_l_named [] (ga K "_law_named") fd
  F_l_made : ∃ fd, FnD K "_law_made" "_law_made" s_l_made [] (ga K "_law_made") fd
  F_l_of_answers : ∃ fd, FnD K "_law_of_answers" "_law_of_answers" s_l_of_answers [] (ga K "_law_of_answers") fd
  F_l_of_names : ∃ fd, FnD K "_law_of_names" "_law_of_names" s_l_of_names [] (ga K "_law_of_names") fd
  F_l_given : ∃ fd, FnD K "_law_given" "_law_given" s_l_given [] (ga K "_law_given") fd
  F_l_word : ∃ fd, FnD K "_law_word" "_law_word" s_l_word [] (ga K "_law_word") fd
  F_l_fields : ∃ fd, FnD K "_law_fields" "_law_fields" s_l_fields [] (ga K "_law_fields") fd
  F_l_right : ∃ fd, FnD K "_law_right" "_law_right" s_l_right [] (ga K "_law_right") fd
  F_law : ∃ fd, FnD K "law" "law" s_law [] (ga K "law") fd
  g_l_cell : mg "_law_cell" = some (.ref (ga K "_law_cell"))
  g_l_source : mg "_law_source" = some (.ref (ga K "_law_source"))
  g_l_draw : mg "_law_draw" = some (.ref (ga K "_law_draw"))
  g_l_odd : mg "_law_odd" = some (.ref (ga K "_law_odd"))
  g_l_names_of_classes : mg "_law_names_of_classes" = some (.ref (ga K "_law_names_of_classes"))
  g_l_named : mg "_law_named" = some (.ref (ga K "_law_named"))
  g_l_made : mg "_law_made" = some (.ref (ga K "_law_made"))
  g_l_of_answers : mg "_law_of_answers" = some (.ref (ga K "_law_of_answers"))
  g_l_of_names : mg "_law_of_names" = some (.ref (ga K "_law_of_names"))
  g_l_given : mg "_law_given" = some (.ref (ga K "_law_given"))
  g_l_word : mg "_law_word" = some (.ref (ga K "_law_word"))
  g_l_fields : mg "_law_fields" = some (.ref (ga K "_law_fields"))
  g_l_right : mg "_law_right" = some (.ref (ga K "_law_right"))
  g_law : mg "law" = some (.ref (ga K "law"))
  f_ArithmeticError : mg "ArithmeticError" = none
  f_IndexError : mg "IndexError" = none
  f_KeyError : mg "KeyError" = none
  f_LookupError : mg "LookupError" = none
  f_OverflowError : mg "OverflowError" = none
  f_ValueError : mg "ValueError" = none
  f_ZeroDivisionError : mg "ZeroDivisionError" = none
  f_abs : mg "abs" = none
  f_divmod : mg "divmod" = none
  f_int : mg "int" = none
  f_isinstance : mg "isinstance" = none
  f_len : mg "len" = none
  f_max : mg "max" = none
  f_min : mg "min" = none
  f_range : mg "range" = none
  f_repr : mg "repr" = none
  g_InvalidNumber : mg "InvalidNumber" = some (.ref (ga K "InvalidNumber"))
  g_InvalidText : mg "InvalidText" = some (.ref (ga K "InvalidText"))
  g_InvalidCount : mg "InvalidCount" = some (.ref (ga K "InvalidCount"))
  g_InvalidName : mg "InvalidName" = some (.ref (ga K "InvalidName"))
  g_InvalidTruth : mg "InvalidTruth" = some (.ref (ga K "InvalidTruth"))
  g_InvalidEntries : mg "InvalidEntries" = some (.ref (ga K "InvalidEntries"))
  g_InvalidData : mg "InvalidData" = some (.ref (ga K "InvalidData"))
  g_InvalidLength : mg "InvalidLength" = some (.ref (ga K "InvalidLength"))
  g_InvalidPath : mg "InvalidPath" = some (.ref (ga K "InvalidPath"))
  g_InvalidClaim : mg "InvalidClaim" = some (.ref (ga K "InvalidClaim"))
  g_InvalidIndex : mg "InvalidIndex" = some (.ref (ga K "InvalidIndex"))
  g_NotAFormula : mg "NotAFormula" = some (.ref (ga K "NotAFormula"))
  g_NotASeries : mg "NotASeries" = some (.ref (ga K "NotASeries"))
  g_NotARunner : mg "NotARunner" = some (.ref (ga K "NotARunner"))
  g_TextError : mg "TextError" = some (.ref (ga K "TextError"))
  g_UnknownName : mg "UnknownName" = some (.ref (ga K "UnknownName"))
  g_Taken : mg "Taken" = some (.ref (ga K "Taken"))
  g_InUse : mg "InUse" = some (.ref (ga K "InUse"))
  g_Circular : mg "Circular" = some (.ref (ga K "Circular"))
  g_Clash : mg "Clash" = some (.ref (ga K "Clash"))
  g_NoSeries : mg "NoSeries" = some (.ref (ga K "NoSeries"))
  g_NoEntry : mg "NoEntry" = some (.ref (ga K "NoEntry"))
  g_NotMade : mg "NotMade" = some (.ref (ga K "NotMade"))
  g_DividedByZero : mg "DividedByZero" = some (.ref (ga K "DividedByZero"))
  g_TooLarge : mg "TooLarge" = some (.ref (ga K "TooLarge"))
  g_TooHeavy : mg "TooHeavy" = some (.ref (ga K "TooHeavy"))
  g_NotUndoable : mg "NotUndoable" = some (.ref (ga K "NotUndoable"))
  g_NoWay : mg "NoWay" = some (.ref (ga K "NoWay"))
  g_Ended : mg "Ended" = some (.ref (ga K "Ended"))
  g_NothingToUndo : mg "NothingToUndo" = some (.ref (ga K "NothingToUndo"))
  g_Broken : mg "Broken" = some (.ref (ga K "Broken"))
  g_GivenError : mg "GivenError" = some (.ref (ga K "GivenError"))
  g_NameProblem : mg "NameProblem" = some (.ref (ga K "NameProblem"))
  g_AnswerError : mg "AnswerError" = some (.ref (ga K "AnswerError"))
  xa_InvalidNumber : XaC K "InvalidNumber" "ValueError" ["given", "place", "user", "limit", "reason", "index", "shown"]
  xa_InvalidText : XaC K "InvalidText" "ValueError" ["given", "place", "user", "limit", "reason", "index", "shown"]
  xa_InvalidCount : XaC K "InvalidCount" "ValueError" ["given", "place", "user", "limit", "reason", "index", "shown"]
  xa_InvalidName : XaC K "InvalidName" "ValueError" ["given", "place", "user", "limit", "reason", "index", "shown"]
  xa_InvalidTruth : XaC K "InvalidTruth" "ValueError" ["given", "place", "user", "limit", "reason", "index", "shown"]
  xa_InvalidEntries : XaC K "InvalidEntries" "ValueError" ["given", "place", "user", "limit", "reason", "index", "shown"]
  xa_InvalidData : XaC K "InvalidData" "ValueError" ["given", "place", "user", "limit", "reason", "index", "shown"]
  xa_InvalidLength : XaC K "InvalidLength" "ValueError" ["given", "place", "user", "limit", "reason", "index", "shown"]
  xa_InvalidPath : XaC K "InvalidPath" "ValueError" ["given", "place", "user", "limit", "reason", "index", "shown"]
  xa_InvalidClaim : XaC K "InvalidClaim" "ValueError" ["given", "place", "user", "limit", "reason", "index", "shown"]
  xa_InvalidIndex : XaC K "InvalidIndex" "ValueError" ["given", "place", "user", "limit", "reason", "index", "shown"]
  xa_NotAFormula : XaC K "NotAFormula" "ValueError" ["given", "place", "user", "limit", "reason", "index", "shown"]
  xa_NotASeries : XaC K "NotASeries" "ValueError" ["given", "place", "user", "limit", "reason", "index", "shown"]
  xa_NotARunner : XaC K "NotARunner" "ValueError" ["given", "place", "user", "limit", "reason", "index", "shown"]
  xa_TextError : XaC K "TextError" "ValueError" ["given", "place", "user", "limit", "reason", "index", "shown"]
  xa_UnknownName : XaC K "UnknownName" "LookupError" ["given", "place", "user", "limit", "reason", "index", "shown"]
  xa_Taken : XaC K "Taken" "LookupError" ["given", "place", "user", "limit", "reason", "index", "shown"]
  xa_InUse : XaC K "InUse" "LookupError" ["given", "place", "user", "limit", "reason", "index", "shown"]
  xa_Circular : XaC K "Circular" "LookupError" ["given", "place", "user", "limit", "reason", "index", "shown"]
  xa_Clash : XaC K "Clash" "LookupError" ["given", "place", "user", "limit", "reason", "index", "shown"]
  xa_NoSeries : XaC K "NoSeries" "LookupError" ["given", "place", "user", "limit", "reason", "index", "shown"]
  xa_NoEntry : XaC K "NoEntry" "LookupError" ["given", "place", "user", "limit", "reason", "index", "shown"]
  xa_NotMade : XaC K "NotMade" "LookupError" ["given", "place", "user", "limit", "reason", "index", "shown"]
  xa_DividedByZero : Xa0C K "DividedByZero" "ArithmeticError" ["given", "place", "user", "limit", "reason", "index", "shown"]
  xa_TooLarge : XaC K "TooLarge" "ArithmeticError" ["given", "place", "user", "limit", "reason", "index", "shown"]
  xa_TooHeavy : XaC K "TooHeavy" "ArithmeticError" ["given", "place", "user", "limit", "reason", "index", "shown"]
  xa_NotUndoable : XaC K "NotUndoable" "ArithmeticError" ["given", "place", "user", "limit", "reason", "index", "shown"]
  xa_NoWay : XaC K "NoWay" "ArithmeticError" ["given", "place", "user", "limit", "reason", "index", "shown"]
  xa_Ended : Xa0C K "Ended" "ArithmeticError" ["given", "place", "user", "limit", "reason", "index", "shown"]
  xa_NothingToUndo : Xa0C K "NothingToUndo" "ArithmeticError" ["given", "place", "user", "limit", "reason", "index", "shown"]
  xa_Broken : XaC K "Broken" "ArithmeticError" ["given", "place", "user", "limit", "reason", "index", "shown"]
  kx : fKx K = true
  dg : fDg K = true
  v_MOST_SIZE : ∃ t, mg "MOST_SIZE" = some (.int 60 t)
  v_MOST_LEVELS : ∃ t, mg "MOST_LEVELS" = some (.int 20 t)
  v_MOST_LEAD : ∃ t, mg "MOST_LEAD" = some (.int 8 t)
  v_MOST_LOAD : ∃ t, mg "MOST_LOAD" = some (.int 65536 t)
  v_MOST_WIDTH : ∃ t, mg "MOST_WIDTH" = some (.int 64 t)
  v_MOST_SHIFT : ∃ t, mg "MOST_SHIFT" = some (.int 8 t)
  v_MOST_WINDOW : ∃ t, mg "MOST_WINDOW" = some (.int 7 t)
  v_MOST_SEASON : ∃ t, mg "MOST_SEASON" = some (.int 12 t)
theorem txt_of {K : PySem.W.Frag} {h : Heap} {mg : Str → Option Value} (X : K.In h) (G : h.Ns mainGlobals mg) (c : SaysR fxs fns K) : Txt K mg where
  F_l_cell := c.def_ 0 (d := d_l_cell) rfl
  F_l_source := c.def_ 1 (d := d_l_source) rfl
  F_l_draw := c.def_ 2 (d := d_l_draw) rfl
  F_l_odd := c.def_ 3 (d := d_l_odd) rfl
  F_l_names_of_classes := c.def_ 4 (d := d_l_names_of_classes) rfl
  F_InvalidName_DinitD := c.def_ 5 (d := d_InvalidName_DinitD) rfl
  F_InvalidCount_DinitD := c.def_ 6 (d := d_InvalidCount_DinitD) rfl
  F_InvalidText_DinitD := c.def_ 7 (d := d_InvalidText_DinitD) rfl
  F_InvalidNumber_DinitD := c.def_ 8 (d := d_InvalidNumber_DinitD) rfl
  F_InvalidData_DinitD := c.def_ 9 (d := d_InvalidData_DinitD) rfl
  F_InvalidEntries_DinitD := c.def_ 10 (d := d_InvalidEntries_DinitD) rfl
  F_InvalidTruth_DinitD := c.def_ 11 (d := d_InvalidTruth_DinitD) rfl
  F_InvalidClaim_DinitD := c.def_ 12 (d := d_InvalidClaim_DinitD) rfl
  F_InvalidPath_DinitD := c.def_ 13 (d := d_InvalidPath_DinitD) rfl
  F_InvalidLength_DinitD := c.def_ 14 (d := d_InvalidLength_DinitD) rfl
  F_NotARunner_DinitD := c.def_ 15 (d := d_NotARunner_DinitD) rfl
  F_NotASeries_DinitD := c.def_ 16 (d := d_NotASeries_DinitD) rfl
  F_NotAFormula_DinitD := c.def_ 17 (d := d_NotAFormula_DinitD) rfl
  F_InvalidIndex_DinitD := c.def_ 18 (d := d_InvalidIndex_DinitD) rfl
  F_InUse_DinitD := c.def_ 19 (d := d_InUse_DinitD) rfl
  F_Taken_DinitD := c.def_ 20 (d := d_Taken_DinitD) rfl
  F_UnknownName_DinitD := c.def_ 21 (d := d_UnknownName_DinitD) rfl
  F_TextError_DinitD := c.def_ 22 (d := d_TextError_DinitD) rfl
  F_NotMade_DinitD := c.def_ 23 (d := d_NotMade_DinitD) rfl
  F_NoEntry_DinitD := c.def_ 24 (d := d_NoEntry_DinitD) rfl
  F_NoSeries_DinitD := c.def_ 25 (d := d_NoSeries_DinitD) rfl
  F_Clash_DinitD := c.def_ 26 (d := d_Clash_DinitD) rfl
  F_Circular_DinitD := c.def_ 27 (d := d_Circular_DinitD) rfl
  F_NotUndoable_DinitD := c.def_ 28 (d := d_NotUndoable_DinitD) rfl
  F_TooHeavy_DinitD := c.def_ 29 (d := d_TooHeavy_DinitD) rfl
  F_TooLarge_DinitD := c.def_ 30 (d := d_TooLarge_DinitD) rfl
  F_Broken_DinitD := c.def_ 31 (d := d_Broken_DinitD) rfl
  F_NoWay_DinitD := c.def_ 32 (d := d_NoWay_DinitD) rfl
  F_l_named := c.def_ 33 (d := d_l_named) rfl
  F_l_made := c.def_ 34 (d := d_l_made) rfl
  F_l_of_answers := c.def_ 35 (d := d_l_of_answers) rfl
  F_l_of_names := c.def_ 36 (d := d_l_of_names) rfl
  F_l_given := c.def_ 37 (d := d_l_given) rfl
  F_l_word := c.def_ 38 (d := d_l_word) rfl
  F_l_fields := c.def_ 39 (d := d_l_fields) rfl
  F_l_right := c.def_ 40 (d := d_l_right) rfl
  F_law := c.def_ 41 (d := d_law) rfl
  g_l_cell := He.glo_ok X G (c.fact 0 rfl)
  g_l_source := He.glo_ok X G (c.fact 1 rfl)
  g_l_draw := He.glo_ok X G (c.fact 2 rfl)
  g_l_odd := He.glo_ok X G (c.fact 3 rfl)
  g_l_names_of_classes := He.glo_ok X G (c.fact 4 rfl)
  g_l_named := He.glo_ok X G (c.fact 5 rfl)
  g_l_made := He.glo_ok X G (c.fact 6 rfl)
  g_l_of_answers := He.glo_ok X G (c.fact 7 rfl)
  g_l_of_names := He.glo_ok X G (c.fact 8 rfl)
  g_l_given := He.glo_ok X G (c.fact 9 rfl)
  g_l_word := He.glo_ok X G (c.fact 10 rfl)
  g_l_fields := He.glo_ok X G (c.fact 11 rfl)
  g_l_right := He.glo_ok X G (c.fact 12 rfl)
  g_law := He.glo_ok X G (c.fact 13 rfl)
  f_ArithmeticError := He.free_ok X G (c.fact 14 rfl)
  f_IndexError := He.free_ok X G (c.fact 15 rfl)
  f_KeyError := He.free_ok X G (c.fact 16 rfl)
  f_LookupError := He.free_ok X G (c.fact 17 rfl)
  f_OverflowError := He.free_ok X G (c.fact 18 rfl)
  f_ValueError := He.free_ok X G (c.fact 19 rfl)
  f_ZeroDivisionError := He.free_ok X G (c.fact 20 rfl)
  f_abs := He.free_ok X G (c.fact 21 rfl)
  f_divmod := He.free_ok X G (c.fact 22 rfl)
  f_int := He.free_ok X G (c.fact 23 rfl)
  f_isinstance := He.free_ok X G (c.fact 24 rfl)
  f_len := He.free_ok X G (c.fact 25 rfl)
  f_max := He.free_ok X G (c.fact 26 rfl)
  f_min := He.free_ok X G (c.fact 27 rfl)
  f_range := He.free_ok X G (c.fact 28 rfl)
  f_repr := He.free_ok X G (c.fact 29 rfl)
  g_InvalidNumber := He.glo_ok X G (c.fact 30 rfl)
  g_InvalidText := He.glo_ok X G (c.fact 31 rfl)
  g_InvalidCount := He.glo_ok X G (c.fact 32 rfl)
  g_InvalidName := He.glo_ok X G (c.fact 33 rfl)
  g_InvalidTruth := He.glo_ok X G (c.fact 34 rfl)
  g_InvalidEntries := He.glo_ok X G (c.fact 35 rfl)
  g_InvalidData := He.glo_ok X G (c.fact 36 rfl)
  g_InvalidLength := He.glo_ok X G (c.fact 37 rfl)
  g_InvalidPath := He.glo_ok X G (c.fact 38 rfl)
  g_InvalidClaim := He.glo_ok X G (c.fact 39 rfl)
  g_InvalidIndex := He.glo_ok X G (c.fact 40 rfl)
  g_NotAFormula := He.glo_ok X G (c.fact 41 rfl)
  g_NotASeries := He.glo_ok X G (c.fact 42 rfl)
  g_NotARunner := He.glo_ok X G (c.fact 43 rfl)
  g_TextError := He.glo_ok X G (c.fact 44 rfl)
  g_UnknownName := He.glo_ok X G (c.fact 45 rfl)
  g_Taken := He.glo_ok X G (c.fact 46 rfl)
  g_InUse := He.glo_ok X G (c.fact 47 rfl)
  g_Circular := He.glo_ok X G (c.fact 48 rfl)
  g_Clash := He.glo_ok X G (c.fact 49 rfl)
  g_NoSeries := He.glo_ok X G (c.fact 50 rfl)
  g_NoEntry := He.glo_ok X G (c.fact 51 rfl)
  g_NotMade := He.glo_ok X G (c.fact 52 rfl)
  g_DividedByZero := He.glo_ok X G (c.fact 53 rfl)
  g_TooLarge := He.glo_ok X G (c.fact 54 rfl)
  g_TooHeavy := He.glo_ok X G (c.fact 55 rfl)
  g_NotUndoable := He.glo_ok X G (c.fact 56 rfl)
  g_NoWay := He.glo_ok X G (c.fact 57 rfl)
  g_Ended := He.glo_ok X G (c.fact 58 rfl)
  g_NothingToUndo := He.glo_ok X G (c.fact 59 rfl)
  g_Broken := He.glo_ok X G (c.fact 60 rfl)
  g_GivenError := He.glo_ok X G (c.fact 61 rfl)
  g_NameProblem := He.glo_ok X G (c.fact 62 rfl)
  g_AnswerError := He.glo_ok X G (c.fact 63 rfl)
  xa_InvalidNumber := fXa_ok (c.fact 64 rfl)
  xa_InvalidText := fXa_ok (c.fact 65 rfl)
  xa_InvalidCount := fXa_ok (c.fact 66 rfl)
  xa_InvalidName := fXa_ok (c.fact 67 rfl)
  xa_InvalidTruth := fXa_ok (c.fact 68 rfl)
  xa_InvalidEntries := fXa_ok (c.fact 69 rfl)
  xa_InvalidData := fXa_ok (c.fact 70 rfl)
  xa_InvalidLength := fXa_ok (c.fact 71 rfl)
  xa_InvalidPath := fXa_ok (c.fact 72 rfl)
  xa_InvalidClaim := fXa_ok (c.fact 73 rfl)
  xa_InvalidIndex := fXa_ok (c.fact 74 rfl)
  xa_NotAFormula := fXa_ok (c.fact 75 rfl)
  xa_NotASeries := fXa_ok (c.fact 76 rfl)
  xa_NotARunner := fXa_ok (c.fact 77 rfl)
  xa_TextError := fXa_ok (c.fact 78 rfl)
  xa_UnknownName := fXa_ok (c.fact 79 rfl)
  xa_Taken := fXa_ok (c.fact 80 rfl)
  xa_InUse := fXa_ok (c.fact 81 rfl)
  xa_Circular := fXa_ok (c.fact 82 rfl)
  xa_Clash := fXa_ok (c.fact 83 rfl)
  xa_NoSeries := fXa_ok (c.fact 84 rfl)
  xa_NoEntry := fXa_ok (c.fact 85 rfl)
  xa_NotMade := fXa_ok (c.fact 86 rfl)
  xa_DividedByZero := fXa0_ok (c.fact 87 rfl)
  xa_TooLarge := fXa_ok (c.fact 88 rfl)
  xa_TooHeavy := fXa_ok (c.fact 89 rfl)
  xa_NotUndoable := fXa_ok (c.fact 90 rfl)
  xa_NoWay := fXa_ok (c.fact 91 rfl)
  xa_Ended := fXa0_ok (c.fact 92 rfl)
  xa_NothingToUndo := fXa0_ok (c.fact 93 rfl)
  xa_Broken := fXa_ok (c.fact 94 rfl)
  kx := c.fact 95 rfl
  dg := c.fact 96 rfl
  v_MOST_SIZE := He.int_ok X G (c.fact 97 rfl)
  v_MOST_LEVELS := He.int_ok X G (c.fact 98 rfl)
  v_MOST_LEAD := He.int_ok X G (c.fact 99 rfl)
  v_MOST_LOAD := He.int_ok X G (c.fact 100 rfl)
  v_MOST_WIDTH := He.int_ok X G (c.fact 101 rfl)
  v_MOST_SHIFT := He.int_ok X G (c.fact 102 rfl)
  v_MOST_WINDOW := He.int_ok X G (c.fact 103 rfl)
  v_MOST_SEASON := He.int_ok X G (c.fact 104 rfl)
end Q01
namespace Q01
open PySem PySem.Spec PyProof.Rows L2 He Rt Pz LamX
section
variable {P : Program} {w : World} {K : PySem.W.Frag} {mg : Str → Option Value} {base : Heap}
def excOk : Str → Bool := fun c => decide (c ∈ (["InvalidNumber", "InvalidText", "InvalidCount", "InvalidName", "InvalidTruth", "InvalidEntries", "InvalidData", "InvalidLength", "InvalidPath", "InvalidClaim", "InvalidIndex", "NotAFormula", "NotASeries", "NotARunner", "TextError", "UnknownName", "Taken", "InUse", "Circular", "Clash", "NoSeries", "NoEntry", "NotMade", "DividedByZero", "TooLarge", "TooHeavy", "NotUndoable", "NoWay", "Ended", "NothingToUndo", "Broken"] : List Str))
def excKit : Str → Cl → Option Bool := fun c t => if t ∈ excAsk then (excSup.lookup c).map fun l => decide (t ∈ l) else none
theorem exc_ok (T : Txt K mg) : ∀ c, excOk c = true → ExcC K (ga K c) := fun c h => by
  have h := of_decide_eq_true (p := c ∈ (["InvalidNumber", "InvalidText", "InvalidCount", "InvalidName", "InvalidTruth", "InvalidEntries", "InvalidData", "InvalidLength", "InvalidPath", "InvalidClaim", "InvalidIndex", "NotAFormula", "NotASeries", "NotARunner", "TextError", "UnknownName", "Taken", "InUse", "Circular", "Clash", "NoSeries", "NoEntry", "NotMade", "DividedByZero", "TooLarge", "TooHeavy", "NotUndoable", "NoWay", "Ended", "NothingToUndo", "Broken"] : List Str)) h
  simp only [List.mem_cons, List.not_mem_nil, or_false] at h
  rcases h with rfl | rfl | rfl | rfl | rfl | rfl | rfl | rfl | rfl | rfl | rfl | rfl | rfl | rfl | rfl | rfl | rfl | rfl | rfl | rfl | rfl | rfl | rfl | rfl | rfl | rfl | rfl | rfl | rfl | rfl | rfl
  · exact (T.xa_InvalidNumber).ex
  · exact (T.xa_InvalidText).ex
  · exact (T.xa_InvalidCount).ex
  · exact (T.xa_InvalidName).ex
  · exact (T.xa_InvalidTruth).ex
  · exact (T.xa_InvalidEntries).ex
  · exact (T.xa_InvalidData).ex
  · exact (T.xa_InvalidLength).ex
  · exact (T.xa_InvalidPath).ex
  · exact (T.xa_InvalidClaim).ex
  · exact (T.xa_InvalidIndex).ex
  · exact (T.xa_NotAFormula).ex
  · exact (T.xa_NotASeries).ex
  · exact (T.xa_NotARunner).ex
  · exact (T.xa_TextError).ex
  · exact (T.xa_UnknownName).ex
  · exact (T.xa_Taken).ex
  · exact (T.xa_InUse).ex
  · exact (T.xa_Circular).ex
  · exact (T.xa_Clash).ex
  · exact (T.xa_NoSeries).ex
  · exact (T.xa_NoEntry).ex
  · exact (T.xa_NotMade).ex
  · exact (T.xa_DividedByZero).ex
  · exact (T.xa_TooLarge).ex
  · exact (T.xa_TooHeavy).ex
  · exact (T.xa_NotUndoable).ex
  · exact (T.xa_NoWay).ex
  · exact (T.xa_Ended).ex
  · exact (T.xa_NothingToUndo).ex
  · exact (T.xa_Broken).ex
theorem exc_kit (T : Txt K mg) : ∀ c t b, excKit c t = some b → PySem.W.kitOne K (.ref (ga K c)) (clV K t) = some b := fun c t b h => kx_ok (sup := excSup) (ask := excAsk) T.kx h
theorem excF_given (T : Txt K mg) : ∀ c, excOk c = true → XfC K (ga K c) ∧ PySem.W.findIn K (.ref (ga K c)) "given" = some none := fun c h => by
  have h := of_decide_eq_true (p := c ∈ (["InvalidNumber", "InvalidText", "InvalidCount", "InvalidName", "InvalidTruth", "InvalidEntries", "InvalidData", "InvalidLength", "InvalidPath", "InvalidClaim", "InvalidIndex", "NotAFormula", "NotASeries", "NotARunner", "TextError", "UnknownName", "Taken", "InUse", "Circular", "Clash", "NoSeries", "NoEntry", "NotMade", "DividedByZero", "TooLarge", "TooHeavy", "NotUndoable", "NoWay", "Ended", "NothingToUndo", "Broken"] : List Str)) h
  simp only [List.mem_cons, List.not_mem_nil, or_false] at h
  rcases h with rfl | rfl | rfl | rfl | rfl | rfl | rfl | rfl | rfl | rfl | rfl | rfl | rfl | rfl | rfl | rfl | rfl | rfl | rfl | rfl | rfl | rfl | rfl | rfl | rfl | rfl | rfl | rfl | rfl | rfl | rfl
  · exact ⟨(T.xa_InvalidNumber).xf, (T.xa_InvalidNumber).nof "given" (by decide)⟩
  · exact ⟨(T.xa_InvalidText).xf, (T.xa_InvalidText).nof "given" (by decide)⟩
  · exact ⟨(T.xa_InvalidCount).xf, (T.xa_InvalidCount).nof "given" (by decide)⟩
  · exact ⟨(T.xa_InvalidName).xf, (T.xa_InvalidName).nof "given" (by decide)⟩
  · exact ⟨(T.xa_InvalidTruth).xf, (T.xa_InvalidTruth).nof "given" (by decide)⟩
  · exact ⟨(T.xa_InvalidEntries).xf, (T.xa_InvalidEntries).nof "given" (by decide)⟩
  · exact ⟨(T.xa_InvalidData).xf, (T.xa_InvalidData).nof "given" (by decide)⟩
  · exact ⟨(T.xa_InvalidLength).xf, (T.xa_InvalidLength).nof "given" (by decide)⟩
  · exact ⟨(T.xa_InvalidPath).xf, (T.xa_InvalidPath).nof "given" (by decide)⟩
  · exact ⟨(T.xa_InvalidClaim).xf, (T.xa_InvalidClaim).nof "given" (by decide)⟩
  · exact ⟨(T.xa_InvalidIndex).xf, (T.xa_InvalidIndex).nof "given" (by decide)⟩
  · exact ⟨(T.xa_NotAFormula).xf, (T.xa_NotAFormula).nof "given" (by decide)⟩
  · exact ⟨(T.xa_NotASeries).xf, (T.xa_NotASeries).nof "given" (by decide)⟩
  · exact ⟨(T.xa_NotARunner).xf, (T.xa_NotARunner).nof "given" (by decide)⟩
  · exact ⟨(T.xa_TextError).xf, (T.xa_TextError).nof "given" (by decide)⟩
  · exact ⟨(T.xa_UnknownName).xf, (T.xa_UnknownName).nof "given" (by decide)⟩
  · exact ⟨(T.xa_Taken).xf, (T.xa_Taken).nof "given" (by decide)⟩
  · exact ⟨(T.xa_InUse).xf, (T.xa_InUse).nof "given" (by decide)⟩
  · exact ⟨(T.xa_Circular).xf, (T.xa_Circular).nof "given" (by decide)⟩
  · exact ⟨(T.xa_Clash).xf, (T.xa_Clash).nof "given" (by decide)⟩
  · exact ⟨(T.xa_NoSeries).xf, (T.xa_NoSeries).nof "given" (by decide)⟩
  · exact ⟨(T.xa_NoEntry).xf, (T.xa_NoEntry).nof "given" (by decide)⟩
  · exact ⟨(T.xa_NotMade).xf, (T.xa_NotMade).nof "given" (by decide)⟩
  · exact ⟨(T.xa_DividedByZero).xf, (T.xa_DividedByZero).nof "given" (by decide)⟩
  · exact ⟨(T.xa_TooLarge).xf, (T.xa_TooLarge).nof "given" (by decide)⟩
  · exact ⟨(T.xa_TooHeavy).xf, (T.xa_TooHeavy).nof "given" (by decide)⟩
  · exact ⟨(T.xa_NotUndoable).xf, (T.xa_NotUndoable).nof "given" (by decide)⟩
  · exact ⟨(T.xa_NoWay).xf, (T.xa_NoWay).nof "given" (by decide)⟩
  · exact ⟨(T.xa_Ended).xf, (T.xa_Ended).nof "given" (by decide)⟩
  · exact ⟨(T.xa_NothingToUndo).xf, (T.xa_NothingToUndo).nof "given" (by decide)⟩
  · exact ⟨(T.xa_Broken).xf, (T.xa_Broken).nof "given" (by decide)⟩
theorem excF_index (T : Txt K mg) : ∀ c, excOk c = true → XfC K (ga K c) ∧ PySem.W.findIn K (.ref (ga K c)) "index" = some none := fun c h => by
  have h := of_decide_eq_true (p := c ∈ (["InvalidNumber", "InvalidText", "InvalidCount", "InvalidName", "InvalidTruth", "InvalidEntries", "InvalidData", "InvalidLength", "InvalidPath", "InvalidClaim", "InvalidIndex", "NotAFormula", "NotASeries", "NotARunner", "TextError", "UnknownName", "Taken", "InUse", "Circular", "Clash", "NoSeries", "NoEntry", "NotMade", "DividedByZero", "TooLarge", "TooHeavy", "NotUndoable", "NoWay", "Ended", "NothingToUndo", "Broken"] : List Str)) h
  simp only [List.mem_cons, List.not_mem_nil, or_false] at h
  rcases h with rfl | rfl | rfl | rfl | rfl | rfl | rfl | rfl | rfl | rfl | rfl | rfl | rfl | rfl | rfl | rfl | rfl | rfl | rfl | rfl | rfl | rfl | rfl | rfl | rfl | rfl | rfl | rfl | rfl | rfl | rfl
  · exact ⟨(T.xa_InvalidNumber).xf, (T.xa_InvalidNumber).nof "index" (by decide)⟩
  · exact ⟨(T.xa_InvalidText).xf, (T.xa_InvalidText).nof "index" (by decide)⟩
  · exact ⟨(T.xa_InvalidCount).xf, (T.xa_InvalidCount).nof "index" (by decide)⟩
  · exact ⟨(T.xa_InvalidName).xf, (T.xa_InvalidName).nof "index" (by decide)⟩
  · exact ⟨(T.xa_InvalidTruth).xf, (T.xa_InvalidTruth).nof "index" (by decide)⟩
  · exact ⟨(T.xa_InvalidEntries).xf, (T.xa_InvalidEntries).nof "index" (by decide)⟩
  · exact ⟨(T.xa_InvalidData).xf, (T.xa_InvalidData).nof "index" (by decide)⟩
  · exact ⟨(T.xa_InvalidLength).xf, (T.xa_InvalidLength).nof "index" (by decide)⟩
  · exact ⟨(T.xa_InvalidPath).xf, (T.xa_InvalidPath).nof "index" (by decide)⟩
  · exact ⟨(T.xa_InvalidClaim).xf, (T.xa_InvalidClaim).nof "index" (by decide)⟩
  · exact ⟨(T.xa_InvalidIndex).xf, (T.xa_InvalidIndex).nof "index" (by decide)⟩
  · exact ⟨(T.xa_NotAFormula).xf, (T.xa_NotAFormula).nof "index" (by decide)⟩
  · exact ⟨(T.xa_NotASeries).xf, (T.xa_NotASeries).nof "index" (by decide)⟩
  · exact ⟨(T.xa_NotARunner).xf, (T.xa_NotARunner).nof "index" (by decide)⟩
  · exact ⟨(T.xa_TextError).xf, (T.xa_TextError).nof "index" (by decide)⟩
  · exact ⟨(T.xa_UnknownName).xf, (T.xa_UnknownName).nof "index" (by decide)⟩
  · exact ⟨(T.xa_Taken).xf, (T.xa_Taken).nof "index" (by decide)⟩
  · exact ⟨(T.xa_InUse).xf, (T.xa_InUse).nof "index" (by decide)⟩
  · exact ⟨(T.xa_Circular).xf, (T.xa_Circular).nof "index" (by decide)⟩
  · exact ⟨(T.xa_Clash).xf, (T.xa_Clash).nof "index" (by decide)⟩
  · exact ⟨(T.xa_NoSeries).xf, (T.xa_NoSeries).nof "index" (by decide)⟩
  · exact ⟨(T.xa_NoEntry).xf, (T.xa_NoEntry).nof "index" (by decide)⟩
  · exact ⟨(T.xa_NotMade).xf, (T.xa_NotMade).nof "index" (by decide)⟩
  · exact ⟨(T.xa_DividedByZero).xf, (T.xa_DividedByZero).nof "index" (by decide)⟩
  · exact ⟨(T.xa_TooLarge).xf, (T.xa_TooLarge).nof "index" (by decide)⟩
  · exact ⟨(T.xa_TooHeavy).xf, (T.xa_TooHeavy).nof "index" (by decide)⟩
  · exact ⟨(T.xa_NotUndoable).xf, (T.xa_NotUndoable).nof "index" (by decide)⟩
  · exact ⟨(T.xa_NoWay).xf, (T.xa_NoWay).nof "index" (by decide)⟩
  · exact ⟨(T.xa_Ended).xf, (T.xa_Ended).nof "index" (by decide)⟩
  · exact ⟨(T.xa_NothingToUndo).xf, (T.xa_NothingToUndo).nof "index" (by decide)⟩
  · exact ⟨(T.xa_Broken).xf, (T.xa_Broken).nof "index" (by decide)⟩
theorem excF_limit (T : Txt K mg) : ∀ c, excOk c = true → XfC K (ga K c) ∧ PySem.W.findIn K (.ref (ga K c)) "limit" = some none := fun c h => by
  have h := of_decide_eq_true (p := c ∈ (["InvalidNumber", "InvalidText", "InvalidCount", "InvalidName", "InvalidTruth", "InvalidEntries", "InvalidData", "InvalidLength", "InvalidPath", "InvalidClaim", "InvalidIndex", "NotAFormula", "NotASeries", "NotARunner", "TextError", "UnknownName", "Taken", "InUse", "Circular", "Clash", "NoSeries", "NoEntry", "NotMade", "DividedByZero", "TooLarge", "TooHeavy", "NotUndoable", "NoWay", "Ended", "NothingToUndo", "Broken"] : List Str)) h
  simp only [List.mem_cons, List.not_mem_nil, or_false] at h
  rcases h with rfl | rfl | rfl | rfl | rfl | rfl | rfl | rfl | rfl | rfl | rfl | rfl | rfl | rfl | rfl | rfl | rfl | rfl | rfl | rfl | rfl | rfl | rfl | rfl | rfl | rfl | rfl | rfl | rfl | rfl | rfl
  · exact ⟨(T.xa_InvalidNumber).xf, (T.xa_InvalidNumber).nof "limit" (by decide)⟩
  · exact ⟨(T.xa_InvalidText).xf, (T.xa_InvalidText).nof "limit" (by decide)⟩
  · exact ⟨(T.xa_InvalidCount).xf, (T.xa_InvalidCount).nof "limit" (by decide)⟩
  · exact ⟨(T.xa_InvalidName).xf, (T.xa_InvalidName).nof "limit" (by decide)⟩
  · exact ⟨(T.xa_InvalidTruth).xf, (T.xa_InvalidTruth).nof "limit" (by decide)⟩
  · exact ⟨(T.xa_InvalidEntries).xf, (T.xa_InvalidEntries).nof "limit" (by decide)⟩
  · exact ⟨(T.xa_InvalidData).xf, (T.xa_InvalidData).nof "limit" (by decide)⟩
  · exact ⟨(T.xa_InvalidLength).xf, (T.xa_InvalidLength).nof "limit" (by decide)⟩
  · exact ⟨(T.xa_InvalidPath).xf, (T.xa_InvalidPath).nof "limit" (by decide)⟩
  · exact ⟨(T.xa_InvalidClaim).xf, (T.xa_InvalidClaim).nof "limit" (by decide)⟩
  · exact ⟨(T.xa_InvalidIndex).xf, (T.xa_InvalidIndex).nof "limit" (by decide)⟩
  · exact ⟨(T.xa_NotAFormula).xf, (T.xa_NotAFormula).nof "limit" (by decide)⟩
  · exact ⟨(T.xa_NotASeries).xf, (T.xa_NotASeries).nof "limit" (by decide)⟩
  · exact ⟨(T.xa_NotARunner).xf, (T.xa_NotARunner).nof "limit" (by decide)⟩
  · exact ⟨(T.xa_TextError).xf, (T.xa_TextError).nof "limit" (by decide)⟩
  · exact ⟨(T.xa_UnknownName).xf, (T.xa_UnknownName).nof "limit" (by decide)⟩
  · exact ⟨(T.xa_Taken).xf, (T.xa_Taken).nof "limit" (by decide)⟩
  · exact ⟨(T.xa_InUse).xf, (T.xa_InUse).nof "limit" (by decide)⟩
  · exact ⟨(T.xa_Circular).xf, (T.xa_Circular).nof "limit" (by decide)⟩
  · exact ⟨(T.xa_Clash).xf, (T.xa_Clash).nof "limit" (by decide)⟩
  · exact ⟨(T.xa_NoSeries).xf, (T.xa_NoSeries).nof "limit" (by decide)⟩
  · exact ⟨(T.xa_NoEntry).xf, (T.xa_NoEntry).nof "limit" (by decide)⟩
  · exact ⟨(T.xa_NotMade).xf, (T.xa_NotMade).nof "limit" (by decide)⟩
  · exact ⟨(T.xa_DividedByZero).xf, (T.xa_DividedByZero).nof "limit" (by decide)⟩
  · exact ⟨(T.xa_TooLarge).xf, (T.xa_TooLarge).nof "limit" (by decide)⟩
  · exact ⟨(T.xa_TooHeavy).xf, (T.xa_TooHeavy).nof "limit" (by decide)⟩
  · exact ⟨(T.xa_NotUndoable).xf, (T.xa_NotUndoable).nof "limit" (by decide)⟩
  · exact ⟨(T.xa_NoWay).xf, (T.xa_NoWay).nof "limit" (by decide)⟩
  · exact ⟨(T.xa_Ended).xf, (T.xa_Ended).nof "limit" (by decide)⟩
  · exact ⟨(T.xa_NothingToUndo).xf, (T.xa_NothingToUndo).nof "limit" (by decide)⟩
  · exact ⟨(T.xa_Broken).xf, (T.xa_Broken).nof "limit" (by decide)⟩
theorem excF_place (T : Txt K mg) : ∀ c, excOk c = true → XfC K (ga K c) ∧ PySem.W.findIn K (.ref (ga K c)) "place" = some none := fun c h => by
  have h := of_decide_eq_true (p := c ∈ (["InvalidNumber", "InvalidText", "InvalidCount", "InvalidName", "InvalidTruth", "InvalidEntries", "InvalidData", "InvalidLength", "InvalidPath", "InvalidClaim", "InvalidIndex", "NotAFormula", "NotASeries", "NotARunner", "TextError", "UnknownName", "Taken", "InUse", "Circular", "Clash", "NoSeries", "NoEntry", "NotMade", "DividedByZero", "TooLarge", "TooHeavy", "NotUndoable", "NoWay", "Ended", "NothingToUndo", "Broken"] : List Str)) h
  simp only [List.mem_cons, List.not_mem_nil, or_false] at h
  rcases h with rfl | rfl | rfl | rfl | rfl | rfl | rfl | rfl | rfl | rfl | rfl | rfl | rfl | rfl | rfl | rfl | rfl | rfl | rfl | rfl | rfl | rfl | rfl | rfl | rfl | rfl | rfl | rfl | rfl | rfl | rfl
  · exact ⟨(T.xa_InvalidNumber).xf, (T.xa_InvalidNumber).nof "place" (by decide)⟩
  · exact ⟨(T.xa_InvalidText).xf, (T.xa_InvalidText).nof "place" (by decide)⟩
  · exact ⟨(T.xa_InvalidCount).xf, (T.xa_InvalidCount).nof "place" (by decide)⟩
  · exact ⟨(T.xa_InvalidName).xf, (T.xa_InvalidName).nof "place" (by decide)⟩
  · exact ⟨(T.xa_InvalidTruth).xf, (T.xa_InvalidTruth).nof "place" (by decide)⟩
  · exact ⟨(T.xa_InvalidEntries).xf, (T.xa_InvalidEntries).nof "place" (by decide)⟩
  · exact ⟨(T.xa_InvalidData).xf, (T.xa_InvalidData).nof "place" (by decide)⟩
  · exact ⟨(T.xa_InvalidLength).xf, (T.xa_InvalidLength).nof "place" (by decide)⟩
  · exact ⟨(T.xa_InvalidPath).xf, (T.xa_InvalidPath).nof "place" (by decide)⟩
  · exact ⟨(T.xa_InvalidClaim).xf, (T.xa_InvalidClaim).nof "place" (by decide)⟩
  · exact ⟨(T.xa_InvalidIndex).xf, (T.xa_InvalidIndex).nof "place" (by decide)⟩
  · exact ⟨(T.xa_NotAFormula).xf, (T.xa_NotAFormula).nof "place" (by decide)⟩
  · exact ⟨(T.xa_NotASeries).xf, (T.xa_NotASeries).nof "place" (by decide)⟩
  · exact ⟨(T.xa_NotARunner).xf, (T.xa_NotARunner).nof "place" (by decide)⟩
  · exact ⟨(T.xa_TextError).xf, (T.xa_TextError).nof "place" (by decide)⟩
  · exact ⟨(T.xa_UnknownName).xf, (T.xa_UnknownName).nof "place" (by decide)⟩
  · exact ⟨(T.xa_Taken).xf, (T.xa_Taken).nof "place" (by decide)⟩
  · exact ⟨(T.xa_InUse).xf, (T.xa_InUse).nof "place" (by decide)⟩
  · exact ⟨(T.xa_Circular).xf, (T.xa_Circular).nof "place" (by decide)⟩
  · exact ⟨(T.xa_Clash).xf, (T.xa_Clash).nof "place" (by decide)⟩
  · exact ⟨(T.xa_NoSeries).xf, (T.xa_NoSeries).nof "place" (by decide)⟩
  · exact ⟨(T.xa_NoEntry).xf, (T.xa_NoEntry).nof "place" (by decide)⟩
  · exact ⟨(T.xa_NotMade).xf, (T.xa_NotMade).nof "place" (by decide)⟩
  · exact ⟨(T.xa_DividedByZero).xf, (T.xa_DividedByZero).nof "place" (by decide)⟩
  · exact ⟨(T.xa_TooLarge).xf, (T.xa_TooLarge).nof "place" (by decide)⟩
  · exact ⟨(T.xa_TooHeavy).xf, (T.xa_TooHeavy).nof "place" (by decide)⟩
  · exact ⟨(T.xa_NotUndoable).xf, (T.xa_NotUndoable).nof "place" (by decide)⟩
  · exact ⟨(T.xa_NoWay).xf, (T.xa_NoWay).nof "place" (by decide)⟩
  · exact ⟨(T.xa_Ended).xf, (T.xa_Ended).nof "place" (by decide)⟩
  · exact ⟨(T.xa_NothingToUndo).xf, (T.xa_NothingToUndo).nof "place" (by decide)⟩
  · exact ⟨(T.xa_Broken).xf, (T.xa_Broken).nof "place" (by decide)⟩
theorem excF_reason (T : Txt K mg) : ∀ c, excOk c = true → XfC K (ga K c) ∧ PySem.W.findIn K (.ref (ga K c)) "reason" = some none := fun c h => by
  have h := of_decide_eq_true (p := c ∈ (["InvalidNumber", "InvalidText", "InvalidCount", "InvalidName", "InvalidTruth", "InvalidEntries", "InvalidData", "InvalidLength", "InvalidPath", "InvalidClaim", "InvalidIndex", "NotAFormula", "NotASeries", "NotARunner", "TextError", "UnknownName", "Taken", "InUse", "Circular", "Clash", "NoSeries", "NoEntry", "NotMade", "DividedByZero", "TooLarge", "TooHeavy", "NotUndoable", "NoWay", "Ended", "NothingToUndo", "Broken"] : List Str)) h
  simp only [List.mem_cons, List.not_mem_nil, or_false] at h
  rcases h with rfl | rfl | rfl | rfl | rfl | rfl | rfl | rfl | rfl | rfl | rfl | rfl | rfl | rfl | rfl | rfl | rfl | rfl | rfl | rfl | rfl | rfl | rfl | rfl | rfl | rfl | rfl | rfl | rfl | rfl | rfl
  · exact ⟨(T.xa_InvalidNumber).xf, (T.xa_InvalidNumber).nof "reason" (by decide)⟩
  · exact ⟨(T.xa_InvalidText).xf, (T.xa_InvalidText).nof "reason" (by decide)⟩
  · exact ⟨(T.xa_InvalidCount).xf, (T.xa_InvalidCount).nof "reason" (by decide)⟩
  · exact ⟨(T.xa_InvalidName).xf, (T.xa_InvalidName).nof "reason" (by decide)⟩
  · exact ⟨(T.xa_InvalidTruth).xf, (T.xa_InvalidTruth).nof "reason" (by decide)⟩
  · exact ⟨(T.xa_InvalidEntries).xf, (T.xa_InvalidEntries).nof "reason" (by decide)⟩
  · exact ⟨(T.xa_InvalidData).xf, (T.xa_InvalidData).nof "reason" (by decide)⟩
  · exact ⟨(T.xa_InvalidLength).xf, (T.xa_InvalidLength).nof "reason" (by decide)⟩
  · exact ⟨(T.xa_InvalidPath).xf, (T.xa_InvalidPath).nof "reason" (by decide)⟩
  · exact ⟨(T.xa_InvalidClaim).xf, (T.xa_InvalidClaim).nof "reason" (by decide)⟩
  · exact ⟨(T.xa_InvalidIndex).xf, (T.xa_InvalidIndex).nof "reason" (by decide)⟩
  · exact ⟨(T.xa_NotAFormula).xf, (T.xa_NotAFormula).nof "reason" (by decide)⟩
  · exact ⟨(T.xa_NotASeries).xf, (T.xa_NotASeries).nof "reason" (by decide)⟩
  · exact ⟨(T.xa_NotARunner).xf, (T.xa_NotARunner).nof "reason" (by decide)⟩
  · exact ⟨(T.xa_TextError).xf, (T.xa_TextError).nof "reason" (by decide)⟩
  · exact ⟨(T.xa_UnknownName).xf, (T.xa_UnknownName).nof "reason" (by decide)⟩
  · exact ⟨(T.xa_Taken).xf, (T.xa_Taken).nof "reason" (by decide)⟩
  · exact ⟨(T.xa_InUse).xf, (T.xa_InUse).nof "reason" (by decide)⟩
  · exact ⟨(T.xa_Circular).xf, (T.xa_Circular).nof "reason" (by decide)⟩
  · exact ⟨(T.xa_Clash).xf, (T.xa_Clash).nof "reason" (by decide)⟩
  · exact ⟨(T.xa_NoSeries).xf, (T.xa_NoSeries).nof "reason" (by decide)⟩
  · exact ⟨(T.xa_NoEntry).xf, (T.xa_NoEntry).nof "reason" (by decide)⟩
  · exact ⟨(T.xa_NotMade).xf, (T.xa_NotMade).nof "reason" (by decide)⟩
  · exact ⟨(T.xa_DividedByZero).xf, (T.xa_DividedByZero).nof "reason" (by decide)⟩
  · exact ⟨(T.xa_TooLarge).xf, (T.xa_TooLarge).nof "reason" (by decide)⟩
  · exact ⟨(T.xa_TooHeavy).xf, (T.xa_TooHeavy).nof "reason" (by decide)⟩
  · exact ⟨(T.xa_NotUndoable).xf, (T.xa_NotUndoable).nof "reason" (by decide)⟩
  · exact ⟨(T.xa_NoWay).xf, (T.xa_NoWay).nof "reason" (by decide)⟩
  · exact ⟨(T.xa_Ended).xf, (T.xa_Ended).nof "reason" (by decide)⟩
  · exact ⟨(T.xa_NothingToUndo).xf, (T.xa_NothingToUndo).nof "reason" (by decide)⟩
  · exact ⟨(T.xa_Broken).xf, (T.xa_Broken).nof "reason" (by decide)⟩
theorem excF_shown (T : Txt K mg) : ∀ c, excOk c = true → XfC K (ga K c) ∧ PySem.W.findIn K (.ref (ga K c)) "shown" = some none := fun c h => by
  have h := of_decide_eq_true (p := c ∈ (["InvalidNumber", "InvalidText", "InvalidCount", "InvalidName", "InvalidTruth", "InvalidEntries", "InvalidData", "InvalidLength", "InvalidPath", "InvalidClaim", "InvalidIndex", "NotAFormula", "NotASeries", "NotARunner", "TextError", "UnknownName", "Taken", "InUse", "Circular", "Clash", "NoSeries", "NoEntry", "NotMade", "DividedByZero", "TooLarge", "TooHeavy", "NotUndoable", "NoWay", "Ended", "NothingToUndo", "Broken"] : List Str)) h
  simp only [List.mem_cons, List.not_mem_nil, or_false] at h
  rcases h with rfl | rfl | rfl | rfl | rfl | rfl | rfl | rfl | rfl | rfl | rfl | rfl | rfl | rfl | rfl | rfl | rfl | rfl | rfl | rfl | rfl | rfl | rfl | rfl | rfl | rfl | rfl | rfl | rfl | rfl | rfl
  · exact ⟨(T.xa_InvalidNumber).xf, (T.xa_InvalidNumber).nof "shown" (by decide)⟩
  · exact ⟨(T.xa_InvalidText).xf, (T.xa_InvalidText).nof "shown" (by decide)⟩
  · exact ⟨(T.xa_InvalidCount).xf, (T.xa_InvalidCount).nof "shown" (by decide)⟩
  · exact ⟨(T.xa_InvalidName).xf, (T.xa_InvalidName).nof "shown" (by decide)⟩
  · exact ⟨(T.xa_InvalidTruth).xf, (T.xa_InvalidTruth).nof "shown" (by decide)⟩
  · exact ⟨(T.xa_InvalidEntries).xf, (T.xa_InvalidEntries).nof "shown" (by decide)⟩
  · exact ⟨(T.xa_InvalidData).xf, (T.xa_InvalidData).nof "shown" (by decide)⟩
  · exact ⟨(T.xa_InvalidLength).xf, (T.xa_InvalidLength).nof "shown" (by decide)⟩
  · exact ⟨(T.xa_InvalidPath).xf, (T.xa_InvalidPath).nof "shown" (by decide)⟩
  · exact ⟨(T.xa_InvalidClaim).xf, (T.xa_InvalidClaim).nof "shown" (by decide)⟩
  · exact ⟨(T.xa_InvalidIndex).xf, (T.xa_InvalidIndex).nof "shown" (by decide)⟩
  · exact ⟨(T.xa_NotAFormula).xf, (T.xa_NotAFormula).nof "shown" (by decide)⟩
  · exact ⟨(T.xa_NotASeries).xf, (T.xa_NotASeries).nof "shown" (by decide)⟩
  · exact ⟨(T.xa_NotARunner).xf, (T.xa_NotARunner).nof "shown" (by decide)⟩
  · exact ⟨(T.xa_TextError).xf, (T.xa_TextError).nof "shown" (by decide)⟩
  · exact ⟨(T.xa_UnknownName).xf, (T.xa_UnknownName).nof "shown" (by decide)⟩
  · exact ⟨(T.xa_Taken).xf, (T.xa_Taken).nof "shown" (by decide)⟩
  · exact ⟨(T.xa_InUse).xf, (T.xa_InUse).nof "shown" (by decide)⟩
  · exact ⟨(T.xa_Circular).xf, (T.xa_Circular).nof "shown" (by decide)⟩
  · exact ⟨(T.xa_Clash).xf, (T.xa_Clash).nof "shown" (by decide)⟩
  · exact ⟨(T.xa_NoSeries).xf, (T.xa_NoSeries).nof "shown" (by decide)⟩
  · exact ⟨(T.xa_NoEntry).xf, (T.xa_NoEntry).nof "shown" (by decide)⟩
  · exact ⟨(T.xa_NotMade).xf, (T.xa_NotMade).nof "shown" (by decide)⟩
  · exact ⟨(T.xa_DividedByZero).xf, (T.xa_DividedByZero).nof "shown" (by decide)⟩
  · exact ⟨(T.xa_TooLarge).xf, (T.xa_TooLarge).nof "shown" (by decide)⟩
  · exact ⟨(T.xa_TooHeavy).xf, (T.xa_TooHeavy).nof "shown" (by decide)⟩
  · exact ⟨(T.xa_NotUndoable).xf, (T.xa_NotUndoable).nof "shown" (by decide)⟩
  · exact ⟨(T.xa_NoWay).xf, (T.xa_NoWay).nof "shown" (by decide)⟩
  · exact ⟨(T.xa_Ended).xf, (T.xa_Ended).nof "shown" (by decide)⟩
  · exact ⟨(T.xa_NothingToUndo).xf, (T.xa_NothingToUndo).nof "shown" (by decide)⟩
  · exact ⟨(T.xa_Broken).xf, (T.xa_Broken).nof "shown" (by decide)⟩
theorem excF_user (T : Txt K mg) : ∀ c, excOk c = true → XfC K (ga K c) ∧ PySem.W.findIn K (.ref (ga K c)) "user" = some none := fun c h => by
  have h := of_decide_eq_true (p := c ∈ (["InvalidNumber", "InvalidText", "InvalidCount", "InvalidName", "InvalidTruth", "InvalidEntries", "InvalidData", "InvalidLength", "InvalidPath", "InvalidClaim", "InvalidIndex", "NotAFormula", "NotASeries", "NotARunner", "TextError", "UnknownName", "Taken", "InUse", "Circular", "Clash", "NoSeries", "NoEntry", "NotMade", "DividedByZero", "TooLarge", "TooHeavy", "NotUndoable", "NoWay", "Ended", "NothingToUndo", "Broken"] : List Str)) h
  simp only [List.mem_cons, List.not_mem_nil, or_false] at h
  rcases h with rfl | rfl | rfl | rfl | rfl | rfl | rfl | rfl | rfl | rfl | rfl | rfl | rfl | rfl | rfl | rfl | rfl | rfl | rfl | rfl | rfl | rfl | rfl | rfl | rfl | rfl | rfl | rfl | rfl | rfl | rfl
  · exact ⟨(T.xa_InvalidNumber).xf, (T.xa_InvalidNumber).nof "user" (by decide)⟩
  · exact ⟨(T.xa_InvalidText).xf, (T.xa_InvalidText).nof "user" (by decide)⟩
  · exact ⟨(T.xa_InvalidCount).xf, (T.xa_InvalidCount).nof "user" (by decide)⟩
  · exact ⟨(T.xa_InvalidName).xf, (T.xa_InvalidName).nof "user" (by decide)⟩
  · exact ⟨(T.xa_InvalidTruth).xf, (T.xa_InvalidTruth).nof "user" (by decide)⟩
  · exact ⟨(T.xa_InvalidEntries).xf, (T.xa_InvalidEntries).nof "user" (by decide)⟩
  · exact ⟨(T.xa_InvalidData).xf, (T.xa_InvalidData).nof "user" (by decide)⟩
  · exact ⟨(T.xa_InvalidLength).xf, (T.xa_InvalidLength).nof "user" (by decide)⟩
  · exact ⟨(T.xa_InvalidPath).xf, (T.xa_InvalidPath).nof "user" (by decide)⟩
  · exact ⟨(T.xa_InvalidClaim).xf, (T.xa_InvalidClaim).nof "user" (by decide)⟩
  · exact ⟨(T.xa_InvalidIndex).xf, (T.xa_InvalidIndex).nof "user" (by decide)⟩
  · exact ⟨(T.xa_NotAFormula).xf, (T.xa_NotAFormula).nof "user" (by decide)⟩
  · exact ⟨(T.xa_NotASeries).xf, (T.xa_NotASeries).nof "user" (by decide)⟩
  · exact ⟨(T.xa_NotARunner).xf, (T.xa_NotARunner).nof "user" (by decide)⟩
  · exact ⟨(T.xa_TextError).xf, (T.xa_TextError).nof "user" (by decide)⟩
  · exact ⟨(T.xa_UnknownName).xf, (T.xa_UnknownName).nof "user" (by decide)⟩
  · exact ⟨(T.xa_Taken).xf, (T.xa_Taken).nof "user" (by decide)⟩
  · exact ⟨(T.xa_InUse).xf, (T.xa_InUse).nof "user" (by decide)⟩
  · exact ⟨(T.xa_Circular).xf, (T.xa_Circular).nof "user" (by decide)⟩
  · exact ⟨(T.xa_Clash).xf, (T.xa_Clash).nof "user" (by decide)⟩
  · exact ⟨(T.xa_NoSeries).xf, (T.xa_NoSeries).nof "user" (by decide)⟩
  · exact ⟨(T.xa_NoEntry).xf, (T.xa_NoEntry).nof "user" (by decide)⟩
  · exact ⟨(T.xa_NotMade).xf, (T.xa_NotMade).nof "user" (by decide)⟩
  · exact ⟨(T.xa_DividedByZero).xf, (T.xa_DividedByZero).nof "user" (by decide)⟩
  · exact ⟨(T.xa_TooLarge).xf, (T.xa_TooLarge).nof "user" (by decide)⟩
  · exact ⟨(T.xa_TooHeavy).xf, (T.xa_TooHeavy).nof "user" (by decide)⟩
  · exact ⟨(T.xa_NotUndoable).xf, (T.xa_NotUndoable).nof "user" (by decide)⟩
  · exact ⟨(T.xa_NoWay).xf, (T.xa_NoWay).nof "user" (by decide)⟩
  · exact ⟨(T.xa_Ended).xf, (T.xa_Ended).nof "user" (by decide)⟩
  · exact ⟨(T.xa_NothingToUndo).xf, (T.xa_NothingToUndo).nof "user" (by decide)⟩
  · exact ⟨(T.xa_Broken).xf, (T.xa_Broken).nof "user" (by decide)⟩
theorem sc_l_cell : FnScope ["_law_cells", "_law_k", "_law_mixed", "_law_cell_here"] ["_law_cells", "_law_k"] (defScope s_l_cell) := ⟨rfl, rfl, rfl, by decide +kernel, rfl, by decide +kernel, by decide +kernel⟩
def m_l_cell : FA := mDef 2 2 finN (mSeq (mIf (mB (mBin ltU (mVar 1) (mCall lenU (mCons (mVar 0) mNil)))) (mRet (mCall intI (mCons (mBin ixU (mVar 0) (mVar 1)) mNil))) mNext)
      (mSeq (mAsg (mBin addU (mBin addU (mC (.int 90001)) (mBin mulU (mBin mulU (mC (.int 7)) (mVar 1)) (mVar 1))) (mBin mulU (mC (.int 3)) (mVar 1))) (gNm 2))
      (mSeq (mFor (iSeq (mSlice (mVar 0) pNo (pSo (mC (.int 4))))) (gNm 3) (mAsg (mBin mdU (mCall intI (mCons (mBin addU (mBin mulU (mVar 2) (mC (.int 69621))) (mBin mulU (mCall intI (mCons (mVar 3) mNil)) (mBin addU (mVar 1) (mC (.int 3))))) mNil)) (mC (.int 2147483629))) (gNm 2)))
      (mRet (mVar 2)))))
theorem ok_l_cell (T : Txt K mg) {a : Addr} {fd : FuncData} (F : FnD K "_law_cell" "_law_cell" s_l_cell [] a fd) : FnOk P w K mg base (L2.CX P w) 1 a fd ["_law_cells", "_law_k"] (spW K m_l_cell) := by
  exact okW F sc_l_cell finN_ok rfl (fun cdv A outer s H E hr => (sw_cons (sw_if (tw_cmp op_lt vr_lt (ev 1) (ew_callB call_len vr_len rfl T.f_len (by decide +kernel) (aw_cons (ev 0) aw_nil)) (nomark _)) (sw_one (sw_ret (ew_callT call_intI vr_intI rfl T.f_int (by decide +kernel) (aw_cons (ew_ix (ev 0) (ev 1)) aw_nil)))) sw_nil)
      (sw_cons (sw_set (i := 2) sc_l_cell.nd rfl (Or.inl rfl) (ew_op (op_addU) vr_add (ew_op (op_addU) vr_add ew_int (ew_op op_mulU vr_mul (ew_op op_mulU vr_mul ew_int (ev 1)) (ev 1))) (ew_op op_mulU vr_mul ew_int (ev 1))))
      (sw_cons (sw_for PassesOwn.never rfl (iw_list (ew_slice (ev 0) pow_no (pow_so ew_int))) (gw_name (i := 3) sc_l_cell.nd rfl (Or.inl rfl)) (sw_one (sw_set (i := 2) sc_l_cell.nd rfl (Or.inl rfl) (ew_op op_modN vr_md (ew_callT call_intI vr_intI rfl T.f_int (by decide +kernel) (aw_cons (ew_op (op_addU) vr_add (ew_op op_mulU vr_mul (ev 2) ew_int) (ew_op op_mulU vr_mul (ew_callT call_intI vr_intI rfl T.f_int (by decide +kernel) (aw_cons (ev 3) aw_nil)) (ew_op (op_addU) vr_add (ev 1) ew_int))) aw_nil)) ew_int))))
      (sw_one (sw_ret (ev 2)))))))
theorem w_l_cell (T : Txt K mg) : Gd P w K mg base 1 "_law_cell" (spW K m_l_cell) := by
  obtain ⟨fd, F⟩ := T.F_l_cell
  exact ⟨_, fd, ["_law_cells", "_law_k"], ok_l_cell T F, T.g_l_cell, F.kp, F.bindsN fun _ _ _ _ _ _ us hl => match us, hl with | [_, _], _ => rfl⟩
theorem sc_l_source : FnScope ["_law_cell_here", "_law_great"] ["_law_cell_here"] (defScope s_l_source) := ⟨rfl, rfl, rfl, by decide +kernel, rfl, by decide +kernel, by decide +kernel⟩
def m_l_source : FA := mDef 1 1 finC (mSeq (mAsg (mIfE (mB (mBin geU (mCall absI (mCons (mVar 0) mNil)) (mBin pwU (mC (.int 10)) (mC (.int 18))))) (mCall absI (mCons (mVar 0) mNil)) (mC (.int 0))) (gNm 1))
      (mRet (mDisp dCell (mCons (mBin mdU (mCall intI (mCons (mBin addU (mBin mulU (mVar 0) (mC (.int 48271))) (mC (.int 977))) mNil)) (mC (.int 2147483629))) (mCons (mVar 1) (mCons (mC (.int 0)) mNil))))))
theorem ok_l_source (T : Txt K mg) {a : Addr} {fd : FuncData} (F : FnD K "_law_source" "_law_source" s_l_source [] a fd) : FnOk P w K mg base (L2.CX P w) 1 a fd ["_law_cell_here"] (spW K m_l_source) := by
  exact okW F sc_l_source finC_ok rfl (fun cdv A outer s H E hr => (sw_cons (sw_set (i := 1) sc_l_source.nd rfl (Or.inl rfl) (ew_ifE (tw_cmp op_ge vr_ge (ew_callB call_absI vr_absI rfl T.f_abs (by decide +kernel) (aw_cons (ev 0) aw_nil)) (ew_op op_pow vr_pw ew_int ew_int) (nomark _)) (ew_callB call_absI vr_absI rfl T.f_abs (by decide +kernel) (aw_cons (ev 0) aw_nil)) ew_int))
      (sw_one (sw_ret (ew_cell (aw_cons (ew_op op_modN vr_md (ew_callT call_intI vr_intI rfl T.f_int (by decide +kernel) (aw_cons (ew_op (op_addU) vr_add (ew_op op_mulU vr_mul (ev 0) ew_int) ew_int) aw_nil)) ew_int) (aw_cons (ev 1) (aw_cons ew_int aw_nil))))))))
theorem w_l_source (T : Txt K mg) : Gd P w K mg base 1 "_law_source" (spW K m_l_source) := by
  obtain ⟨fd, F⟩ := T.F_l_source
  exact ⟨_, fd, ["_law_cell_here"], ok_l_source T F, T.g_l_source, F.kp, F.bindsN fun _ _ _ _ _ _ us hl => match us, hl with | [_], _ => rfl⟩
theorem sc_l_draw : FnScope ["_law_source_here", "_law_many", "_law_first", "_law_turned", "_law_digit"] ["_law_source_here", "_law_many"] (defScope s_l_draw) := ⟨rfl, rfl, rfl, by decide +kernel, rfl, by decide +kernel, by decide +kernel⟩
def m_l_draw : FA := mDef 2 3 finN (mSeq (mAsg (mBin addU (mBin ixU (mVar 0) (mC (.int 2))) (mC (.int 1))) (gSb (mVar 0) (mC (.int 2))))
      (mSeq (mAsg (mCall intI (mCons (mBin ixU (mVar 0) (mC (.int 0))) mNil)) (gNm 2))
      (mSeq (mAsg (mCall intI (mCons (mBin addU (mBin addU (mBin mulU (mVar 2) (mBin addU (mBin mdU (mCall intI (mCons (mVar 2) mNil)) (mC (.int 30011))) (mC (.int 20011)))) (mBin mulU (mC (.int 65539)) (mBin ixU (mVar 0) (mC (.int 2))))) (mC (.int 11))) mNil)) (gNm 3))
      (mSeq (mAsg (mBin mdU (mCall intI (mCons (mVar 3) mNil)) (mC (.int 2147483629))) (gSb (mVar 0) (mC (.int 0))))
      (mSeq (mIf (mB (mBin gtU (mBin ixU (mVar 0) (mC (.int 1))) (mC (.int 0)))) (mSeq (mAsg (mCall dmU (mCons (mBin ixU (mVar 0) (mC (.int 1))) (mCons (mVar 1) mNil))) (gTu 2 (gMore (gSb (mVar 0) (mC (.int 1))) (gMore (gNm 4) gNone))))
        (mRet (mVar 4))) mNext)
      (mRet (mBin mdU (mCall intI (mCons (mBin fdU (mBin ixU (mVar 0) (mC (.int 0))) (mC (.int 128))) mNil)) (mVar 1))))))))
theorem ok_l_draw (T : Txt K mg) {a : Addr} {fd : FuncData} (F : FnD K "_law_draw" "_law_draw" s_l_draw [] a fd) : FnOk P w K mg base (L2.CX P w) 1 a fd ["_law_source_here", "_law_many"] (spW K m_l_draw) := by
  exact okW F sc_l_draw finN_ok rfl (fun cdv A outer s H E hr => (sw_cons (sw_asg (ew_op (op_addU) vr_add (ew_ix (ev 0) ew_int) ew_int) (gw_sub (ev 0) ew_int))
      (sw_cons (sw_set (i := 2) sc_l_draw.nd rfl (Or.inl rfl) (ew_callT call_intI vr_intI rfl T.f_int (by decide +kernel) (aw_cons (ew_ix (ev 0) ew_int) aw_nil)))
      (sw_cons (sw_set (i := 3) sc_l_draw.nd rfl (Or.inl rfl) (ew_callT call_intI vr_intI rfl T.f_int (by decide +kernel) (aw_cons (ew_op (op_addU) vr_add (ew_op (op_addU) vr_add (ew_op op_mulU vr_mul (ev 2) (ew_op (op_addU) vr_add (ew_op op_modN vr_md (ew_callT call_intI vr_intI rfl T.f_int (by decide +kernel) (aw_cons (ev 2) aw_nil)) ew_int) ew_int)) (ew_op op_mulU vr_mul ew_int (ew_ix (ev 0) ew_int))) ew_int) aw_nil)))
      (sw_cons (sw_asg (ew_op op_modN vr_md (ew_callT call_intI vr_intI rfl T.f_int (by decide +kernel) (aw_cons (ev 3) aw_nil)) ew_int) (gw_sub (ev 0) ew_int))
      (sw_cons (sw_if (tw_cmp op_gt vr_gt (ew_ix (ev 0) ew_int) ew_int (nomark _)) (sw_cons (sw_asg (ew_callB call_divmodA vr_dm rfl T.f_divmod (by decide +kernel) (aw_cons (ew_ix (ev 0) ew_int) (aw_cons (ev 1) aw_nil))) (gw_tu rfl (gsw_cons (gw_sub (ev 0) ew_int) (gsw_cons (gw_name (i := 4) sc_l_draw.nd rfl (Or.inl rfl)) gsw_nil))))
        (sw_one (sw_ret (ev 4)))) sw_nil)
      (sw_one (sw_ret (ew_op op_modN vr_md (ew_callT call_intI vr_intI rfl T.f_int (by decide +kernel) (aw_cons (ew_op op_fdA vr_fd (ew_ix (ev 0) ew_int) ew_int) aw_nil)) (ev 1))))))))))
theorem w_l_draw (T : Txt K mg) : Gd P w K mg base 1 "_law_draw" (spW K m_l_draw) := by
  obtain ⟨fd, F⟩ := T.F_l_draw
  exact ⟨_, fd, ["_law_source_here", "_law_many"], ok_l_draw T F, T.g_l_draw, F.kp, F.bindsN fun _ _ _ _ _ _ us hl => match us, hl with | [_, _], _ => rfl⟩
theorem sc_l_odd : FnScope ["_law_source_here", "_law_menu"] ["_law_source_here"] (defScope s_l_odd) := ⟨rfl, rfl, rfl, by decide +kernel, rfl, by decide +kernel, by decide +kernel⟩
def m_l_odd : FA := mDef 1 1 finN (mSeq (mAsg (mDisp dLst (mCons (mC .non) (mCons (mC (.int 0)) (mCons (mC (.bl true)) (mCons (mC (.str "x")) (mCons (mDisp dTup mNil) (mCons (mDisp dLst (mCons (mC (.int 1)) mNil)) (mCons (mDic []) (mCons (mUn ngU (mC (.int 1))) (mCons (mBin pwU (mC (.int 10)) (mC (.int 39))) (mCons (mDisp dTup (mCons (mC (.str "a")) (mCons (mC .non) mNil))) (mCons (mC (.str "InvalidText")) (mCons (mDisp dLst (mCons (mDisp dLst mNil) (mCons (mDic [(.inr "k", .int 2)]) mNil))) (mCons (mC (.bl false)) (mCons (mC (.int 1)) mNil))))))))))))))) (gNm 1))
      (mRet (mBin ixU (mVar 1) (mCall m_l_draw (mCons (mVar 0) (mCons (mC (.int 14)) mNil))))))
theorem ok_l_odd (T : Txt K mg) {a : Addr} {fd : FuncData} (F : FnD K "_law_odd" "_law_odd" s_l_odd [] a fd) : FnOk P w K mg base (L2.CX P w) 2 a fd ["_law_source_here"] (spW K m_l_odd) := by
  have G_l_draw := w_l_draw (P := P) (w := w) (base := base) T
  exact okW F sc_l_odd finN_ok rfl (fun cdv A outer s H E hr => (sw_cons (sw_set (i := 1) sc_l_odd.nd rfl (Or.inl rfl) (ew_lst (aw_cons ew_non (aw_cons ew_int (aw_cons ew_bl (aw_cons ew_str (aw_cons (ew_tup aw_nil) (aw_cons (ew_lst (aw_cons ew_int aw_nil)) (aw_cons ew_dic0 (aw_cons (ew_un un_neg vr_ng ew_int) (aw_cons (ew_op op_pow vr_pw ew_int ew_int) (aw_cons (ew_tup (aw_cons ew_str (aw_cons ew_non aw_nil))) (aw_cons ew_str (aw_cons (ew_lst (aw_cons (ew_lst aw_nil) (aw_cons (ew_dic1 (key := .inr "k") (w := .int 2) (v := .int 2) pe_str pe_int (fun _ => rfl)) aw_nil))) (aw_cons ew_bl (aw_cons ew_int aw_nil))))))))))))))))
      (sw_one (sw_ret (ew_ix (ev 1) (ew_gd G_l_draw hr (aw_cons (ev 0) (aw_cons ew_int aw_nil))))))))
theorem w_l_odd (T : Txt K mg) : Gd P w K mg base 2 "_law_odd" (spW K m_l_odd) := by
  obtain ⟨fd, F⟩ := T.F_l_odd
  exact ⟨_, fd, ["_law_source_here"], ok_l_odd T F, T.g_l_odd, F.kp, F.bindsN fun _ _ _ _ _ _ us hl => match us, hl with | [_], _ => rfl⟩
theorem sc_l_names_of_classes : FnScope ["_law_found"] [] (defScope s_l_names_of_classes) := ⟨rfl, rfl, rfl, by decide +kernel, rfl, by decide +kernel, by decide +kernel⟩
def m_l_names_of_classes : FA := mDef 0 1 finN (mSeq (mAsg (mDisp dLst (mCons (mC (.str "InvalidNumber")) (mCons (mC (.str "InvalidText")) (mCons (mC (.str "InvalidCount")) (mCons (mC (.str "InvalidName")) (mCons (mC (.str "InvalidTruth")) (mCons (mC (.str "InvalidEntries")) mNil))))))) (gNm 0))
      (mSeq (mAsg (mBin addU (mVar 0) (mDisp dLst (mCons (mC (.str "InvalidData")) (mCons (mC (.str "InvalidLength")) (mCons (mC (.str "InvalidPath")) (mCons (mC (.str "InvalidClaim")) (mCons (mC (.str "InvalidIndex")) (mCons (mC (.str "NotAFormula")) mNil)))))))) (gNm 0))
      (mSeq (mAsg (mBin addU (mVar 0) (mDisp dLst (mCons (mC (.str "NotASeries")) (mCons (mC (.str "NotARunner")) (mCons (mC (.str "TextError")) (mCons (mC (.str "UnknownName")) (mCons (mC (.str "Taken")) (mCons (mC (.str "InUse")) (mCons (mC (.str "Circular")) (mCons (mC (.str "Clash")) mNil)))))))))) (gNm 0))
      (mSeq (mAsg (mBin addU (mVar 0) (mDisp dLst (mCons (mC (.str "NoSeries")) (mCons (mC (.str "NoEntry")) (mCons (mC (.str "NotMade")) (mCons (mC (.str "DividedByZero")) (mCons (mC (.str "TooLarge")) (mCons (mC (.str "TooHeavy")) (mCons (mC (.str "NotUndoable")) mNil))))))))) (gNm 0))
      (mRet (mBin addU (mVar 0) (mDisp dLst (mCons (mC (.str "NoWay")) (mCons (mC (.str "Ended")) (mCons (mC (.str "NothingToUndo")) (mCons (mC (.str "Broken")) mNil)))))))))))
theorem ok_l_names_of_classes (T : Txt K mg) {a : Addr} {fd : FuncData} (F : FnD K "_law_names_of_classes" "_law_names_of_classes" s_l_names_of_classes [] a fd) : FnOk P w K mg base (L2.CX P w) 1 a fd [] (spW K m_l_names_of_classes) := by
  exact okW F sc_l_names_of_classes finN_ok rfl (fun cdv A outer s H E hr => (sw_cons (sw_set (i := 0) sc_l_names_of_classes.nd rfl (Or.inl rfl) (ew_lst (aw_cons ew_str (aw_cons ew_str (aw_cons ew_str (aw_cons ew_str (aw_cons ew_str (aw_cons ew_str aw_nil))))))))
      (sw_cons (sw_set (i := 0) sc_l_names_of_classes.nd rfl (Or.inl rfl) (ew_op (op_addU) vr_add (ev 0) (ew_lst (aw_cons ew_str (aw_cons ew_str (aw_cons ew_str (aw_cons ew_str (aw_cons ew_str (aw_cons ew_str aw_nil)))))))))
      (sw_cons (sw_set (i := 0) sc_l_names_of_classes.nd rfl (Or.inl rfl) (ew_op (op_addU) vr_add (ev 0) (ew_lst (aw_cons ew_str (aw_cons ew_str (aw_cons ew_str (aw_cons ew_str (aw_cons ew_str (aw_cons ew_str (aw_cons ew_str (aw_cons ew_str aw_nil)))))))))))
      (sw_cons (sw_set (i := 0) sc_l_names_of_classes.nd rfl (Or.inl rfl) (ew_op (op_addU) vr_add (ev 0) (ew_lst (aw_cons ew_str (aw_cons ew_str (aw_cons ew_str (aw_cons ew_str (aw_cons ew_str (aw_cons ew_str (aw_cons ew_str aw_nil))))))))))
      (sw_one (sw_ret (ew_op (op_addU) vr_add (ev 0) (ew_lst (aw_cons ew_str (aw_cons ew_str (aw_cons ew_str (aw_cons ew_str aw_nil)))))))))))))
theorem w_l_names_of_classes (T : Txt K mg) : Gd P w K mg base 1 "_law_names_of_classes" (spW K m_l_names_of_classes) := by
  obtain ⟨fd, F⟩ := T.F_l_names_of_classes
  exact ⟨_, fd, [], ok_l_names_of_classes T F, T.g_l_names_of_classes, F.kp, F.bindsN fun _ _ _ _ _ _ us hl => match us, hl with | [], _ => rfl⟩
theorem sc_InvalidName_DinitD : FnScope ["self", "given"] ["self", "given"] (defScope s_InvalidName_DinitD) := ⟨rfl, rfl, rfl, by decide +kernel, rfl, by decide +kernel, by decide +kernel⟩
theorem xmk_InvalidName_0_given (T : Txt K mg) : XMk P w K mg base "InvalidName" ["given"] 0 ["given"] [.k 0] := by
  obtain ⟨fd, F⟩ := T.F_InvalidName_DinitD
  exact ⟨"ValueError", _, _, _, fd, ["self", "given"], _, [.p 0, .k 0], PySem.F.excBase_ValueError, (T.xa_InvalidName).xc, (T.xa_InvalidName).xi, T.g_InvalidName, okX1 (B := "ValueError") PySem.F.store_ValueError (T.xa_InvalidName).xc F sc_InvalidName_DinitD rfl ((T.xa_InvalidName).nof "given" (by decide)) (Or.inl rfl) (Or.inl rfl), (kdr_0 F 1 ["given"] [.p 0, .k 0] fun _ _ _ _ _ _ us ws h1 h2 => match us, h1, ws, h2 with | [_], _, [_], _ => rfl), fun _ _ _ => rfl, .inl ⟨"given", rfl, rfl⟩⟩
theorem sc_InvalidCount_DinitD : FnScope ["self", "given"] ["self", "given"] (defScope s_InvalidCount_DinitD) := ⟨rfl, rfl, rfl, by decide +kernel, rfl, by decide +kernel, by decide +kernel⟩
theorem xmk_InvalidCount_0_given (T : Txt K mg) : XMk P w K mg base "InvalidCount" ["given"] 0 ["given"] [.k 0] := by
  obtain ⟨fd, F⟩ := T.F_InvalidCount_DinitD
  exact ⟨"ValueError", _, _, _, fd, ["self", "given"], _, [.p 0, .k 0], PySem.F.excBase_ValueError, (T.xa_InvalidCount).xc, (T.xa_InvalidCount).xi, T.g_InvalidCount, okX1 (B := "ValueError") PySem.F.store_ValueError (T.xa_InvalidCount).xc F sc_InvalidCount_DinitD rfl ((T.xa_InvalidCount).nof "given" (by decide)) (Or.inl rfl) (Or.inl rfl), (kdr_0 F 1 ["given"] [.p 0, .k 0] fun _ _ _ _ _ _ us ws h1 h2 => match us, h1, ws, h2 with | [_], _, [_], _ => rfl), fun _ _ _ => rfl, .inl ⟨"given", rfl, rfl⟩⟩
theorem sc_InvalidText_DinitD : FnScope ["self", "given"] ["self", "given"] (defScope s_InvalidText_DinitD) := ⟨rfl, rfl, rfl, by decide +kernel, rfl, by decide +kernel, by decide +kernel⟩
theorem xmk_InvalidText_0_given (T : Txt K mg) : XMk P w K mg base "InvalidText" ["given"] 0 ["given"] [.k 0] := by
  obtain ⟨fd, F⟩ := T.F_InvalidText_DinitD
  exact ⟨"ValueError", _, _, _, fd, ["self", "given"], _, [.p 0, .k 0], PySem.F.excBase_ValueError, (T.xa_InvalidText).xc, (T.xa_InvalidText).xi, T.g_InvalidText, okX1 (B := "ValueError") PySem.F.store_ValueError (T.xa_InvalidText).xc F sc_InvalidText_DinitD rfl ((T.xa_InvalidText).nof "given" (by decide)) (Or.inl rfl) (Or.inl rfl), (kdr_0 F 1 ["given"] [.p 0, .k 0] fun _ _ _ _ _ _ us ws h1 h2 => match us, h1, ws, h2 with | [_], _, [_], _ => rfl), fun _ _ _ => rfl, .inl ⟨"given", rfl, rfl⟩⟩
theorem sc_InvalidNumber_DinitD : FnScope ["self", "given"] ["self", "given"] (defScope s_InvalidNumber_DinitD) := ⟨rfl, rfl, rfl, by decide +kernel, rfl, by decide +kernel, by decide +kernel⟩
theorem xmk_InvalidNumber_0_given (T : Txt K mg) : XMk P w K mg base "InvalidNumber" ["given"] 0 ["given"] [.k 0] := by
  obtain ⟨fd, F⟩ := T.F_InvalidNumber_DinitD
  exact ⟨"ValueError", _, _, _, fd, ["self", "given"], _, [.p 0, .k 0], PySem.F.excBase_ValueError, (T.xa_InvalidNumber).xc, (T.xa_InvalidNumber).xi, T.g_InvalidNumber, okX1 (B := "ValueError") PySem.F.store_ValueError (T.xa_InvalidNumber).xc F sc_InvalidNumber_DinitD rfl ((T.xa_InvalidNumber).nof "given" (by decide)) (Or.inl rfl) (Or.inl rfl), (kdr_0 F 1 ["given"] [.p 0, .k 0] fun _ _ _ _ _ _ us ws h1 h2 => match us, h1, ws, h2 with | [_], _, [_], _ => rfl), fun _ _ _ => rfl, .inl ⟨"given", rfl, rfl⟩⟩
theorem sc_InvalidData_DinitD : FnScope ["self", "given"] ["self", "given"] (defScope s_InvalidData_DinitD) := ⟨rfl, rfl, rfl, by decide +kernel, rfl, by decide +kernel, by decide +kernel⟩
theorem xmk_InvalidData_0_given (T : Txt K mg) : XMk P w K mg base "InvalidData" ["given"] 0 ["given"] [.k 0] := by
  obtain ⟨fd, F⟩ := T.F_InvalidData_DinitD
  exact ⟨"ValueError", _, _, _, fd, ["self", "given"], _, [.p 0, .k 0], PySem.F.excBase_ValueError, (T.xa_InvalidData).xc, (T.xa_InvalidData).xi, T.g_InvalidData, okX1 (B := "ValueError") PySem.F.store_ValueError (T.xa_InvalidData).xc F sc_InvalidData_DinitD rfl ((T.xa_InvalidData).nof "given" (by decide)) (Or.inl rfl) (Or.inl rfl), (kdr_0 F 1 ["given"] [.p 0, .k 0] fun _ _ _ _ _ _ us ws h1 h2 => match us, h1, ws, h2 with | [_], _, [_], _ => rfl), fun _ _ _ => rfl, .inl ⟨"given", rfl, rfl⟩⟩
theorem sc_InvalidEntries_DinitD : FnScope ["self", "given"] ["self", "given"] (defScope s_InvalidEntries_DinitD) := ⟨rfl, rfl, rfl, by decide +kernel, rfl, by decide +kernel, by decide +kernel⟩
theorem xmk_InvalidEntries_0_given (T : Txt K mg) : XMk P w K mg base "InvalidEntries" ["given"] 0 ["given"] [.k 0] := by
  obtain ⟨fd, F⟩ := T.F_InvalidEntries_DinitD
  exact ⟨"ValueError", _, _, _, fd, ["self", "given"], _, [.p 0, .k 0], PySem.F.excBase_ValueError, (T.xa_InvalidEntries).xc, (T.xa_InvalidEntries).xi, T.g_InvalidEntries, okX1 (B := "ValueError") PySem.F.store_ValueError (T.xa_InvalidEntries).xc F sc_InvalidEntries_DinitD rfl ((T.xa_InvalidEntries).nof "given" (by decide)) (Or.inl rfl) (Or.inl rfl), (kdr_0 F 1 ["given"] [.p 0, .k 0] fun _ _ _ _ _ _ us ws h1 h2 => match us, h1, ws, h2 with | [_], _, [_], _ => rfl), fun _ _ _ => rfl, .inl ⟨"given", rfl, rfl⟩⟩
theorem sc_InvalidTruth_DinitD : FnScope ["self", "given"] ["self", "given"] (defScope s_InvalidTruth_DinitD) := ⟨rfl, rfl, rfl, by decide +kernel, rfl, by decide +kernel, by decide +kernel⟩
theorem xmk_InvalidTruth_0_given (T : Txt K mg) : XMk P w K mg base "InvalidTruth" ["given"] 0 ["given"] [.k 0] := by
  obtain ⟨fd, F⟩ := T.F_InvalidTruth_DinitD
  exact ⟨"ValueError", _, _, _, fd, ["self", "given"], _, [.p 0, .k 0], PySem.F.excBase_ValueError, (T.xa_InvalidTruth).xc, (T.xa_InvalidTruth).xi, T.g_InvalidTruth, okX1 (B := "ValueError") PySem.F.store_ValueError (T.xa_InvalidTruth).xc F sc_InvalidTruth_DinitD rfl ((T.xa_InvalidTruth).nof "given" (by decide)) (Or.inl rfl) (Or.inl rfl), (kdr_0 F 1 ["given"] [.p 0, .k 0] fun _ _ _ _ _ _ us ws h1 h2 => match us, h1, ws, h2 with | [_], _, [_], _ => rfl), fun _ _ _ => rfl, .inl ⟨"given", rfl, rfl⟩⟩
end
end Q01
namespace Q01
open PySem PySem.Spec PyProof.Rows L2 He Rt Pz LamX
section
variable {P : Program} {w : World} {K : PySem.W.Frag} {mg : Str → Option Value} {base : Heap}
theorem sc_InvalidClaim_DinitD : FnScope ["self", "given"] ["self", "given"] (defScope s_InvalidClaim_DinitD) := ⟨rfl, rfl, rfl, by decide +kernel, rfl, by decide +kernel, by decide +kernel⟩
theorem xmk_InvalidClaim_0_given (T : Txt K mg) : XMk P w K mg base "InvalidClaim" ["given"] 0 ["given"] [.k 0] := by
  obtain ⟨fd, F⟩ := T.F_InvalidClaim_DinitD
  exact ⟨"ValueError", _, _, _, fd, ["self", "given"], _, [.p 0, .k 0], PySem.F.excBase_ValueError, (T.xa_InvalidClaim).xc, (T.xa_InvalidClaim).xi, T.g_InvalidClaim, okX1 (B := "ValueError") PySem.F.store_ValueError (T.xa_InvalidClaim).xc F sc_InvalidClaim_DinitD rfl ((T.xa_InvalidClaim).nof "given" (by decide)) (Or.inl rfl) (Or.inl rfl), (kdr_0 F 1 ["given"] [.p 0, .k 0] fun _ _ _ _ _ _ us ws h1 h2 => match us, h1, ws, h2 with | [_], _, [_], _ => rfl), fun _ _ _ => rfl, .inl ⟨"given", rfl, rfl⟩⟩
theorem sc_InvalidPath_DinitD : FnScope ["self", "given"] ["self", "given"] (defScope s_InvalidPath_DinitD) := ⟨rfl, rfl, rfl, by decide +kernel, rfl, by decide +kernel, by decide +kernel⟩
theorem xmk_InvalidPath_0_given (T : Txt K mg) : XMk P w K mg base "InvalidPath" ["given"] 0 ["given"] [.k 0] := by
  obtain ⟨fd, F⟩ := T.F_InvalidPath_DinitD
  exact ⟨"ValueError", _, _, _, fd, ["self", "given"], _, [.p 0, .k 0], PySem.F.excBase_ValueError, (T.xa_InvalidPath).xc, (T.xa_InvalidPath).xi, T.g_InvalidPath, okX1 (B := "ValueError") PySem.F.store_ValueError (T.xa_InvalidPath).xc F sc_InvalidPath_DinitD rfl ((T.xa_InvalidPath).nof "given" (by decide)) (Or.inl rfl) (Or.inl rfl), (kdr_0 F 1 ["given"] [.p 0, .k 0] fun _ _ _ _ _ _ us ws h1 h2 => match us, h1, ws, h2 with | [_], _, [_], _ => rfl), fun _ _ _ => rfl, .inl ⟨"given", rfl, rfl⟩⟩
theorem sc_InvalidLength_DinitD : FnScope ["self", "given"] ["self", "given"] (defScope s_InvalidLength_DinitD) := ⟨rfl, rfl, rfl, by decide +kernel, rfl, by decide +kernel, by decide +kernel⟩
theorem xmk_InvalidLength_0_given (T : Txt K mg) : XMk P w K mg base "InvalidLength" ["given"] 0 ["given"] [.k 0] := by
  obtain ⟨fd, F⟩ := T.F_InvalidLength_DinitD
  exact ⟨"ValueError", _, _, _, fd, ["self", "given"], _, [.p 0, .k 0], PySem.F.excBase_ValueError, (T.xa_InvalidLength).xc, (T.xa_InvalidLength).xi, T.g_InvalidLength, okX1 (B := "ValueError") PySem.F.store_ValueError (T.xa_InvalidLength).xc F sc_InvalidLength_DinitD rfl ((T.xa_InvalidLength).nof "given" (by decide)) (Or.inl rfl) (Or.inl rfl), (kdr_0 F 1 ["given"] [.p 0, .k 0] fun _ _ _ _ _ _ us ws h1 h2 => match us, h1, ws, h2 with | [_], _, [_], _ => rfl), fun _ _ _ => rfl, .inl ⟨"given", rfl, rfl⟩⟩
theorem sc_NotARunner_DinitD : FnScope ["self", "given"] ["self", "given"] (defScope s_NotARunner_DinitD) := ⟨rfl, rfl, rfl, by decide +kernel, rfl, by decide +kernel, by decide +kernel⟩
theorem xmk_NotARunner_0_given (T : Txt K mg) : XMk P w K mg base "NotARunner" ["given"] 0 ["given"] [.k 0] := by
  obtain ⟨fd, F⟩ := T.F_NotARunner_DinitD
  exact ⟨"ValueError", _, _, _, fd, ["self", "given"], _, [.p 0, .k 0], PySem.F.excBase_ValueError, (T.xa_NotARunner).xc, (T.xa_NotARunner).xi, T.g_NotARunner, okX1 (B := "ValueError") PySem.F.store_ValueError (T.xa_NotARunner).xc F sc_NotARunner_DinitD rfl ((T.xa_NotARunner).nof "given" (by decide)) (Or.inl rfl) (Or.inl rfl), (kdr_0 F 1 ["given"] [.p 0, .k 0] fun _ _ _ _ _ _ us ws h1 h2 => match us, h1, ws, h2 with | [_], _, [_], _ => rfl), fun _ _ _ => rfl, .inl ⟨"given", rfl, rfl⟩⟩
theorem sc_NotASeries_DinitD : FnScope ["self", "given"] ["self", "given"] (defScope s_NotASeries_DinitD) := ⟨rfl, rfl, rfl, by decide +kernel, rfl, by decide +kernel, by decide +kernel⟩
theorem xmk_NotASeries_0_given (T : Txt K mg) : XMk P w K mg base "NotASeries" ["given"] 0 ["given"] [.k 0] := by
  obtain ⟨fd, F⟩ := T.F_NotASeries_DinitD
  exact ⟨"ValueError", _, _, _, fd, ["self", "given"], _, [.p 0, .k 0], PySem.F.excBase_ValueError, (T.xa_NotASeries).xc, (T.xa_NotASeries).xi, T.g_NotASeries, okX1 (B := "ValueError") PySem.F.store_ValueError (T.xa_NotASeries).xc F sc_NotASeries_DinitD rfl ((T.xa_NotASeries).nof "given" (by decide)) (Or.inl rfl) (Or.inl rfl), (kdr_0 F 1 ["given"] [.p 0, .k 0] fun _ _ _ _ _ _ us ws h1 h2 => match us, h1, ws, h2 with | [_], _, [_], _ => rfl), fun _ _ _ => rfl, .inl ⟨"given", rfl, rfl⟩⟩
theorem sc_NotAFormula_DinitD : FnScope ["self", "given"] ["self", "given"] (defScope s_NotAFormula_DinitD) := ⟨rfl, rfl, rfl, by decide +kernel, rfl, by decide +kernel, by decide +kernel⟩
theorem xmk_NotAFormula_0_given (T : Txt K mg) : XMk P w K mg base "NotAFormula" ["given"] 0 ["given"] [.k 0] := by
  obtain ⟨fd, F⟩ := T.F_NotAFormula_DinitD
  exact ⟨"ValueError", _, _, _, fd, ["self", "given"], _, [.p 0, .k 0], PySem.F.excBase_ValueError, (T.xa_NotAFormula).xc, (T.xa_NotAFormula).xi, T.g_NotAFormula, okX1 (B := "ValueError") PySem.F.store_ValueError (T.xa_NotAFormula).xc F sc_NotAFormula_DinitD rfl ((T.xa_NotAFormula).nof "given" (by decide)) (Or.inl rfl) (Or.inl rfl), (kdr_0 F 1 ["given"] [.p 0, .k 0] fun _ _ _ _ _ _ us ws h1 h2 => match us, h1, ws, h2 with | [_], _, [_], _ => rfl), fun _ _ _ => rfl, .inl ⟨"given", rfl, rfl⟩⟩
theorem sc_InvalidIndex_DinitD : FnScope ["self", "given"] ["self", "given"] (defScope s_InvalidIndex_DinitD) := ⟨rfl, rfl, rfl, by decide +kernel, rfl, by decide +kernel, by decide +kernel⟩
theorem xmk_InvalidIndex_0_given (T : Txt K mg) : XMk P w K mg base "InvalidIndex" ["given"] 0 ["given"] [.k 0] := by
  obtain ⟨fd, F⟩ := T.F_InvalidIndex_DinitD
  exact ⟨"ValueError", _, _, _, fd, ["self", "given"], _, [.p 0, .k 0], PySem.F.excBase_ValueError, (T.xa_InvalidIndex).xc, (T.xa_InvalidIndex).xi, T.g_InvalidIndex, okX1 (B := "ValueError") PySem.F.store_ValueError (T.xa_InvalidIndex).xc F sc_InvalidIndex_DinitD rfl ((T.xa_InvalidIndex).nof "given" (by decide)) (Or.inl rfl) (Or.inl rfl), (kdr_0 F 1 ["given"] [.p 0, .k 0] fun _ _ _ _ _ _ us ws h1 h2 => match us, h1, ws, h2 with | [_], _, [_], _ => rfl), fun _ _ _ => rfl, .inl ⟨"given", rfl, rfl⟩⟩
theorem sc_InUse_DinitD : FnScope ["self", "user"] ["self", "user"] (defScope s_InUse_DinitD) := ⟨rfl, rfl, rfl, by decide +kernel, rfl, by decide +kernel, by decide +kernel⟩
theorem xmk_InUse_0_user (T : Txt K mg) : XMk P w K mg base "InUse" ["user"] 0 ["user"] [.k 0] := by
  obtain ⟨fd, F⟩ := T.F_InUse_DinitD
  exact ⟨"LookupError", _, _, _, fd, ["self", "user"], _, [.p 0, .k 0], PySem.F.excBase_LookupError, (T.xa_InUse).xc, (T.xa_InUse).xi, T.g_InUse, okX1 (B := "LookupError") PySem.F.store_LookupError (T.xa_InUse).xc F sc_InUse_DinitD rfl ((T.xa_InUse).nof "user" (by decide)) (Or.inl rfl) (Or.inl rfl), (kdr_0 F 1 ["user"] [.p 0, .k 0] fun _ _ _ _ _ _ us ws h1 h2 => match us, h1, ws, h2 with | [_], _, [_], _ => rfl), fun _ _ _ => rfl, .inl ⟨"user", rfl, rfl⟩⟩
theorem sc_Taken_DinitD : FnScope ["self", "given"] ["self", "given"] (defScope s_Taken_DinitD) := ⟨rfl, rfl, rfl, by decide +kernel, rfl, by decide +kernel, by decide +kernel⟩
theorem xmk_Taken_0_given (T : Txt K mg) : XMk P w K mg base "Taken" ["given"] 0 ["given"] [.k 0] := by
  obtain ⟨fd, F⟩ := T.F_Taken_DinitD
  exact ⟨"LookupError", _, _, _, fd, ["self", "given"], _, [.p 0, .k 0], PySem.F.excBase_LookupError, (T.xa_Taken).xc, (T.xa_Taken).xi, T.g_Taken, okX1 (B := "LookupError") PySem.F.store_LookupError (T.xa_Taken).xc F sc_Taken_DinitD rfl ((T.xa_Taken).nof "given" (by decide)) (Or.inl rfl) (Or.inl rfl), (kdr_0 F 1 ["given"] [.p 0, .k 0] fun _ _ _ _ _ _ us ws h1 h2 => match us, h1, ws, h2 with | [_], _, [_], _ => rfl), fun _ _ _ => rfl, .inl ⟨"given", rfl, rfl⟩⟩
theorem sc_UnknownName_DinitD : FnScope ["self", "given"] ["self", "given"] (defScope s_UnknownName_DinitD) := ⟨rfl, rfl, rfl, by decide +kernel, rfl, by decide +kernel, by decide +kernel⟩
theorem xmk_UnknownName_0_given (T : Txt K mg) : XMk P w K mg base "UnknownName" ["given"] 0 ["given"] [.k 0] := by
  obtain ⟨fd, F⟩ := T.F_UnknownName_DinitD
  exact ⟨"LookupError", _, _, _, fd, ["self", "given"], _, [.p 0, .k 0], PySem.F.excBase_LookupError, (T.xa_UnknownName).xc, (T.xa_UnknownName).xi, T.g_UnknownName, okX1 (B := "LookupError") PySem.F.store_LookupError (T.xa_UnknownName).xc F sc_UnknownName_DinitD rfl ((T.xa_UnknownName).nof "given" (by decide)) (Or.inl rfl) (Or.inl rfl), (kdr_0 F 1 ["given"] [.p 0, .k 0] fun _ _ _ _ _ _ us ws h1 h2 => match us, h1, ws, h2 with | [_], _, [_], _ => rfl), fun _ _ _ => rfl, .inl ⟨"given", rfl, rfl⟩⟩
theorem sc_TextError_DinitD : FnScope ["self", "place"] ["self", "place"] (defScope s_TextError_DinitD) := ⟨rfl, rfl, rfl, by decide +kernel, rfl, by decide +kernel, by decide +kernel⟩
theorem xmk_TextError_0_place (T : Txt K mg) : XMk P w K mg base "TextError" ["place"] 0 ["place"] [.k 0] := by
  obtain ⟨fd, F⟩ := T.F_TextError_DinitD
  exact ⟨"ValueError", _, _, _, fd, ["self", "place"], _, [.p 0, .k 0], PySem.F.excBase_ValueError, (T.xa_TextError).xc, (T.xa_TextError).xi, T.g_TextError, okX1 (B := "ValueError") PySem.F.store_ValueError (T.xa_TextError).xc F sc_TextError_DinitD rfl ((T.xa_TextError).nof "place" (by decide)) (Or.inl rfl) (Or.inl rfl), (kdr_0 F 1 ["place"] [.p 0, .k 0] fun _ _ _ _ _ _ us ws h1 h2 => match us, h1, ws, h2 with | [_], _, [_], _ => rfl), fun _ _ _ => rfl, .inl ⟨"place", rfl, rfl⟩⟩
theorem sc_NotMade_DinitD : FnScope ["self", "given"] ["self", "given"] (defScope s_NotMade_DinitD) := ⟨rfl, rfl, rfl, by decide +kernel, rfl, by decide +kernel, by decide +kernel⟩
theorem xmk_NotMade_0_given (T : Txt K mg) : XMk P w K mg base "NotMade" ["given"] 0 ["given"] [.k 0] := by
  obtain ⟨fd, F⟩ := T.F_NotMade_DinitD
  exact ⟨"LookupError", _, _, _, fd, ["self", "given"], _, [.p 0, .k 0], PySem.F.excBase_LookupError, (T.xa_NotMade).xc, (T.xa_NotMade).xi, T.g_NotMade, okX1 (B := "LookupError") PySem.F.store_LookupError (T.xa_NotMade).xc F sc_NotMade_DinitD rfl ((T.xa_NotMade).nof "given" (by decide)) (Or.inl rfl) (Or.inl rfl), (kdr_0 F 1 ["given"] [.p 0, .k 0] fun _ _ _ _ _ _ us ws h1 h2 => match us, h1, ws, h2 with | [_], _, [_], _ => rfl), fun _ _ _ => rfl, .inl ⟨"given", rfl, rfl⟩⟩
end
end Q01
namespace Q01
open PySem PySem.Spec PyProof.Rows L2 He Rt Pz LamX
section
variable {P : Program} {w : World} {K : PySem.W.Frag} {mg : Str → Option Value} {base : Heap}
theorem sc_NoEntry_DinitD : FnScope ["self", "given"] ["self", "given"] (defScope s_NoEntry_DinitD) := ⟨rfl, rfl, rfl, by decide +kernel, rfl, by decide +kernel, by decide +kernel⟩
theorem xmk_NoEntry_0_given (T : Txt K mg) : XMk P w K mg base "NoEntry" ["given"] 0 ["given"] [.k 0] := by
  obtain ⟨fd, F⟩ := T.F_NoEntry_DinitD
  exact ⟨"LookupError", _, _, _, fd, ["self", "given"], _, [.p 0, .k 0], PySem.F.excBase_LookupError, (T.xa_NoEntry).xc, (T.xa_NoEntry).xi, T.g_NoEntry, okX1 (B := "LookupError") PySem.F.store_LookupError (T.xa_NoEntry).xc F sc_NoEntry_DinitD rfl ((T.xa_NoEntry).nof "given" (by decide)) (Or.inl rfl) (Or.inl rfl), (kdr_0 F 1 ["given"] [.p 0, .k 0] fun _ _ _ _ _ _ us ws h1 h2 => match us, h1, ws, h2 with | [_], _, [_], _ => rfl), fun _ _ _ => rfl, .inl ⟨"given", rfl, rfl⟩⟩
theorem sc_NoSeries_DinitD : FnScope ["self", "given"] ["self", "given"] (defScope s_NoSeries_DinitD) := ⟨rfl, rfl, rfl, by decide +kernel, rfl, by decide +kernel, by decide +kernel⟩
theorem xmk_NoSeries_0_given (T : Txt K mg) : XMk P w K mg base "NoSeries" ["given"] 0 ["given"] [.k 0] := by
  obtain ⟨fd, F⟩ := T.F_NoSeries_DinitD
  exact ⟨"LookupError", _, _, _, fd, ["self", "given"], _, [.p 0, .k 0], PySem.F.excBase_LookupError, (T.xa_NoSeries).xc, (T.xa_NoSeries).xi, T.g_NoSeries, okX1 (B := "LookupError") PySem.F.store_LookupError (T.xa_NoSeries).xc F sc_NoSeries_DinitD rfl ((T.xa_NoSeries).nof "given" (by decide)) (Or.inl rfl) (Or.inl rfl), (kdr_0 F 1 ["given"] [.p 0, .k 0] fun _ _ _ _ _ _ us ws h1 h2 => match us, h1, ws, h2 with | [_], _, [_], _ => rfl), fun _ _ _ => rfl, .inl ⟨"given", rfl, rfl⟩⟩
theorem sc_Clash_DinitD : FnScope ["self", "given"] ["self", "given"] (defScope s_Clash_DinitD) := ⟨rfl, rfl, rfl, by decide +kernel, rfl, by decide +kernel, by decide +kernel⟩
theorem xmk_Clash_0_given (T : Txt K mg) : XMk P w K mg base "Clash" ["given"] 0 ["given"] [.k 0] := by
  obtain ⟨fd, F⟩ := T.F_Clash_DinitD
  exact ⟨"LookupError", _, _, _, fd, ["self", "given"], _, [.p 0, .k 0], PySem.F.excBase_LookupError, (T.xa_Clash).xc, (T.xa_Clash).xi, T.g_Clash, okX1 (B := "LookupError") PySem.F.store_LookupError (T.xa_Clash).xc F sc_Clash_DinitD rfl ((T.xa_Clash).nof "given" (by decide)) (Or.inl rfl) (Or.inl rfl), (kdr_0 F 1 ["given"] [.p 0, .k 0] fun _ _ _ _ _ _ us ws h1 h2 => match us, h1, ws, h2 with | [_], _, [_], _ => rfl), fun _ _ _ => rfl, .inl ⟨"given", rfl, rfl⟩⟩
theorem sc_Circular_DinitD : FnScope ["self", "given"] ["self", "given"] (defScope s_Circular_DinitD) := ⟨rfl, rfl, rfl, by decide +kernel, rfl, by decide +kernel, by decide +kernel⟩
theorem xmk_Circular_0_given (T : Txt K mg) : XMk P w K mg base "Circular" ["given"] 0 ["given"] [.k 0] := by
  obtain ⟨fd, F⟩ := T.F_Circular_DinitD
  exact ⟨"LookupError", _, _, _, fd, ["self", "given"], _, [.p 0, .k 0], PySem.F.excBase_LookupError, (T.xa_Circular).xc, (T.xa_Circular).xi, T.g_Circular, okX1 (B := "LookupError") PySem.F.store_LookupError (T.xa_Circular).xc F sc_Circular_DinitD rfl ((T.xa_Circular).nof "given" (by decide)) (Or.inl rfl) (Or.inl rfl), (kdr_0 F 1 ["given"] [.p 0, .k 0] fun _ _ _ _ _ _ us ws h1 h2 => match us, h1, ws, h2 with | [_], _, [_], _ => rfl), fun _ _ _ => rfl, .inl ⟨"given", rfl, rfl⟩⟩
theorem sc_NotUndoable_DinitD : FnScope ["self", "reason", "place"] ["self", "reason", "place"] (defScope s_NotUndoable_DinitD) := ⟨rfl, rfl, rfl, by decide +kernel, rfl, by decide +kernel, by decide +kernel⟩
theorem xmk_NotUndoable_0_place_reason (T : Txt K mg) : XMk P w K mg base "NotUndoable" ["reason", "place"] 0 ["place", "reason"] [.k 1, .k 0] := by
  obtain ⟨fd, F⟩ := T.F_NotUndoable_DinitD
  exact ⟨"ArithmeticError", _, _, _, fd, ["self", "reason", "place"], _, [.p 0, .k 1, .k 0], PySem.F.excBase_ArithmeticError, (T.xa_NotUndoable).xc, (T.xa_NotUndoable).xi, T.g_NotUndoable, okX2 (B := "ArithmeticError") PySem.F.store_ArithmeticError (T.xa_NotUndoable).xc F sc_NotUndoable_DinitD rfl ((T.xa_NotUndoable).nof "reason" (by decide)) ((T.xa_NotUndoable).nof "place" (by decide)) (Or.inl rfl) (Or.inl rfl) (Or.inl rfl), (kdr_0 F 1 ["place", "reason"] [.p 0, .k 1, .k 0] fun _ _ _ _ _ _ us ws h1 h2 => match us, h1, ws, h2 with | [_], _, [_, _], _ => rfl), fun _ _ _ => rfl, .inr ⟨"reason", "place", rfl, rfl⟩⟩
theorem sc_TooHeavy_DinitD : FnScope ["self", "limit"] ["self", "limit"] (defScope s_TooHeavy_DinitD) := ⟨rfl, rfl, rfl, by decide +kernel, rfl, by decide +kernel, by decide +kernel⟩
theorem xmk_TooHeavy_0_limit (T : Txt K mg) : XMk P w K mg base "TooHeavy" ["limit"] 0 ["limit"] [.k 0] := by
  obtain ⟨fd, F⟩ := T.F_TooHeavy_DinitD
  exact ⟨"ArithmeticError", _, _, _, fd, ["self", "limit"], _, [.p 0, .k 0], PySem.F.excBase_ArithmeticError, (T.xa_TooHeavy).xc, (T.xa_TooHeavy).xi, T.g_TooHeavy, okX1 (B := "ArithmeticError") PySem.F.store_ArithmeticError (T.xa_TooHeavy).xc F sc_TooHeavy_DinitD rfl ((T.xa_TooHeavy).nof "limit" (by decide)) (Or.inl rfl) (Or.inl rfl), (kdr_0 F 1 ["limit"] [.p 0, .k 0] fun _ _ _ _ _ _ us ws h1 h2 => match us, h1, ws, h2 with | [_], _, [_], _ => rfl), fun _ _ _ => rfl, .inl ⟨"limit", rfl, rfl⟩⟩
theorem sc_TooLarge_DinitD : FnScope ["self", "limit"] ["self", "limit"] (defScope s_TooLarge_DinitD) := ⟨rfl, rfl, rfl, by decide +kernel, rfl, by decide +kernel, by decide +kernel⟩
theorem xmk_TooLarge_0_limit (T : Txt K mg) : XMk P w K mg base "TooLarge" ["limit"] 0 ["limit"] [.k 0] := by
  obtain ⟨fd, F⟩ := T.F_TooLarge_DinitD
  exact ⟨"ArithmeticError", _, _, _, fd, ["self", "limit"], _, [.p 0, .k 0], PySem.F.excBase_ArithmeticError, (T.xa_TooLarge).xc, (T.xa_TooLarge).xi, T.g_TooLarge, okX1 (B := "ArithmeticError") PySem.F.store_ArithmeticError (T.xa_TooLarge).xc F sc_TooLarge_DinitD rfl ((T.xa_TooLarge).nof "limit" (by decide)) (Or.inl rfl) (Or.inl rfl), (kdr_0 F 1 ["limit"] [.p 0, .k 0] fun _ _ _ _ _ _ us ws h1 h2 => match us, h1, ws, h2 with | [_], _, [_], _ => rfl), fun _ _ _ => rfl, .inl ⟨"limit", rfl, rfl⟩⟩
theorem xr_DividedByZero (T : Txt K mg) : XR0 K mg "DividedByZero" := ⟨"ArithmeticError", _, _, _, PySem.F.excBase_ArithmeticError, (T.xa_DividedByZero).x0, (T.xa_DividedByZero).ra, T.g_DividedByZero⟩
theorem sc_Broken_DinitD : FnScope ["self", "index", "shown"] ["self", "index", "shown"] (defScope s_Broken_DinitD) := ⟨rfl, rfl, rfl, by decide +kernel, rfl, by decide +kernel, by decide +kernel⟩
theorem xmk_Broken_0_shown_index (T : Txt K mg) : XMk P w K mg base "Broken" ["index", "shown"] 0 ["shown", "index"] [.k 1, .k 0] := by
  obtain ⟨fd, F⟩ := T.F_Broken_DinitD
  exact ⟨"ArithmeticError", _, _, _, fd, ["self", "index", "shown"], _, [.p 0, .k 1, .k 0], PySem.F.excBase_ArithmeticError, (T.xa_Broken).xc, (T.xa_Broken).xi, T.g_Broken, okX2 (B := "ArithmeticError") PySem.F.store_ArithmeticError (T.xa_Broken).xc F sc_Broken_DinitD rfl ((T.xa_Broken).nof "index" (by decide)) ((T.xa_Broken).nof "shown" (by decide)) (Or.inl rfl) (Or.inl rfl) (Or.inl rfl), (kdr_0 F 1 ["shown", "index"] [.p 0, .k 1, .k 0] fun _ _ _ _ _ _ us ws h1 h2 => match us, h1, ws, h2 with | [_], _, [_, _], _ => rfl), fun _ _ _ => rfl, .inr ⟨"index", "shown", rfl, rfl⟩⟩
theorem xr_NothingToUndo (T : Txt K mg) : XR0 K mg "NothingToUndo" := ⟨"ArithmeticError", _, _, _, PySem.F.excBase_ArithmeticError, (T.xa_NothingToUndo).x0, (T.xa_NothingToUndo).ra, T.g_NothingToUndo⟩
theorem xr_Ended (T : Txt K mg) : XR0 K mg "Ended" := ⟨"ArithmeticError", _, _, _, PySem.F.excBase_ArithmeticError, (T.xa_Ended).x0, (T.xa_Ended).ra, T.g_Ended⟩
theorem sc_NoWay_DinitD : FnScope ["self", "place"] ["self", "place"] (defScope s_NoWay_DinitD) := ⟨rfl, rfl, rfl, by decide +kernel, rfl, by decide +kernel, by decide +kernel⟩
theorem xmk_NoWay_0_place (T : Txt K mg) : XMk P w K mg base "NoWay" ["place"] 0 ["place"] [.k 0] := by
  obtain ⟨fd, F⟩ := T.F_NoWay_DinitD
  exact ⟨"ArithmeticError", _, _, _, fd, ["self", "place"], _, [.p 0, .k 0], PySem.F.excBase_ArithmeticError, (T.xa_NoWay).xc, (T.xa_NoWay).xi, T.g_NoWay, okX1 (B := "ArithmeticError") PySem.F.store_ArithmeticError (T.xa_NoWay).xc F sc_NoWay_DinitD rfl ((T.xa_NoWay).nof "place" (by decide)) (Or.inl rfl) (Or.inl rfl), (kdr_0 F 1 ["place"] [.p 0, .k 0] fun _ _ _ _ _ _ us ws h1 h2 => match us, h1, ws, h2 with | [_], _, [_], _ => rfl), fun _ _ _ => rfl, .inl ⟨"place", rfl, rfl⟩⟩
end
end Q01
namespace Q01
open PySem PySem.Spec PyProof.Rows L2 He Rt Pz LamX
section
variable {P : Program} {w : World} {K : PySem.W.Frag} {mg : Str → Option Value} {base : Heap}
theorem sc_l_named : FnScope ["_law_odd_here", "_law_far", "_law_some"] ["_law_odd_here", "_law_far"] (defScope s_l_named) := ⟨rfl, rfl, rfl, by decide +kernel, rfl, by decide +kernel, by decide +kernel⟩
def m_l_named : FA := mDef 2 1 finN (mSeq (mAsg (mDisp dLst (mCons (mMkE "InvalidNumber" ["given"] 0 1 [.k 0] mNil (mCons (mVar 0) mNil)) (mCons (mMkE "InvalidText" ["given"] 0 1 [.k 0] mNil (mCons (mVar 0) mNil)) (mCons (mMkE "InvalidCount" ["given"] 0 1 [.k 0] mNil (mCons (mVar 0) mNil)) (mCons (mMkE "InvalidName" ["given"] 0 1 [.k 0] mNil (mCons (mVar 0) mNil)) mNil))))) (gNm 2))
      (mSeq (mAsg (mBin addU (mVar 2) (mDisp dLst (mCons (mMkE "InvalidTruth" ["given"] 0 1 [.k 0] mNil (mCons (mVar 0) mNil)) (mCons (mMkE "InvalidEntries" ["given"] 0 1 [.k 0] mNil (mCons (mVar 0) mNil)) (mCons (mMkE "InvalidData" ["given"] 0 1 [.k 0] mNil (mCons (mVar 0) mNil)) mNil))))) (gNm 2))
      (mSeq (mAsg (mBin addU (mVar 2) (mDisp dLst (mCons (mMkE "InvalidLength" ["given"] 0 1 [.k 0] mNil (mCons (mVar 0) mNil)) (mCons (mMkE "InvalidPath" ["given"] 0 1 [.k 0] mNil (mCons (mVar 0) mNil)) (mCons (mMkE "InvalidClaim" ["given"] 0 1 [.k 0] mNil (mCons (mVar 0) mNil)) mNil))))) (gNm 2))
      (mSeq (mAsg (mBin addU (mVar 2) (mDisp dLst (mCons (mMkE "InvalidIndex" ["given"] 0 1 [.k 0] mNil (mCons (mVar 0) mNil)) (mCons (mMkE "NotAFormula" ["given"] 0 1 [.k 0] mNil (mCons (mVar 0) mNil)) (mCons (mMkE "NotASeries" ["given"] 0 1 [.k 0] mNil (mCons (mVar 0) mNil)) (mCons (mMkE "NotARunner" ["given"] 0 1 [.k 0] mNil (mCons (mVar 0) mNil)) mNil)))))) (gNm 2))
      (mSeq (mAsg (mBin addU (mVar 2) (mDisp dLst (mCons (mMkE "TextError" ["place"] 0 1 [.k 0] mNil (mCons (mVar 0) mNil)) (mCons (mMkE "UnknownName" ["given"] 0 1 [.k 0] mNil (mCons (mVar 0) mNil)) (mCons (mMkE "Taken" ["given"] 0 1 [.k 0] mNil (mCons (mVar 0) mNil)) (mCons (mMkE "InUse" ["user"] 0 1 [.k 0] mNil (mCons (mVar 0) mNil)) mNil)))))) (gNm 2))
      (mSeq (mAsg (mBin addU (mVar 2) (mDisp dLst (mCons (mMkE "Circular" ["given"] 0 1 [.k 0] mNil (mCons (mVar 0) mNil)) (mCons (mMkE "Clash" ["given"] 0 1 [.k 0] mNil (mCons (mVar 0) mNil)) (mCons (mMkE "NoSeries" ["given"] 0 1 [.k 0] mNil (mCons (mVar 0) mNil)) (mCons (mMkE "NoEntry" ["given"] 0 1 [.k 0] mNil (mCons (mVar 0) mNil)) (mCons (mMkE "NotMade" ["given"] 0 1 [.k 0] mNil (mCons (mVar 0) mNil)) mNil))))))) (gNm 2))
      (mSeq (mAsg (mBin addU (mVar 2) (mDisp dLst (mCons (mMkE0 "DividedByZero") (mCons (mMkE "TooLarge" ["limit"] 0 1 [.k 0] mNil (mCons (mVar 0) mNil)) (mCons (mMkE "TooHeavy" ["limit"] 0 1 [.k 0] mNil (mCons (mVar 0) mNil)) (mCons (mMkE "NotUndoable" ["reason", "place"] 0 2 [.k 1, .k 0] mNil (mCons (mVar 1) (mCons (mVar 0) mNil))) mNil)))))) (gNm 2))
      (mRet (mBin addU (mVar 2) (mDisp dLst (mCons (mMkE "NoWay" ["place"] 0 1 [.k 0] mNil (mCons (mVar 0) mNil)) (mCons (mMkE0 "Ended") (mCons (mMkE0 "NothingToUndo") (mCons (mMkE "Broken" ["index", "shown"] 0 2 [.k 1, .k 0] mNil (mCons (mVar 1) (mCons (mVar 0) mNil))) mNil))))))))))))))
theorem ok_l_named (T : Txt K mg) {a : Addr} {fd : FuncData} (F : FnD K "_law_named" "_law_named" s_l_named [] a fd) : FnOk P w K mg base (L2.CX P w) 3 a fd ["_law_odd_here", "_law_far"] (spW K m_l_named) := by
  have Kxmk_InvalidName_0_given := xmk_InvalidName_0_given (P := P) (w := w) (base := base) T
  have Kxmk_InvalidCount_0_given := xmk_InvalidCount_0_given (P := P) (w := w) (base := base) T
  have Kxmk_InvalidText_0_given := xmk_InvalidText_0_given (P := P) (w := w) (base := base) T
  have Kxmk_InvalidNumber_0_given := xmk_InvalidNumber_0_given (P := P) (w := w) (base := base) T
  have Kxmk_InvalidData_0_given := xmk_InvalidData_0_given (P := P) (w := w) (base := base) T
  have Kxmk_InvalidEntries_0_given := xmk_InvalidEntries_0_given (P := P) (w := w) (base := base) T
  have Kxmk_InvalidTruth_0_given := xmk_InvalidTruth_0_given (P := P) (w := w) (base := base) T
  have Kxmk_InvalidClaim_0_given := xmk_InvalidClaim_0_given (P := P) (w := w) (base := base) T
  have Kxmk_InvalidPath_0_given := xmk_InvalidPath_0_given (P := P) (w := w) (base := base) T
  have Kxmk_InvalidLength_0_given := xmk_InvalidLength_0_given (P := P) (w := w) (base := base) T
  have Kxmk_NotARunner_0_given := xmk_NotARunner_0_given (P := P) (w := w) (base := base) T
  have Kxmk_NotASeries_0_given := xmk_NotASeries_0_given (P := P) (w := w) (base := base) T
  have Kxmk_NotAFormula_0_given := xmk_NotAFormula_0_given (P := P) (w := w) (base := base) T
  have Kxmk_InvalidIndex_0_given := xmk_InvalidIndex_0_given (P := P) (w := w) (base := base) T
  have Kxmk_InUse_0_user := xmk_InUse_0_user (P := P) (w := w) (base := base) T
  have Kxmk_Taken_0_given := xmk_Taken_0_given (P := P) (w := w) (base := base) T
  have Kxmk_UnknownName_0_given := xmk_UnknownName_0_given (P := P) (w := w) (base := base) T
  have Kxmk_TextError_0_place := xmk_TextError_0_place (P := P) (w := w) (base := base) T
  have Kxmk_NotMade_0_given := xmk_NotMade_0_given (P := P) (w := w) (base := base) T
  have Kxmk_NoEntry_0_given := xmk_NoEntry_0_given (P := P) (w := w) (base := base) T
  have Kxmk_NoSeries_0_given := xmk_NoSeries_0_given (P := P) (w := w) (base := base) T
  have Kxmk_Clash_0_given := xmk_Clash_0_given (P := P) (w := w) (base := base) T
  have Kxmk_Circular_0_given := xmk_Circular_0_given (P := P) (w := w) (base := base) T
  have Kxmk_NotUndoable_0_place_reason := xmk_NotUndoable_0_place_reason (P := P) (w := w) (base := base) T
  have Kxmk_TooHeavy_0_limit := xmk_TooHeavy_0_limit (P := P) (w := w) (base := base) T
  have Kxmk_TooLarge_0_limit := xmk_TooLarge_0_limit (P := P) (w := w) (base := base) T
  have R_DividedByZero := xr_DividedByZero T
  have Kxmk_Broken_0_shown_index := xmk_Broken_0_shown_index (P := P) (w := w) (base := base) T
  have R_NothingToUndo := xr_NothingToUndo T
  have R_Ended := xr_Ended T
  have Kxmk_NoWay_0_place := xmk_NoWay_0_place (P := P) (w := w) (base := base) T
  exact okW F sc_l_named finN_ok rfl (fun cdv A outer s H E hr => (sw_cons (sw_set (i := 2) sc_l_named.nd rfl (Or.inl rfl) (ew_lst (aw_cons (ew_mkE_kw (ks := ["given"]) Kxmk_InvalidNumber_0_given hr (kw_cons (ev 0) kw_nil)) (aw_cons (ew_mkE_kw (ks := ["given"]) Kxmk_InvalidText_0_given hr (kw_cons (ev 0) kw_nil)) (aw_cons (ew_mkE_kw (ks := ["given"]) Kxmk_InvalidCount_0_given hr (kw_cons (ev 0) kw_nil)) (aw_cons (ew_mkE_kw (ks := ["given"]) Kxmk_InvalidName_0_given hr (kw_cons (ev 0) kw_nil)) aw_nil))))))
      (sw_cons (sw_set (i := 2) sc_l_named.nd rfl (Or.inl rfl) (ew_op (op_addU) vr_add (ev 2) (ew_lst (aw_cons (ew_mkE_kw (ks := ["given"]) Kxmk_InvalidTruth_0_given hr (kw_cons (ev 0) kw_nil)) (aw_cons (ew_mkE_kw (ks := ["given"]) Kxmk_InvalidEntries_0_given hr (kw_cons (ev 0) kw_nil)) (aw_cons (ew_mkE_kw (ks := ["given"]) Kxmk_InvalidData_0_given hr (kw_cons (ev 0) kw_nil)) aw_nil))))))
      (sw_cons (sw_set (i := 2) sc_l_named.nd rfl (Or.inl rfl) (ew_op (op_addU) vr_add (ev 2) (ew_lst (aw_cons (ew_mkE_kw (ks := ["given"]) Kxmk_InvalidLength_0_given hr (kw_cons (ev 0) kw_nil)) (aw_cons (ew_mkE_kw (ks := ["given"]) Kxmk_InvalidPath_0_given hr (kw_cons (ev 0) kw_nil)) (aw_cons (ew_mkE_kw (ks := ["given"]) Kxmk_InvalidClaim_0_given hr (kw_cons (ev 0) kw_nil)) aw_nil))))))
      (sw_cons (sw_set (i := 2) sc_l_named.nd rfl (Or.inl rfl) (ew_op (op_addU) vr_add (ev 2) (ew_lst (aw_cons (ew_mkE_kw (ks := ["given"]) Kxmk_InvalidIndex_0_given hr (kw_cons (ev 0) kw_nil)) (aw_cons (ew_mkE_kw (ks := ["given"]) Kxmk_NotAFormula_0_given hr (kw_cons (ev 0) kw_nil)) (aw_cons (ew_mkE_kw (ks := ["given"]) Kxmk_NotASeries_0_given hr (kw_cons (ev 0) kw_nil)) (aw_cons (ew_mkE_kw (ks := ["given"]) Kxmk_NotARunner_0_given hr (kw_cons (ev 0) kw_nil)) aw_nil)))))))
      (sw_cons (sw_set (i := 2) sc_l_named.nd rfl (Or.inl rfl) (ew_op (op_addU) vr_add (ev 2) (ew_lst (aw_cons (ew_mkE_kw (ks := ["place"]) Kxmk_TextError_0_place hr (kw_cons (ev 0) kw_nil)) (aw_cons (ew_mkE_kw (ks := ["given"]) Kxmk_UnknownName_0_given hr (kw_cons (ev 0) kw_nil)) (aw_cons (ew_mkE_kw (ks := ["given"]) Kxmk_Taken_0_given hr (kw_cons (ev 0) kw_nil)) (aw_cons (ew_mkE_kw (ks := ["user"]) Kxmk_InUse_0_user hr (kw_cons (ev 0) kw_nil)) aw_nil)))))))
      (sw_cons (sw_set (i := 2) sc_l_named.nd rfl (Or.inl rfl) (ew_op (op_addU) vr_add (ev 2) (ew_lst (aw_cons (ew_mkE_kw (ks := ["given"]) Kxmk_Circular_0_given hr (kw_cons (ev 0) kw_nil)) (aw_cons (ew_mkE_kw (ks := ["given"]) Kxmk_Clash_0_given hr (kw_cons (ev 0) kw_nil)) (aw_cons (ew_mkE_kw (ks := ["given"]) Kxmk_NoSeries_0_given hr (kw_cons (ev 0) kw_nil)) (aw_cons (ew_mkE_kw (ks := ["given"]) Kxmk_NoEntry_0_given hr (kw_cons (ev 0) kw_nil)) (aw_cons (ew_mkE_kw (ks := ["given"]) Kxmk_NotMade_0_given hr (kw_cons (ev 0) kw_nil)) aw_nil))))))))
      (sw_cons (sw_set (i := 2) sc_l_named.nd rfl (Or.inl rfl) (ew_op (op_addU) vr_add (ev 2) (ew_lst (aw_cons (ew_mkE0 R_DividedByZero) (aw_cons (ew_mkE_kw (ks := ["limit"]) Kxmk_TooLarge_0_limit hr (kw_cons (ev 0) kw_nil)) (aw_cons (ew_mkE_kw (ks := ["limit"]) Kxmk_TooHeavy_0_limit hr (kw_cons (ev 0) kw_nil)) (aw_cons (ew_mkE_kw (ks := ["place", "reason"]) Kxmk_NotUndoable_0_place_reason hr (kw_cons (ev 1) (kw_cons (ev 0) kw_nil))) aw_nil)))))))
      (sw_one (sw_ret (ew_op (op_addU) vr_add (ev 2) (ew_lst (aw_cons (ew_mkE_kw (ks := ["place"]) Kxmk_NoWay_0_place hr (kw_cons (ev 0) kw_nil)) (aw_cons (ew_mkE0 R_Ended) (aw_cons (ew_mkE0 R_NothingToUndo) (aw_cons (ew_mkE_kw (ks := ["shown", "index"]) Kxmk_Broken_0_shown_index hr (kw_cons (ev 1) (kw_cons (ev 0) kw_nil))) aw_nil))))))))))))))))
theorem w_l_named (T : Txt K mg) : Gd P w K mg base 3 "_law_named" (spW K m_l_named) := by
  obtain ⟨fd, F⟩ := T.F_l_named
  exact ⟨_, fd, ["_law_odd_here", "_law_far"], ok_l_named T F, T.g_l_named, F.kp, F.bindsN fun _ _ _ _ _ _ us hl => match us, hl with | [_, _], _ => rfl⟩
theorem xmk_InvalidTruth_1 (T : Txt K mg) : XMk P w K mg base "InvalidTruth" ["given"] 1 [] [.p 0] := by
  obtain ⟨fd, F⟩ := T.F_InvalidTruth_DinitD
  exact ⟨"ValueError", _, _, _, fd, ["self", "given"], _, [.p 0, .p 1], PySem.F.excBase_ValueError, (T.xa_InvalidTruth).xc, (T.xa_InvalidTruth).xi, T.g_InvalidTruth, okX1 (B := "ValueError") PySem.F.store_ValueError (T.xa_InvalidTruth).xc F sc_InvalidTruth_DinitD rfl ((T.xa_InvalidTruth).nof "given" (by decide)) (Or.inl rfl) (Or.inl rfl), (kdr_0 F 2 [] [.p 0, .p 1] fun _ _ _ _ _ _ us ws h1 h2 => match us, h1, ws, h2 with | [_, _], _, [], _ => rfl), fun _ _ _ => rfl, .inl ⟨"given", rfl, rfl⟩⟩
theorem xmk_InvalidName_1 (T : Txt K mg) : XMk P w K mg base "InvalidName" ["given"] 1 [] [.p 0] := by
  obtain ⟨fd, F⟩ := T.F_InvalidName_DinitD
  exact ⟨"ValueError", _, _, _, fd, ["self", "given"], _, [.p 0, .p 1], PySem.F.excBase_ValueError, (T.xa_InvalidName).xc, (T.xa_InvalidName).xi, T.g_InvalidName, okX1 (B := "ValueError") PySem.F.store_ValueError (T.xa_InvalidName).xc F sc_InvalidName_DinitD rfl ((T.xa_InvalidName).nof "given" (by decide)) (Or.inl rfl) (Or.inl rfl), (kdr_0 F 2 [] [.p 0, .p 1] fun _ _ _ _ _ _ us ws h1 h2 => match us, h1, ws, h2 with | [_, _], _, [], _ => rfl), fun _ _ _ => rfl, .inl ⟨"given", rfl, rfl⟩⟩
theorem xmk_InvalidCount_1 (T : Txt K mg) : XMk P w K mg base "InvalidCount" ["given"] 1 [] [.p 0] := by
  obtain ⟨fd, F⟩ := T.F_InvalidCount_DinitD
  exact ⟨"ValueError", _, _, _, fd, ["self", "given"], _, [.p 0, .p 1], PySem.F.excBase_ValueError, (T.xa_InvalidCount).xc, (T.xa_InvalidCount).xi, T.g_InvalidCount, okX1 (B := "ValueError") PySem.F.store_ValueError (T.xa_InvalidCount).xc F sc_InvalidCount_DinitD rfl ((T.xa_InvalidCount).nof "given" (by decide)) (Or.inl rfl) (Or.inl rfl), (kdr_0 F 2 [] [.p 0, .p 1] fun _ _ _ _ _ _ us ws h1 h2 => match us, h1, ws, h2 with | [_, _], _, [], _ => rfl), fun _ _ _ => rfl, .inl ⟨"given", rfl, rfl⟩⟩
theorem xmk_InvalidText_1 (T : Txt K mg) : XMk P w K mg base "InvalidText" ["given"] 1 [] [.p 0] := by
  obtain ⟨fd, F⟩ := T.F_InvalidText_DinitD
  exact ⟨"ValueError", _, _, _, fd, ["self", "given"], _, [.p 0, .p 1], PySem.F.excBase_ValueError, (T.xa_InvalidText).xc, (T.xa_InvalidText).xi, T.g_InvalidText, okX1 (B := "ValueError") PySem.F.store_ValueError (T.xa_InvalidText).xc F sc_InvalidText_DinitD rfl ((T.xa_InvalidText).nof "given" (by decide)) (Or.inl rfl) (Or.inl rfl), (kdr_0 F 2 [] [.p 0, .p 1] fun _ _ _ _ _ _ us ws h1 h2 => match us, h1, ws, h2 with | [_, _], _, [], _ => rfl), fun _ _ _ => rfl, .inl ⟨"given", rfl, rfl⟩⟩
theorem xmk_InvalidNumber_1 (T : Txt K mg) : XMk P w K mg base "InvalidNumber" ["given"] 1 [] [.p 0] := by
  obtain ⟨fd, F⟩ := T.F_InvalidNumber_DinitD
  exact ⟨"ValueError", _, _, _, fd, ["self", "given"], _, [.p 0, .p 1], PySem.F.excBase_ValueError, (T.xa_InvalidNumber).xc, (T.xa_InvalidNumber).xi, T.g_InvalidNumber, okX1 (B := "ValueError") PySem.F.store_ValueError (T.xa_InvalidNumber).xc F sc_InvalidNumber_DinitD rfl ((T.xa_InvalidNumber).nof "given" (by decide)) (Or.inl rfl) (Or.inl rfl), (kdr_0 F 2 [] [.p 0, .p 1] fun _ _ _ _ _ _ us ws h1 h2 => match us, h1, ws, h2 with | [_, _], _, [], _ => rfl), fun _ _ _ => rfl, .inl ⟨"given", rfl, rfl⟩⟩
theorem xmk_InvalidClaim_1 (T : Txt K mg) : XMk P w K mg base "InvalidClaim" ["given"] 1 [] [.p 0] := by
  obtain ⟨fd, F⟩ := T.F_InvalidClaim_DinitD
  exact ⟨"ValueError", _, _, _, fd, ["self", "given"], _, [.p 0, .p 1], PySem.F.excBase_ValueError, (T.xa_InvalidClaim).xc, (T.xa_InvalidClaim).xi, T.g_InvalidClaim, okX1 (B := "ValueError") PySem.F.store_ValueError (T.xa_InvalidClaim).xc F sc_InvalidClaim_DinitD rfl ((T.xa_InvalidClaim).nof "given" (by decide)) (Or.inl rfl) (Or.inl rfl), (kdr_0 F 2 [] [.p 0, .p 1] fun _ _ _ _ _ _ us ws h1 h2 => match us, h1, ws, h2 with | [_, _], _, [], _ => rfl), fun _ _ _ => rfl, .inl ⟨"given", rfl, rfl⟩⟩
theorem xmk_InvalidPath_1 (T : Txt K mg) : XMk P w K mg base "InvalidPath" ["given"] 1 [] [.p 0] := by
  obtain ⟨fd, F⟩ := T.F_InvalidPath_DinitD
  exact ⟨"ValueError", _, _, _, fd, ["self", "given"], _, [.p 0, .p 1], PySem.F.excBase_ValueError, (T.xa_InvalidPath).xc, (T.xa_InvalidPath).xi, T.g_InvalidPath, okX1 (B := "ValueError") PySem.F.store_ValueError (T.xa_InvalidPath).xc F sc_InvalidPath_DinitD rfl ((T.xa_InvalidPath).nof "given" (by decide)) (Or.inl rfl) (Or.inl rfl), (kdr_0 F 2 [] [.p 0, .p 1] fun _ _ _ _ _ _ us ws h1 h2 => match us, h1, ws, h2 with | [_, _], _, [], _ => rfl), fun _ _ _ => rfl, .inl ⟨"given", rfl, rfl⟩⟩
theorem xmk_InvalidLength_1 (T : Txt K mg) : XMk P w K mg base "InvalidLength" ["given"] 1 [] [.p 0] := by
  obtain ⟨fd, F⟩ := T.F_InvalidLength_DinitD
  exact ⟨"ValueError", _, _, _, fd, ["self", "given"], _, [.p 0, .p 1], PySem.F.excBase_ValueError, (T.xa_InvalidLength).xc, (T.xa_InvalidLength).xi, T.g_InvalidLength, okX1 (B := "ValueError") PySem.F.store_ValueError (T.xa_InvalidLength).xc F sc_InvalidLength_DinitD rfl ((T.xa_InvalidLength).nof "given" (by decide)) (Or.inl rfl) (Or.inl rfl), (kdr_0 F 2 [] [.p 0, .p 1] fun _ _ _ _ _ _ us ws h1 h2 => match us, h1, ws, h2 with | [_, _], _, [], _ => rfl), fun _ _ _ => rfl, .inl ⟨"given", rfl, rfl⟩⟩
theorem xmk_InvalidData_1 (T : Txt K mg) : XMk P w K mg base "InvalidData" ["given"] 1 [] [.p 0] := by
  obtain ⟨fd, F⟩ := T.F_InvalidData_DinitD
  exact ⟨"ValueError", _, _, _, fd, ["self", "given"], _, [.p 0, .p 1], PySem.F.excBase_ValueError, (T.xa_InvalidData).xc, (T.xa_InvalidData).xi, T.g_InvalidData, okX1 (B := "ValueError") PySem.F.store_ValueError (T.xa_InvalidData).xc F sc_InvalidData_DinitD rfl ((T.xa_InvalidData).nof "given" (by decide)) (Or.inl rfl) (Or.inl rfl), (kdr_0 F 2 [] [.p 0, .p 1] fun _ _ _ _ _ _ us ws h1 h2 => match us, h1, ws, h2 with | [_, _], _, [], _ => rfl), fun _ _ _ => rfl, .inl ⟨"given", rfl, rfl⟩⟩
theorem xmk_InvalidEntries_1 (T : Txt K mg) : XMk P w K mg base "InvalidEntries" ["given"] 1 [] [.p 0] := by
  obtain ⟨fd, F⟩ := T.F_InvalidEntries_DinitD
  exact ⟨"ValueError", _, _, _, fd, ["self", "given"], _, [.p 0, .p 1], PySem.F.excBase_ValueError, (T.xa_InvalidEntries).xc, (T.xa_InvalidEntries).xi, T.g_InvalidEntries, okX1 (B := "ValueError") PySem.F.store_ValueError (T.xa_InvalidEntries).xc F sc_InvalidEntries_DinitD rfl ((T.xa_InvalidEntries).nof "given" (by decide)) (Or.inl rfl) (Or.inl rfl), (kdr_0 F 2 [] [.p 0, .p 1] fun _ _ _ _ _ _ us ws h1 h2 => match us, h1, ws, h2 with | [_, _], _, [], _ => rfl), fun _ _ _ => rfl, .inl ⟨"given", rfl, rfl⟩⟩
theorem xmk_TextError_1 (T : Txt K mg) : XMk P w K mg base "TextError" ["place"] 1 [] [.p 0] := by
  obtain ⟨fd, F⟩ := T.F_TextError_DinitD
  exact ⟨"ValueError", _, _, _, fd, ["self", "place"], _, [.p 0, .p 1], PySem.F.excBase_ValueError, (T.xa_TextError).xc, (T.xa_TextError).xi, T.g_TextError, okX1 (B := "ValueError") PySem.F.store_ValueError (T.xa_TextError).xc F sc_TextError_DinitD rfl ((T.xa_TextError).nof "place" (by decide)) (Or.inl rfl) (Or.inl rfl), (kdr_0 F 2 [] [.p 0, .p 1] fun _ _ _ _ _ _ us ws h1 h2 => match us, h1, ws, h2 with | [_, _], _, [], _ => rfl), fun _ _ _ => rfl, .inl ⟨"place", rfl, rfl⟩⟩
end
end Q01
namespace Q01
open PySem PySem.Spec PyProof.Rows L2 He Rt Pz LamX
section
variable {P : Program} {w : World} {K : PySem.W.Frag} {mg : Str → Option Value} {base : Heap}
theorem xmk_NotARunner_1 (T : Txt K mg) : XMk P w K mg base "NotARunner" ["given"] 1 [] [.p 0] := by
  obtain ⟨fd, F⟩ := T.F_NotARunner_DinitD
  exact ⟨"ValueError", _, _, _, fd, ["self", "given"], _, [.p 0, .p 1], PySem.F.excBase_ValueError, (T.xa_NotARunner).xc, (T.xa_NotARunner).xi, T.g_NotARunner, okX1 (B := "ValueError") PySem.F.store_ValueError (T.xa_NotARunner).xc F sc_NotARunner_DinitD rfl ((T.xa_NotARunner).nof "given" (by decide)) (Or.inl rfl) (Or.inl rfl), (kdr_0 F 2 [] [.p 0, .p 1] fun _ _ _ _ _ _ us ws h1 h2 => match us, h1, ws, h2 with | [_, _], _, [], _ => rfl), fun _ _ _ => rfl, .inl ⟨"given", rfl, rfl⟩⟩
theorem xmk_NotASeries_1 (T : Txt K mg) : XMk P w K mg base "NotASeries" ["given"] 1 [] [.p 0] := by
  obtain ⟨fd, F⟩ := T.F_NotASeries_DinitD
  exact ⟨"ValueError", _, _, _, fd, ["self", "given"], _, [.p 0, .p 1], PySem.F.excBase_ValueError, (T.xa_NotASeries).xc, (T.xa_NotASeries).xi, T.g_NotASeries, okX1 (B := "ValueError") PySem.F.store_ValueError (T.xa_NotASeries).xc F sc_NotASeries_DinitD rfl ((T.xa_NotASeries).nof "given" (by decide)) (Or.inl rfl) (Or.inl rfl), (kdr_0 F 2 [] [.p 0, .p 1] fun _ _ _ _ _ _ us ws h1 h2 => match us, h1, ws, h2 with | [_, _], _, [], _ => rfl), fun _ _ _ => rfl, .inl ⟨"given", rfl, rfl⟩⟩
theorem xmk_NotAFormula_1 (T : Txt K mg) : XMk P w K mg base "NotAFormula" ["given"] 1 [] [.p 0] := by
  obtain ⟨fd, F⟩ := T.F_NotAFormula_DinitD
  exact ⟨"ValueError", _, _, _, fd, ["self", "given"], _, [.p 0, .p 1], PySem.F.excBase_ValueError, (T.xa_NotAFormula).xc, (T.xa_NotAFormula).xi, T.g_NotAFormula, okX1 (B := "ValueError") PySem.F.store_ValueError (T.xa_NotAFormula).xc F sc_NotAFormula_DinitD rfl ((T.xa_NotAFormula).nof "given" (by decide)) (Or.inl rfl) (Or.inl rfl), (kdr_0 F 2 [] [.p 0, .p 1] fun _ _ _ _ _ _ us ws h1 h2 => match us, h1, ws, h2 with | [_, _], _, [], _ => rfl), fun _ _ _ => rfl, .inl ⟨"given", rfl, rfl⟩⟩
theorem xmk_InvalidIndex_1 (T : Txt K mg) : XMk P w K mg base "InvalidIndex" ["given"] 1 [] [.p 0] := by
  obtain ⟨fd, F⟩ := T.F_InvalidIndex_DinitD
  exact ⟨"ValueError", _, _, _, fd, ["self", "given"], _, [.p 0, .p 1], PySem.F.excBase_ValueError, (T.xa_InvalidIndex).xc, (T.xa_InvalidIndex).xi, T.g_InvalidIndex, okX1 (B := "ValueError") PySem.F.store_ValueError (T.xa_InvalidIndex).xc F sc_InvalidIndex_DinitD rfl ((T.xa_InvalidIndex).nof "given" (by decide)) (Or.inl rfl) (Or.inl rfl), (kdr_0 F 2 [] [.p 0, .p 1] fun _ _ _ _ _ _ us ws h1 h2 => match us, h1, ws, h2 with | [_, _], _, [], _ => rfl), fun _ _ _ => rfl, .inl ⟨"given", rfl, rfl⟩⟩
theorem xmk_NoEntry_1 (T : Txt K mg) : XMk P w K mg base "NoEntry" ["given"] 1 [] [.p 0] := by
  obtain ⟨fd, F⟩ := T.F_NoEntry_DinitD
  exact ⟨"LookupError", _, _, _, fd, ["self", "given"], _, [.p 0, .p 1], PySem.F.excBase_LookupError, (T.xa_NoEntry).xc, (T.xa_NoEntry).xi, T.g_NoEntry, okX1 (B := "LookupError") PySem.F.store_LookupError (T.xa_NoEntry).xc F sc_NoEntry_DinitD rfl ((T.xa_NoEntry).nof "given" (by decide)) (Or.inl rfl) (Or.inl rfl), (kdr_0 F 2 [] [.p 0, .p 1] fun _ _ _ _ _ _ us ws h1 h2 => match us, h1, ws, h2 with | [_, _], _, [], _ => rfl), fun _ _ _ => rfl, .inl ⟨"given", rfl, rfl⟩⟩
theorem xmk_NoSeries_1 (T : Txt K mg) : XMk P w K mg base "NoSeries" ["given"] 1 [] [.p 0] := by
  obtain ⟨fd, F⟩ := T.F_NoSeries_DinitD
  exact ⟨"LookupError", _, _, _, fd, ["self", "given"], _, [.p 0, .p 1], PySem.F.excBase_LookupError, (T.xa_NoSeries).xc, (T.xa_NoSeries).xi, T.g_NoSeries, okX1 (B := "LookupError") PySem.F.store_LookupError (T.xa_NoSeries).xc F sc_NoSeries_DinitD rfl ((T.xa_NoSeries).nof "given" (by decide)) (Or.inl rfl) (Or.inl rfl), (kdr_0 F 2 [] [.p 0, .p 1] fun _ _ _ _ _ _ us ws h1 h2 => match us, h1, ws, h2 with | [_, _], _, [], _ => rfl), fun _ _ _ => rfl, .inl ⟨"given", rfl, rfl⟩⟩
theorem xmk_Clash_1 (T : Txt K mg) : XMk P w K mg base "Clash" ["given"] 1 [] [.p 0] := by
  obtain ⟨fd, F⟩ := T.F_Clash_DinitD
  exact ⟨"LookupError", _, _, _, fd, ["self", "given"], _, [.p 0, .p 1], PySem.F.excBase_LookupError, (T.xa_Clash).xc, (T.xa_Clash).xi, T.g_Clash, okX1 (B := "LookupError") PySem.F.store_LookupError (T.xa_Clash).xc F sc_Clash_DinitD rfl ((T.xa_Clash).nof "given" (by decide)) (Or.inl rfl) (Or.inl rfl), (kdr_0 F 2 [] [.p 0, .p 1] fun _ _ _ _ _ _ us ws h1 h2 => match us, h1, ws, h2 with | [_, _], _, [], _ => rfl), fun _ _ _ => rfl, .inl ⟨"given", rfl, rfl⟩⟩
theorem xmk_Circular_1 (T : Txt K mg) : XMk P w K mg base "Circular" ["given"] 1 [] [.p 0] := by
  obtain ⟨fd, F⟩ := T.F_Circular_DinitD
  exact ⟨"LookupError", _, _, _, fd, ["self", "given"], _, [.p 0, .p 1], PySem.F.excBase_LookupError, (T.xa_Circular).xc, (T.xa_Circular).xi, T.g_Circular, okX1 (B := "LookupError") PySem.F.store_LookupError (T.xa_Circular).xc F sc_Circular_DinitD rfl ((T.xa_Circular).nof "given" (by decide)) (Or.inl rfl) (Or.inl rfl), (kdr_0 F 2 [] [.p 0, .p 1] fun _ _ _ _ _ _ us ws h1 h2 => match us, h1, ws, h2 with | [_, _], _, [], _ => rfl), fun _ _ _ => rfl, .inl ⟨"given", rfl, rfl⟩⟩
theorem xmk_InUse_1 (T : Txt K mg) : XMk P w K mg base "InUse" ["user"] 1 [] [.p 0] := by
  obtain ⟨fd, F⟩ := T.F_InUse_DinitD
  exact ⟨"LookupError", _, _, _, fd, ["self", "user"], _, [.p 0, .p 1], PySem.F.excBase_LookupError, (T.xa_InUse).xc, (T.xa_InUse).xi, T.g_InUse, okX1 (B := "LookupError") PySem.F.store_LookupError (T.xa_InUse).xc F sc_InUse_DinitD rfl ((T.xa_InUse).nof "user" (by decide)) (Or.inl rfl) (Or.inl rfl), (kdr_0 F 2 [] [.p 0, .p 1] fun _ _ _ _ _ _ us ws h1 h2 => match us, h1, ws, h2 with | [_, _], _, [], _ => rfl), fun _ _ _ => rfl, .inl ⟨"user", rfl, rfl⟩⟩
theorem xmk_Taken_1 (T : Txt K mg) : XMk P w K mg base "Taken" ["given"] 1 [] [.p 0] := by
  obtain ⟨fd, F⟩ := T.F_Taken_DinitD
  exact ⟨"LookupError", _, _, _, fd, ["self", "given"], _, [.p 0, .p 1], PySem.F.excBase_LookupError, (T.xa_Taken).xc, (T.xa_Taken).xi, T.g_Taken, okX1 (B := "LookupError") PySem.F.store_LookupError (T.xa_Taken).xc F sc_Taken_DinitD rfl ((T.xa_Taken).nof "given" (by decide)) (Or.inl rfl) (Or.inl rfl), (kdr_0 F 2 [] [.p 0, .p 1] fun _ _ _ _ _ _ us ws h1 h2 => match us, h1, ws, h2 with | [_, _], _, [], _ => rfl), fun _ _ _ => rfl, .inl ⟨"given", rfl, rfl⟩⟩
theorem xmk_UnknownName_1 (T : Txt K mg) : XMk P w K mg base "UnknownName" ["given"] 1 [] [.p 0] := by
  obtain ⟨fd, F⟩ := T.F_UnknownName_DinitD
  exact ⟨"LookupError", _, _, _, fd, ["self", "given"], _, [.p 0, .p 1], PySem.F.excBase_LookupError, (T.xa_UnknownName).xc, (T.xa_UnknownName).xi, T.g_UnknownName, okX1 (B := "LookupError") PySem.F.store_LookupError (T.xa_UnknownName).xc F sc_UnknownName_DinitD rfl ((T.xa_UnknownName).nof "given" (by decide)) (Or.inl rfl) (Or.inl rfl), (kdr_0 F 2 [] [.p 0, .p 1] fun _ _ _ _ _ _ us ws h1 h2 => match us, h1, ws, h2 with | [_, _], _, [], _ => rfl), fun _ _ _ => rfl, .inl ⟨"given", rfl, rfl⟩⟩
theorem xmk_NoWay_1 (T : Txt K mg) : XMk P w K mg base "NoWay" ["place"] 1 [] [.p 0] := by
  obtain ⟨fd, F⟩ := T.F_NoWay_DinitD
  exact ⟨"ArithmeticError", _, _, _, fd, ["self", "place"], _, [.p 0, .p 1], PySem.F.excBase_ArithmeticError, (T.xa_NoWay).xc, (T.xa_NoWay).xi, T.g_NoWay, okX1 (B := "ArithmeticError") PySem.F.store_ArithmeticError (T.xa_NoWay).xc F sc_NoWay_DinitD rfl ((T.xa_NoWay).nof "place" (by decide)) (Or.inl rfl) (Or.inl rfl), (kdr_0 F 2 [] [.p 0, .p 1] fun _ _ _ _ _ _ us ws h1 h2 => match us, h1, ws, h2 with | [_, _], _, [], _ => rfl), fun _ _ _ => rfl, .inl ⟨"place", rfl, rfl⟩⟩
end
end Q01
namespace Q01
open PySem PySem.Spec PyProof.Rows L2 He Rt Pz LamX
section
variable {P : Program} {w : World} {K : PySem.W.Frag} {mg : Str → Option Value} {base : Heap}
theorem xmk_NotUndoable_2 (T : Txt K mg) : XMk P w K mg base "NotUndoable" ["reason", "place"] 2 [] [.p 0, .p 1] := by
  obtain ⟨fd, F⟩ := T.F_NotUndoable_DinitD
  exact ⟨"ArithmeticError", _, _, _, fd, ["self", "reason", "place"], _, [.p 0, .p 1, .p 2], PySem.F.excBase_ArithmeticError, (T.xa_NotUndoable).xc, (T.xa_NotUndoable).xi, T.g_NotUndoable, okX2 (B := "ArithmeticError") PySem.F.store_ArithmeticError (T.xa_NotUndoable).xc F sc_NotUndoable_DinitD rfl ((T.xa_NotUndoable).nof "reason" (by decide)) ((T.xa_NotUndoable).nof "place" (by decide)) (Or.inl rfl) (Or.inl rfl) (Or.inl rfl), (kdr_0 F 3 [] [.p 0, .p 1, .p 2] fun _ _ _ _ _ _ us ws h1 h2 => match us, h1, ws, h2 with | [_, _, _], _, [], _ => rfl), fun _ _ _ => rfl, .inr ⟨"reason", "place", rfl, rfl⟩⟩
theorem xmk_TooHeavy_1 (T : Txt K mg) : XMk P w K mg base "TooHeavy" ["limit"] 1 [] [.p 0] := by
  obtain ⟨fd, F⟩ := T.F_TooHeavy_DinitD
  exact ⟨"ArithmeticError", _, _, _, fd, ["self", "limit"], _, [.p 0, .p 1], PySem.F.excBase_ArithmeticError, (T.xa_TooHeavy).xc, (T.xa_TooHeavy).xi, T.g_TooHeavy, okX1 (B := "ArithmeticError") PySem.F.store_ArithmeticError (T.xa_TooHeavy).xc F sc_TooHeavy_DinitD rfl ((T.xa_TooHeavy).nof "limit" (by decide)) (Or.inl rfl) (Or.inl rfl), (kdr_0 F 2 [] [.p 0, .p 1] fun _ _ _ _ _ _ us ws h1 h2 => match us, h1, ws, h2 with | [_, _], _, [], _ => rfl), fun _ _ _ => rfl, .inl ⟨"limit", rfl, rfl⟩⟩
theorem xmk_TooLarge_1 (T : Txt K mg) : XMk P w K mg base "TooLarge" ["limit"] 1 [] [.p 0] := by
  obtain ⟨fd, F⟩ := T.F_TooLarge_DinitD
  exact ⟨"ArithmeticError", _, _, _, fd, ["self", "limit"], _, [.p 0, .p 1], PySem.F.excBase_ArithmeticError, (T.xa_TooLarge).xc, (T.xa_TooLarge).xi, T.g_TooLarge, okX1 (B := "ArithmeticError") PySem.F.store_ArithmeticError (T.xa_TooLarge).xc F sc_TooLarge_DinitD rfl ((T.xa_TooLarge).nof "limit" (by decide)) (Or.inl rfl) (Or.inl rfl), (kdr_0 F 2 [] [.p 0, .p 1] fun _ _ _ _ _ _ us ws h1 h2 => match us, h1, ws, h2 with | [_, _], _, [], _ => rfl), fun _ _ _ => rfl, .inl ⟨"limit", rfl, rfl⟩⟩
theorem xmk_NotMade_1 (T : Txt K mg) : XMk P w K mg base "NotMade" ["given"] 1 [] [.p 0] := by
  obtain ⟨fd, F⟩ := T.F_NotMade_DinitD
  exact ⟨"LookupError", _, _, _, fd, ["self", "given"], _, [.p 0, .p 1], PySem.F.excBase_LookupError, (T.xa_NotMade).xc, (T.xa_NotMade).xi, T.g_NotMade, okX1 (B := "LookupError") PySem.F.store_LookupError (T.xa_NotMade).xc F sc_NotMade_DinitD rfl ((T.xa_NotMade).nof "given" (by decide)) (Or.inl rfl) (Or.inl rfl), (kdr_0 F 2 [] [.p 0, .p 1] fun _ _ _ _ _ _ us ws h1 h2 => match us, h1, ws, h2 with | [_, _], _, [], _ => rfl), fun _ _ _ => rfl, .inl ⟨"given", rfl, rfl⟩⟩
theorem xmk_Broken_2 (T : Txt K mg) : XMk P w K mg base "Broken" ["index", "shown"] 2 [] [.p 0, .p 1] := by
  obtain ⟨fd, F⟩ := T.F_Broken_DinitD
  exact ⟨"ArithmeticError", _, _, _, fd, ["self", "index", "shown"], _, [.p 0, .p 1, .p 2], PySem.F.excBase_ArithmeticError, (T.xa_Broken).xc, (T.xa_Broken).xi, T.g_Broken, okX2 (B := "ArithmeticError") PySem.F.store_ArithmeticError (T.xa_Broken).xc F sc_Broken_DinitD rfl ((T.xa_Broken).nof "index" (by decide)) ((T.xa_Broken).nof "shown" (by decide)) (Or.inl rfl) (Or.inl rfl) (Or.inl rfl), (kdr_0 F 3 [] [.p 0, .p 1, .p 2] fun _ _ _ _ _ _ us ws h1 h2 => match us, h1, ws, h2 with | [_, _, _], _, [], _ => rfl), fun _ _ _ => rfl, .inr ⟨"index", "shown", rfl, rfl⟩⟩
theorem sc_l_made : FnScope ["_law_odd_here", "_law_far", "_law_some"] ["_law_odd_here", "_law_far"] (defScope s_l_made) := ⟨rfl, rfl, rfl, by decide +kernel, rfl, by decide +kernel, by decide +kernel⟩
def m_l_made : FA := mDef 2 1 finN (mSeq (mAsg (mDisp dLst (mCons (mMkE "InvalidNumber" ["given"] 1 0 [.p 0] (mCons (mVar 0) mNil) mNil) (mCons (mMkE "InvalidText" ["given"] 1 0 [.p 0] (mCons (mVar 0) mNil) mNil) (mCons (mMkE "InvalidCount" ["given"] 1 0 [.p 0] (mCons (mVar 0) mNil) mNil) (mCons (mMkE "InvalidName" ["given"] 1 0 [.p 0] (mCons (mVar 0) mNil) mNil) (mCons (mMkE "InvalidTruth" ["given"] 1 0 [.p 0] (mCons (mVar 0) mNil) mNil) mNil)))))) (gNm 2))
      (mSeq (mAsg (mBin addU (mVar 2) (mDisp dLst (mCons (mMkE "InvalidEntries" ["given"] 1 0 [.p 0] (mCons (mVar 0) mNil) mNil) (mCons (mMkE "InvalidData" ["given"] 1 0 [.p 0] (mCons (mVar 0) mNil) mNil) (mCons (mMkE "InvalidLength" ["given"] 1 0 [.p 0] (mCons (mVar 0) mNil) mNil) (mCons (mMkE "InvalidPath" ["given"] 1 0 [.p 0] (mCons (mVar 0) mNil) mNil) (mCons (mMkE "InvalidClaim" ["given"] 1 0 [.p 0] (mCons (mVar 0) mNil) mNil) mNil))))))) (gNm 2))
      (mSeq (mAsg (mBin addU (mVar 2) (mDisp dLst (mCons (mMkE "InvalidIndex" ["given"] 1 0 [.p 0] (mCons (mVar 0) mNil) mNil) (mCons (mMkE "NotAFormula" ["given"] 1 0 [.p 0] (mCons (mVar 0) mNil) mNil) (mCons (mMkE "NotASeries" ["given"] 1 0 [.p 0] (mCons (mVar 0) mNil) mNil) (mCons (mMkE "NotARunner" ["given"] 1 0 [.p 0] (mCons (mVar 0) mNil) mNil) (mCons (mMkE "TextError" ["place"] 1 0 [.p 0] (mCons (mVar 0) mNil) mNil) mNil))))))) (gNm 2))
      (mSeq (mAsg (mBin addU (mVar 2) (mDisp dLst (mCons (mMkE "UnknownName" ["given"] 1 0 [.p 0] (mCons (mVar 0) mNil) mNil) (mCons (mMkE "Taken" ["given"] 1 0 [.p 0] (mCons (mVar 0) mNil) mNil) (mCons (mMkE "InUse" ["user"] 1 0 [.p 0] (mCons (mVar 0) mNil) mNil) (mCons (mMkE "Circular" ["given"] 1 0 [.p 0] (mCons (mVar 0) mNil) mNil) (mCons (mMkE "Clash" ["given"] 1 0 [.p 0] (mCons (mVar 0) mNil) mNil) (mCons (mMkE "NoSeries" ["given"] 1 0 [.p 0] (mCons (mVar 0) mNil) mNil) (mCons (mMkE "NoEntry" ["given"] 1 0 [.p 0] (mCons (mVar 0) mNil) mNil) mNil))))))))) (gNm 2))
      (mSeq (mAsg (mBin addU (mVar 2) (mDisp dLst (mCons (mMkE "NotMade" ["given"] 1 0 [.p 0] (mCons (mVar 0) mNil) mNil) (mCons (mMkE0 "DividedByZero") (mCons (mMkE "TooLarge" ["limit"] 1 0 [.p 0] (mCons (mVar 0) mNil) mNil) (mCons (mMkE "TooHeavy" ["limit"] 1 0 [.p 0] (mCons (mVar 0) mNil) mNil) (mCons (mMkE "NotUndoable" ["reason", "place"] 2 0 [.p 0, .p 1] (mCons (mVar 0) (mCons (mVar 1) mNil)) mNil) (mCons (mMkE "NoWay" ["place"] 1 0 [.p 0] (mCons (mVar 0) mNil) mNil) mNil)))))))) (gNm 2))
      (mRet (mBin addU (mVar 2) (mDisp dLst (mCons (mMkE0 "Ended") (mCons (mMkE0 "NothingToUndo") (mCons (mMkE "Broken" ["index", "shown"] 2 0 [.p 0, .p 1] (mCons (mVar 0) (mCons (mVar 1) mNil)) mNil) mNil)))))))))))
theorem ok_l_made (T : Txt K mg) {a : Addr} {fd : FuncData} (F : FnD K "_law_made" "_law_made" s_l_made [] a fd) : FnOk P w K mg base (L2.CX P w) 3 a fd ["_law_odd_here", "_law_far"] (spW K m_l_made) := by
  have Kxmk_InvalidTruth_1 := xmk_InvalidTruth_1 (P := P) (w := w) (base := base) T
  have Kxmk_InvalidName_1 := xmk_InvalidName_1 (P := P) (w := w) (base := base) T
  have Kxmk_InvalidCount_1 := xmk_InvalidCount_1 (P := P) (w := w) (base := base) T
  have Kxmk_InvalidText_1 := xmk_InvalidText_1 (P := P) (w := w) (base := base) T
  have Kxmk_InvalidNumber_1 := xmk_InvalidNumber_1 (P := P) (w := w) (base := base) T
  have Kxmk_InvalidClaim_1 := xmk_InvalidClaim_1 (P := P) (w := w) (base := base) T
  have Kxmk_InvalidPath_1 := xmk_InvalidPath_1 (P := P) (w := w) (base := base) T
  have Kxmk_InvalidLength_1 := xmk_InvalidLength_1 (P := P) (w := w) (base := base) T
  have Kxmk_InvalidData_1 := xmk_InvalidData_1 (P := P) (w := w) (base := base) T
  have Kxmk_InvalidEntries_1 := xmk_InvalidEntries_1 (P := P) (w := w) (base := base) T
  have Kxmk_TextError_1 := xmk_TextError_1 (P := P) (w := w) (base := base) T
  have Kxmk_NotARunner_1 := xmk_NotARunner_1 (P := P) (w := w) (base := base) T
  have Kxmk_NotASeries_1 := xmk_NotASeries_1 (P := P) (w := w) (base := base) T
  have Kxmk_NotAFormula_1 := xmk_NotAFormula_1 (P := P) (w := w) (base := base) T
  have Kxmk_InvalidIndex_1 := xmk_InvalidIndex_1 (P := P) (w := w) (base := base) T
  have Kxmk_NoEntry_1 := xmk_NoEntry_1 (P := P) (w := w) (base := base) T
  have Kxmk_NoSeries_1 := xmk_NoSeries_1 (P := P) (w := w) (base := base) T
  have Kxmk_Clash_1 := xmk_Clash_1 (P := P) (w := w) (base := base) T
  have Kxmk_Circular_1 := xmk_Circular_1 (P := P) (w := w) (base := base) T
  have Kxmk_InUse_1 := xmk_InUse_1 (P := P) (w := w) (base := base) T
  have Kxmk_Taken_1 := xmk_Taken_1 (P := P) (w := w) (base := base) T
  have Kxmk_UnknownName_1 := xmk_UnknownName_1 (P := P) (w := w) (base := base) T
  have Kxmk_NoWay_1 := xmk_NoWay_1 (P := P) (w := w) (base := base) T
  have Kxmk_NotUndoable_2 := xmk_NotUndoable_2 (P := P) (w := w) (base := base) T
  have Kxmk_TooHeavy_1 := xmk_TooHeavy_1 (P := P) (w := w) (base := base) T
  have Kxmk_TooLarge_1 := xmk_TooLarge_1 (P := P) (w := w) (base := base) T
  have R_DividedByZero := xr_DividedByZero T
  have Kxmk_NotMade_1 := xmk_NotMade_1 (P := P) (w := w) (base := base) T
  have Kxmk_Broken_2 := xmk_Broken_2 (P := P) (w := w) (base := base) T
  have R_NothingToUndo := xr_NothingToUndo T
  have R_Ended := xr_Ended T
  exact okW F sc_l_made finN_ok rfl (fun cdv A outer s H E hr => (sw_cons (sw_set (i := 2) sc_l_made.nd rfl (Or.inl rfl) (ew_lst (aw_cons (ew_mkE (ks := []) Kxmk_InvalidNumber_1 hr (aw_cons (ev 0) aw_nil) kw_nil) (aw_cons (ew_mkE (ks := []) Kxmk_InvalidText_1 hr (aw_cons (ev 0) aw_nil) kw_nil) (aw_cons (ew_mkE (ks := []) Kxmk_InvalidCount_1 hr (aw_cons (ev 0) aw_nil) kw_nil) (aw_cons (ew_mkE (ks := []) Kxmk_InvalidName_1 hr (aw_cons (ev 0) aw_nil) kw_nil) (aw_cons (ew_mkE (ks := []) Kxmk_InvalidTruth_1 hr (aw_cons (ev 0) aw_nil) kw_nil) aw_nil)))))))
      (sw_cons (sw_set (i := 2) sc_l_made.nd rfl (Or.inl rfl) (ew_op (op_addU) vr_add (ev 2) (ew_lst (aw_cons (ew_mkE (ks := []) Kxmk_InvalidEntries_1 hr (aw_cons (ev 0) aw_nil) kw_nil) (aw_cons (ew_mkE (ks := []) Kxmk_InvalidData_1 hr (aw_cons (ev 0) aw_nil) kw_nil) (aw_cons (ew_mkE (ks := []) Kxmk_InvalidLength_1 hr (aw_cons (ev 0) aw_nil) kw_nil) (aw_cons (ew_mkE (ks := []) Kxmk_InvalidPath_1 hr (aw_cons (ev 0) aw_nil) kw_nil) (aw_cons (ew_mkE (ks := []) Kxmk_InvalidClaim_1 hr (aw_cons (ev 0) aw_nil) kw_nil) aw_nil))))))))
      (sw_cons (sw_set (i := 2) sc_l_made.nd rfl (Or.inl rfl) (ew_op (op_addU) vr_add (ev 2) (ew_lst (aw_cons (ew_mkE (ks := []) Kxmk_InvalidIndex_1 hr (aw_cons (ev 0) aw_nil) kw_nil) (aw_cons (ew_mkE (ks := []) Kxmk_NotAFormula_1 hr (aw_cons (ev 0) aw_nil) kw_nil) (aw_cons (ew_mkE (ks := []) Kxmk_NotASeries_1 hr (aw_cons (ev 0) aw_nil) kw_nil) (aw_cons (ew_mkE (ks := []) Kxmk_NotARunner_1 hr (aw_cons (ev 0) aw_nil) kw_nil) (aw_cons (ew_mkE (ks := []) Kxmk_TextError_1 hr (aw_cons (ev 0) aw_nil) kw_nil) aw_nil))))))))
      (sw_cons (sw_set (i := 2) sc_l_made.nd rfl (Or.inl rfl) (ew_op (op_addU) vr_add (ev 2) (ew_lst (aw_cons (ew_mkE (ks := []) Kxmk_UnknownName_1 hr (aw_cons (ev 0) aw_nil) kw_nil) (aw_cons (ew_mkE (ks := []) Kxmk_Taken_1 hr (aw_cons (ev 0) aw_nil) kw_nil) (aw_cons (ew_mkE (ks := []) Kxmk_InUse_1 hr (aw_cons (ev 0) aw_nil) kw_nil) (aw_cons (ew_mkE (ks := []) Kxmk_Circular_1 hr (aw_cons (ev 0) aw_nil) kw_nil) (aw_cons (ew_mkE (ks := []) Kxmk_Clash_1 hr (aw_cons (ev 0) aw_nil) kw_nil) (aw_cons (ew_mkE (ks := []) Kxmk_NoSeries_1 hr (aw_cons (ev 0) aw_nil) kw_nil) (aw_cons (ew_mkE (ks := []) Kxmk_NoEntry_1 hr (aw_cons (ev 0) aw_nil) kw_nil) aw_nil))))))))))
      (sw_cons (sw_set (i := 2) sc_l_made.nd rfl (Or.inl rfl) (ew_op (op_addU) vr_add (ev 2) (ew_lst (aw_cons (ew_mkE (ks := []) Kxmk_NotMade_1 hr (aw_cons (ev 0) aw_nil) kw_nil) (aw_cons (ew_mkE0 R_DividedByZero) (aw_cons (ew_mkE (ks := []) Kxmk_TooLarge_1 hr (aw_cons (ev 0) aw_nil) kw_nil) (aw_cons (ew_mkE (ks := []) Kxmk_TooHeavy_1 hr (aw_cons (ev 0) aw_nil) kw_nil) (aw_cons (ew_mkE (ks := []) Kxmk_NotUndoable_2 hr (aw_cons (ev 0) (aw_cons (ev 1) aw_nil)) kw_nil) (aw_cons (ew_mkE (ks := []) Kxmk_NoWay_1 hr (aw_cons (ev 0) aw_nil) kw_nil) aw_nil)))))))))
      (sw_one (sw_ret (ew_op (op_addU) vr_add (ev 2) (ew_lst (aw_cons (ew_mkE0 R_Ended) (aw_cons (ew_mkE0 R_NothingToUndo) (aw_cons (ew_mkE (ks := []) Kxmk_Broken_2 hr (aw_cons (ev 0) (aw_cons (ev 1) aw_nil)) kw_nil) aw_nil)))))))))))))
theorem w_l_made (T : Txt K mg) : Gd P w K mg base 3 "_law_made" (spW K m_l_made) := by
  obtain ⟨fd, F⟩ := T.F_l_made
  exact ⟨_, fd, ["_law_odd_here", "_law_far"], ok_l_made T F, T.g_l_made, F.kp, F.bindsN fun _ _ _ _ _ _ us hl => match us, hl with | [_, _], _ => rfl⟩
theorem sc_l_of_answers : FnScope ["_law_e", "_law_sorts", "_law_words"] ["_law_e"] (defScope s_l_of_answers) := ⟨rfl, rfl, rfl, by decide +kernel, rfl, by decide +kernel, by decide +kernel⟩
def m_l_of_answers : FA := mDef 1 2 finN (mSeq (mAsg (mDisp dLst (mCons (mCall (isiE excOk excKit) (mCons (mVar 0) (mCons (mC (.cls "DividedByZero")) mNil))) (mCons (mCall (isiE excOk excKit) (mCons (mVar 0) (mCons (mC (.cls "TooLarge")) mNil))) (mCons (mCall (isiE excOk excKit) (mCons (mVar 0) (mCons (mC (.cls "TooHeavy")) mNil))) mNil)))) (gNm 1))
      (mSeq (mAsg (mBin addU (mVar 1) (mDisp dLst (mCons (mCall (isiE excOk excKit) (mCons (mVar 0) (mCons (mC (.cls "NotUndoable")) mNil))) (mCons (mCall (isiE excOk excKit) (mCons (mVar 0) (mCons (mC (.cls "NoWay")) mNil))) (mCons (mCall (isiE excOk excKit) (mCons (mVar 0) (mCons (mC (.cls "Ended")) mNil))) mNil))))) (gNm 1))
      (mSeq (mAsg (mBin addU (mVar 1) (mDisp dLst (mCons (mCall (isiE excOk excKit) (mCons (mVar 0) (mCons (mC (.cls "NothingToUndo")) mNil))) (mCons (mCall (isiE excOk excKit) (mCons (mVar 0) (mCons (mC (.cls "Broken")) mNil))) mNil)))) (gNm 1))
      (mSeq (mAsg (mDisp dLst (mCons (mC (.str "DividedByZero")) (mCons (mC (.str "TooLarge")) (mCons (mC (.str "TooHeavy")) (mCons (mC (.str "NotUndoable")) (mCons (mC (.str "NoWay")) (mCons (mC (.str "Ended")) (mCons (mC (.str "NothingToUndo")) (mCons (mC (.str "Broken")) mNil))))))))) (gNm 2))
      (mRet (mIfE (mB (mBin eqU (mMethT isLst cntM (mVar 1) (mCons (mC (.bl true)) mNil)) (mC (.int 1)))) (mBin ixU (mVar 2) (mMethT isLst ixM (mVar 1) (mCons (mC (.bl true)) mNil))) (mC (.str ""))))))))
theorem ok_l_of_answers (T : Txt K mg) {a : Addr} {fd : FuncData} (F : FnD K "_law_of_answers" "_law_of_answers" s_l_of_answers [] a fd) : FnOk P w K mg base (L2.CX P w) 1 a fd ["_law_e"] (spW K m_l_of_answers) := by
  exact okW F sc_l_of_answers finN_ok rfl (fun cdv A outer s H E hr => (sw_cons (sw_set (i := 1) sc_l_of_answers.nd rfl (Or.inl rfl) (ew_lst (aw_cons (ew_callB call_isX (vr_isiE (exc_ok T) (exc_kit T)) rfl T.f_isinstance (by decide +kernel) (aw_cons (ev 0) (aw_cons (ew_glob (v := .ref (ga K "DividedByZero")) rfl T.g_DividedByZero rfl (fun _ => rfl)) aw_nil))) (aw_cons (ew_callB call_isX (vr_isiE (exc_ok T) (exc_kit T)) rfl T.f_isinstance (by decide +kernel) (aw_cons (ev 0) (aw_cons (ew_glob (v := .ref (ga K "TooLarge")) rfl T.g_TooLarge rfl (fun _ => rfl)) aw_nil))) (aw_cons (ew_callB call_isX (vr_isiE (exc_ok T) (exc_kit T)) rfl T.f_isinstance (by decide +kernel) (aw_cons (ev 0) (aw_cons (ew_glob (v := .ref (ga K "TooHeavy")) rfl T.g_TooHeavy rfl (fun _ => rfl)) aw_nil))) aw_nil)))))
      (sw_cons (sw_set (i := 1) sc_l_of_answers.nd rfl (Or.inl rfl) (ew_op (op_addU) vr_add (ev 1) (ew_lst (aw_cons (ew_callB call_isX (vr_isiE (exc_ok T) (exc_kit T)) rfl T.f_isinstance (by decide +kernel) (aw_cons (ev 0) (aw_cons (ew_glob (v := .ref (ga K "NotUndoable")) rfl T.g_NotUndoable rfl (fun _ => rfl)) aw_nil))) (aw_cons (ew_callB call_isX (vr_isiE (exc_ok T) (exc_kit T)) rfl T.f_isinstance (by decide +kernel) (aw_cons (ev 0) (aw_cons (ew_glob (v := .ref (ga K "NoWay")) rfl T.g_NoWay rfl (fun _ => rfl)) aw_nil))) (aw_cons (ew_callB call_isX (vr_isiE (exc_ok T) (exc_kit T)) rfl T.f_isinstance (by decide +kernel) (aw_cons (ev 0) (aw_cons (ew_glob (v := .ref (ga K "Ended")) rfl T.g_Ended rfl (fun _ => rfl)) aw_nil))) aw_nil))))))
      (sw_cons (sw_set (i := 1) sc_l_of_answers.nd rfl (Or.inl rfl) (ew_op (op_addU) vr_add (ev 1) (ew_lst (aw_cons (ew_callB call_isX (vr_isiE (exc_ok T) (exc_kit T)) rfl T.f_isinstance (by decide +kernel) (aw_cons (ev 0) (aw_cons (ew_glob (v := .ref (ga K "NothingToUndo")) rfl T.g_NothingToUndo rfl (fun _ => rfl)) aw_nil))) (aw_cons (ew_callB call_isX (vr_isiE (exc_ok T) (exc_kit T)) rfl T.f_isinstance (by decide +kernel) (aw_cons (ev 0) (aw_cons (ew_glob (v := .ref (ga K "Broken")) rfl T.g_Broken rfl (fun _ => rfl)) aw_nil))) aw_nil)))))
      (sw_cons (sw_set (i := 2) sc_l_of_answers.nd rfl (Or.inl rfl) (ew_lst (aw_cons ew_str (aw_cons ew_str (aw_cons ew_str (aw_cons ew_str (aw_cons ew_str (aw_cons ew_str (aw_cons ew_str (aw_cons ew_str aw_nil))))))))))
      (sw_one (sw_ret (ew_ifE (tw_cmp (op_eqU (hu64 hr)) vr_eq (ew_bm PySem.F.plainAttrs_list PySem.F.slot_list_count PySem.F.type_list_count mt_count tym_lst vr_cntM (ev 1) (aw_cons ew_bl aw_nil)) ew_int (nomark _)) (ew_ix (ev 2) (ew_bm PySem.F.plainAttrs_list PySem.F.slot_list_index PySem.F.type_list_index mt_index tym_lst vr_ixM (ev 1) (aw_cons ew_bl aw_nil))) ew_str))))))))
theorem w_l_of_answers (T : Txt K mg) : Gd P w K mg base 1 "_law_of_answers" (spW K m_l_of_answers) := by
  obtain ⟨fd, F⟩ := T.F_l_of_answers
  exact ⟨_, fd, ["_law_e"], ok_l_of_answers T F, T.g_l_of_answers, F.kp, F.bindsN fun _ _ _ _ _ _ us hl => match us, hl with | [_], _ => rfl⟩
theorem sc_l_of_names : FnScope ["_law_e", "_law_sorts", "_law_words"] ["_law_e"] (defScope s_l_of_names) := ⟨rfl, rfl, rfl, by decide +kernel, rfl, by decide +kernel, by decide +kernel⟩
def m_l_of_names : FA := mDef 1 2 finN (mSeq (mAsg (mDisp dLst (mCons (mCall (isiE excOk excKit) (mCons (mVar 0) (mCons (mC (.cls "UnknownName")) mNil))) (mCons (mCall (isiE excOk excKit) (mCons (mVar 0) (mCons (mC (.cls "Taken")) mNil))) (mCons (mCall (isiE excOk excKit) (mCons (mVar 0) (mCons (mC (.cls "InUse")) mNil))) (mCons (mCall (isiE excOk excKit) (mCons (mVar 0) (mCons (mC (.cls "Circular")) mNil))) mNil))))) (gNm 1))
      (mSeq (mAsg (mBin addU (mVar 1) (mDisp dLst (mCons (mCall (isiE excOk excKit) (mCons (mVar 0) (mCons (mC (.cls "Clash")) mNil))) (mCons (mCall (isiE excOk excKit) (mCons (mVar 0) (mCons (mC (.cls "NoSeries")) mNil))) (mCons (mCall (isiE excOk excKit) (mCons (mVar 0) (mCons (mC (.cls "NoEntry")) mNil))) (mCons (mCall (isiE excOk excKit) (mCons (mVar 0) (mCons (mC (.cls "NotMade")) mNil))) mNil)))))) (gNm 1))
      (mSeq (mAsg (mDisp dLst (mCons (mC (.str "UnknownName")) (mCons (mC (.str "Taken")) (mCons (mC (.str "InUse")) (mCons (mC (.str "Circular")) (mCons (mC (.str "Clash")) (mCons (mC (.str "NoSeries")) (mCons (mC (.str "NoEntry")) (mCons (mC (.str "NotMade")) mNil))))))))) (gNm 2))
      (mRet (mIfE (mB (mBin eqU (mMethT isLst cntM (mVar 1) (mCons (mC (.bl true)) mNil)) (mC (.int 1)))) (mBin ixU (mVar 2) (mMethT isLst ixM (mVar 1) (mCons (mC (.bl true)) mNil))) (mC (.str "")))))))
theorem ok_l_of_names (T : Txt K mg) {a : Addr} {fd : FuncData} (F : FnD K "_law_of_names" "_law_of_names" s_l_of_names [] a fd) : FnOk P w K mg base (L2.CX P w) 1 a fd ["_law_e"] (spW K m_l_of_names) := by
  exact okW F sc_l_of_names finN_ok rfl (fun cdv A outer s H E hr => (sw_cons (sw_set (i := 1) sc_l_of_names.nd rfl (Or.inl rfl) (ew_lst (aw_cons (ew_callB call_isX (vr_isiE (exc_ok T) (exc_kit T)) rfl T.f_isinstance (by decide +kernel) (aw_cons (ev 0) (aw_cons (ew_glob (v := .ref (ga K "UnknownName")) rfl T.g_UnknownName rfl (fun _ => rfl)) aw_nil))) (aw_cons (ew_callB call_isX (vr_isiE (exc_ok T) (exc_kit T)) rfl T.f_isinstance (by decide +kernel) (aw_cons (ev 0) (aw_cons (ew_glob (v := .ref (ga K "Taken")) rfl T.g_Taken rfl (fun _ => rfl)) aw_nil))) (aw_cons (ew_callB call_isX (vr_isiE (exc_ok T) (exc_kit T)) rfl T.f_isinstance (by decide +kernel) (aw_cons (ev 0) (aw_cons (ew_glob (v := .ref (ga K "InUse")) rfl T.g_InUse rfl (fun _ => rfl)) aw_nil))) (aw_cons (ew_callB call_isX (vr_isiE (exc_ok T) (exc_kit T)) rfl T.f_isinstance (by decide +kernel) (aw_cons (ev 0) (aw_cons (ew_glob (v := .ref (ga K "Circular")) rfl T.g_Circular rfl (fun _ => rfl)) aw_nil))) aw_nil))))))
      (sw_cons (sw_set (i := 1) sc_l_of_names.nd rfl (Or.inl rfl) (ew_op (op_addU) vr_add (ev 1) (ew_lst (aw_cons (ew_callB call_isX (vr_isiE (exc_ok T) (exc_kit T)) rfl T.f_isinstance (by decide +kernel) (aw_cons (ev 0) (aw_cons (ew_glob (v := .ref (ga K "Clash")) rfl T.g_Clash rfl (fun _ => rfl)) aw_nil))) (aw_cons (ew_callB call_isX (vr_isiE (exc_ok T) (exc_kit T)) rfl T.f_isinstance (by decide +kernel) (aw_cons (ev 0) (aw_cons (ew_glob (v := .ref (ga K "NoSeries")) rfl T.g_NoSeries rfl (fun _ => rfl)) aw_nil))) (aw_cons (ew_callB call_isX (vr_isiE (exc_ok T) (exc_kit T)) rfl T.f_isinstance (by decide +kernel) (aw_cons (ev 0) (aw_cons (ew_glob (v := .ref (ga K "NoEntry")) rfl T.g_NoEntry rfl (fun _ => rfl)) aw_nil))) (aw_cons (ew_callB call_isX (vr_isiE (exc_ok T) (exc_kit T)) rfl T.f_isinstance (by decide +kernel) (aw_cons (ev 0) (aw_cons (ew_glob (v := .ref (ga K "NotMade")) rfl T.g_NotMade rfl (fun _ => rfl)) aw_nil))) aw_nil)))))))
      (sw_cons (sw_set (i := 2) sc_l_of_names.nd rfl (Or.inl rfl) (ew_lst (aw_cons ew_str (aw_cons ew_str (aw_cons ew_str (aw_cons ew_str (aw_cons ew_str (aw_cons ew_str (aw_cons ew_str (aw_cons ew_str aw_nil))))))))))
      (sw_one (sw_ret (ew_ifE (tw_cmp (op_eqU (hu64 hr)) vr_eq (ew_bm PySem.F.plainAttrs_list PySem.F.slot_list_count PySem.F.type_list_count mt_count tym_lst vr_cntM (ev 1) (aw_cons ew_bl aw_nil)) ew_int (nomark _)) (ew_ix (ev 2) (ew_bm PySem.F.plainAttrs_list PySem.F.slot_list_index PySem.F.type_list_index mt_index tym_lst vr_ixM (ev 1) (aw_cons ew_bl aw_nil))) ew_str)))))))
theorem w_l_of_names (T : Txt K mg) : Gd P w K mg base 1 "_law_of_names" (spW K m_l_of_names) := by
  obtain ⟨fd, F⟩ := T.F_l_of_names
  exact ⟨_, fd, ["_law_e"], ok_l_of_names T F, T.g_l_of_names, F.kp, F.bindsN fun _ _ _ _ _ _ us hl => match us, hl with | [_], _ => rfl⟩
theorem sc_l_given : FnScope ["_law_e", "_law_sorts", "_law_words"] ["_law_e"] (defScope s_l_given) := ⟨rfl, rfl, rfl, by decide +kernel, rfl, by decide +kernel, by decide +kernel⟩
def m_l_given : FA := mDef 1 2 finN (mSeq (mAsg (mDisp dLst (mCons (mCall (isiE excOk excKit) (mCons (mVar 0) (mCons (mC (.cls "InvalidNumber")) mNil))) (mCons (mCall (isiE excOk excKit) (mCons (mVar 0) (mCons (mC (.cls "InvalidText")) mNil))) (mCons (mCall (isiE excOk excKit) (mCons (mVar 0) (mCons (mC (.cls "InvalidCount")) mNil))) mNil)))) (gNm 1))
      (mSeq (mAsg (mBin addU (mVar 1) (mDisp dLst (mCons (mCall (isiE excOk excKit) (mCons (mVar 0) (mCons (mC (.cls "InvalidName")) mNil))) (mCons (mCall (isiE excOk excKit) (mCons (mVar 0) (mCons (mC (.cls "InvalidTruth")) mNil))) (mCons (mCall (isiE excOk excKit) (mCons (mVar 0) (mCons (mC (.cls "InvalidEntries")) mNil))) mNil))))) (gNm 1))
      (mSeq (mAsg (mBin addU (mVar 1) (mDisp dLst (mCons (mCall (isiE excOk excKit) (mCons (mVar 0) (mCons (mC (.cls "InvalidData")) mNil))) (mCons (mCall (isiE excOk excKit) (mCons (mVar 0) (mCons (mC (.cls "InvalidLength")) mNil))) (mCons (mCall (isiE excOk excKit) (mCons (mVar 0) (mCons (mC (.cls "InvalidPath")) mNil))) mNil))))) (gNm 1))
      (mSeq (mAsg (mBin addU (mVar 1) (mDisp dLst (mCons (mCall (isiE excOk excKit) (mCons (mVar 0) (mCons (mC (.cls "InvalidClaim")) mNil))) (mCons (mCall (isiE excOk excKit) (mCons (mVar 0) (mCons (mC (.cls "InvalidIndex")) mNil))) (mCons (mCall (isiE excOk excKit) (mCons (mVar 0) (mCons (mC (.cls "NotAFormula")) mNil))) mNil))))) (gNm 1))
      (mSeq (mAsg (mBin addU (mVar 1) (mDisp dLst (mCons (mCall (isiE excOk excKit) (mCons (mVar 0) (mCons (mC (.cls "NotASeries")) mNil))) (mCons (mCall (isiE excOk excKit) (mCons (mVar 0) (mCons (mC (.cls "NotARunner")) mNil))) (mCons (mCall (isiE excOk excKit) (mCons (mVar 0) (mCons (mC (.cls "TextError")) mNil))) mNil))))) (gNm 1))
      (mSeq (mAsg (mDisp dLst (mCons (mC (.str "InvalidNumber")) (mCons (mC (.str "InvalidText")) (mCons (mC (.str "InvalidCount")) (mCons (mC (.str "InvalidName")) (mCons (mC (.str "InvalidTruth")) (mCons (mC (.str "InvalidEntries")) mNil))))))) (gNm 2))
      (mSeq (mAsg (mBin addU (mVar 2) (mDisp dLst (mCons (mC (.str "InvalidData")) (mCons (mC (.str "InvalidLength")) (mCons (mC (.str "InvalidPath")) (mCons (mC (.str "InvalidClaim")) (mCons (mC (.str "InvalidIndex")) (mCons (mC (.str "NotAFormula")) mNil)))))))) (gNm 2))
      (mSeq (mAsg (mBin addU (mVar 2) (mDisp dLst (mCons (mC (.str "NotASeries")) (mCons (mC (.str "NotARunner")) (mCons (mC (.str "TextError")) mNil))))) (gNm 2))
      (mRet (mIfE (mB (mBin eqU (mMethT isLst cntM (mVar 1) (mCons (mC (.bl true)) mNil)) (mC (.int 1)))) (mBin ixU (mVar 2) (mMethT isLst ixM (mVar 1) (mCons (mC (.bl true)) mNil))) (mC (.str ""))))))))))))
theorem ok_l_given (T : Txt K mg) {a : Addr} {fd : FuncData} (F : FnD K "_law_given" "_law_given" s_l_given [] a fd) : FnOk P w K mg base (L2.CX P w) 1 a fd ["_law_e"] (spW K m_l_given) := by
  exact okW F sc_l_given finN_ok rfl (fun cdv A outer s H E hr => (sw_cons (sw_set (i := 1) sc_l_given.nd rfl (Or.inl rfl) (ew_lst (aw_cons (ew_callB call_isX (vr_isiE (exc_ok T) (exc_kit T)) rfl T.f_isinstance (by decide +kernel) (aw_cons (ev 0) (aw_cons (ew_glob (v := .ref (ga K "InvalidNumber")) rfl T.g_InvalidNumber rfl (fun _ => rfl)) aw_nil))) (aw_cons (ew_callB call_isX (vr_isiE (exc_ok T) (exc_kit T)) rfl T.f_isinstance (by decide +kernel) (aw_cons (ev 0) (aw_cons (ew_glob (v := .ref (ga K "InvalidText")) rfl T.g_InvalidText rfl (fun _ => rfl)) aw_nil))) (aw_cons (ew_callB call_isX (vr_isiE (exc_ok T) (exc_kit T)) rfl T.f_isinstance (by decide +kernel) (aw_cons (ev 0) (aw_cons (ew_glob (v := .ref (ga K "InvalidCount")) rfl T.g_InvalidCount rfl (fun _ => rfl)) aw_nil))) aw_nil)))))
      (sw_cons (sw_set (i := 1) sc_l_given.nd rfl (Or.inl rfl) (ew_op (op_addU) vr_add (ev 1) (ew_lst (aw_cons (ew_callB call_isX (vr_isiE (exc_ok T) (exc_kit T)) rfl T.f_isinstance (by decide +kernel) (aw_cons (ev 0) (aw_cons (ew_glob (v := .ref (ga K "InvalidName")) rfl T.g_InvalidName rfl (fun _ => rfl)) aw_nil))) (aw_cons (ew_callB call_isX (vr_isiE (exc_ok T) (exc_kit T)) rfl T.f_isinstance (by decide +kernel) (aw_cons (ev 0) (aw_cons (ew_glob (v := .ref (ga K "InvalidTruth")) rfl T.g_InvalidTruth rfl (fun _ => rfl)) aw_nil))) (aw_cons (ew_callB call_isX (vr_isiE (exc_ok T) (exc_kit T)) rfl T.f_isinstance (by decide +kernel) (aw_cons (ev 0) (aw_cons (ew_glob (v := .ref (ga K "InvalidEntries")) rfl T.g_InvalidEntries rfl (fun _ => rfl)) aw_nil))) aw_nil))))))
      (sw_cons (sw_set (i := 1) sc_l_given.nd rfl (Or.inl rfl) (ew_op (op_addU) vr_add (ev 1) (ew_lst (aw_cons (ew_callB call_isX (vr_isiE (exc_ok T) (exc_kit T)) rfl T.f_isinstance (by decide +kernel) (aw_cons (ev 0) (aw_cons (ew_glob (v := .ref (ga K "InvalidData")) rfl T.g_InvalidData rfl (fun _ => rfl)) aw_nil))) (aw_cons (ew_callB call_isX (vr_isiE (exc_ok T) (exc_kit T)) rfl T.f_isinstance (by decide +kernel) (aw_cons (ev 0) (aw_cons (ew_glob (v := .ref (ga K "InvalidLength")) rfl T.g_InvalidLength rfl (fun _ => rfl)) aw_nil))) (aw_cons (ew_callB call_isX (vr_isiE (exc_ok T) (exc_kit T)) rfl T.f_isinstance (by decide +kernel) (aw_cons (ev 0) (aw_cons (ew_glob (v := .ref (ga K "InvalidPath")) rfl T.g_InvalidPath rfl (fun _ => rfl)) aw_nil))) aw_nil))))))
      (sw_cons (sw_set (i := 1) sc_l_given.nd rfl (Or.inl rfl) (ew_op (op_addU) vr_add (ev 1) (ew_lst (aw_cons (ew_callB call_isX (vr_isiE (exc_ok T) (exc_kit T)) rfl T.f_isinstance (by decide +kernel) (aw_cons (ev 0) (aw_cons (ew_glob (v := .ref (ga K "InvalidClaim")) rfl T.g_InvalidClaim rfl (fun _ => rfl)) aw_nil))) (aw_cons (ew_callB call_isX (vr_isiE (exc_ok T) (exc_kit T)) rfl T.f_isinstance (by decide +kernel) (aw_cons (ev 0) (aw_cons (ew_glob (v := .ref (ga K "InvalidIndex")) rfl T.g_InvalidIndex rfl (fun _ => rfl)) aw_nil))) (aw_cons (ew_callB call_isX (vr_isiE (exc_ok T) (exc_kit T)) rfl T.f_isinstance (by decide +kernel) (aw_cons (ev 0) (aw_cons (ew_glob (v := .ref (ga K "NotAFormula")) rfl T.g_NotAFormula rfl (fun _ => rfl)) aw_nil))) aw_nil))))))
      (sw_cons (sw_set (i := 1) sc_l_given.nd rfl (Or.inl rfl) (ew_op (op_addU) vr_add (ev 1) (ew_lst (aw_cons (ew_callB call_isX (vr_isiE (exc_ok T) (exc_kit T)) rfl T.f_isinstance (by decide +kernel) (aw_cons (ev 0) (aw_cons (ew_glob (v := .ref (ga K "NotASeries")) rfl T.g_NotASeries rfl (fun _ => rfl)) aw_nil))) (aw_cons (ew_callB call_isX (vr_isiE (exc_ok T) (exc_kit T)) rfl T.f_isinstance (by decide +kernel) (aw_cons (ev 0) (aw_cons (ew_glob (v := .ref (ga K "NotARunner")) rfl T.g_NotARunner rfl (fun _ => rfl)) aw_nil))) (aw_cons (ew_callB call_isX (vr_isiE (exc_ok T) (exc_kit T)) rfl T.f_isinstance (by decide +kernel) (aw_cons (ev 0) (aw_cons (ew_glob (v := .ref (ga K "TextError")) rfl T.g_TextError rfl (fun _ => rfl)) aw_nil))) aw_nil))))))
      (sw_cons (sw_set (i := 2) sc_l_given.nd rfl (Or.inl rfl) (ew_lst (aw_cons ew_str (aw_cons ew_str (aw_cons ew_str (aw_cons ew_str (aw_cons ew_str (aw_cons ew_str aw_nil))))))))
      (sw_cons (sw_set (i := 2) sc_l_given.nd rfl (Or.inl rfl) (ew_op (op_addU) vr_add (ev 2) (ew_lst (aw_cons ew_str (aw_cons ew_str (aw_cons ew_str (aw_cons ew_str (aw_cons ew_str (aw_cons ew_str aw_nil)))))))))
      (sw_cons (sw_set (i := 2) sc_l_given.nd rfl (Or.inl rfl) (ew_op (op_addU) vr_add (ev 2) (ew_lst (aw_cons ew_str (aw_cons ew_str (aw_cons ew_str aw_nil))))))
      (sw_one (sw_ret (ew_ifE (tw_cmp (op_eqU (hu64 hr)) vr_eq (ew_bm PySem.F.plainAttrs_list PySem.F.slot_list_count PySem.F.type_list_count mt_count tym_lst vr_cntM (ev 1) (aw_cons ew_bl aw_nil)) ew_int (nomark _)) (ew_ix (ev 2) (ew_bm PySem.F.plainAttrs_list PySem.F.slot_list_index PySem.F.type_list_index mt_index tym_lst vr_ixM (ev 1) (aw_cons ew_bl aw_nil))) ew_str))))))))))))
theorem w_l_given (T : Txt K mg) : Gd P w K mg base 1 "_law_given" (spW K m_l_given) := by
  obtain ⟨fd, F⟩ := T.F_l_given
  exact ⟨_, fd, ["_law_e"], ok_l_given T F, T.g_l_given, F.kp, F.bindsN fun _ _ _ _ _ _ us hl => match us, hl with | [_], _ => rfl⟩
theorem sc_l_word : FnScope ["_law_e", "_law_words", "_law_bases", "_law_own"] ["_law_e"] (defScope s_l_word) := ⟨rfl, rfl, rfl, by decide +kernel, rfl, by decide +kernel, by decide +kernel⟩
def m_l_word : FA := mDef 1 3 finN (mSeq (mAsg (mDisp dLst (mCons (mCall m_l_given (mCons (mVar 0) mNil)) (mCons (mCall m_l_of_names (mCons (mVar 0) mNil)) (mCons (mCall m_l_of_answers (mCons (mVar 0) mNil)) mNil)))) (gNm 1))
      (mSeq (mAsg (mDisp dLst (mCons (mCall (isiE excOk excKit) (mCons (mVar 0) (mCons (mC (.cls "GivenError")) mNil))) (mCons (mCall (isiE excOk excKit) (mCons (mVar 0) (mCons (mC (.cls "NameProblem")) mNil))) (mCons (mCall (isiE excOk excKit) (mCons (mVar 0) (mCons (mC (.cls "AnswerError")) mNil))) mNil)))) (gNm 2))
      (mSeq (mAsg (mDisp dLst (mCons (mCall (isiE excOk excKit) (mCons (mVar 0) (mCons (mC (.ty "ValueError")) mNil))) (mCons (mCall (isiE excOk excKit) (mCons (mVar 0) (mCons (mC (.ty "LookupError")) mNil))) (mCons (mCall (isiE excOk excKit) (mCons (mVar 0) (mCons (mC (.ty "ArithmeticError")) mNil))) mNil)))) (gNm 3))
      (mSeq (mIf (mOr (mB (mBin neU (mVar 2) (mVar 3))) (mB (mBin neU (mMethT isLst cntM (mVar 2) (mCons (mC (.bl true)) mNil)) (mC (.int 1))))) (mRet (mC (.str ""))) mNext)
      (mRet (mIfE (mB (mBin eqU (mMethT isLst cntM (mVar 1) (mCons (mC (.str "")) mNil)) (mC (.int 2)))) (mBin ixU (mVar 1) (mMethT isLst ixM (mVar 2) (mCons (mC (.bl true)) mNil))) (mC (.str ""))))))))
theorem ok_l_word (T : Txt K mg) {a : Addr} {fd : FuncData} (F : FnD K "_law_word" "_law_word" s_l_word [] a fd) : FnOk P w K mg base (L2.CX P w) 2 a fd ["_law_e"] (spW K m_l_word) := by
  have G_l_of_answers := w_l_of_answers (P := P) (w := w) (base := base) T
  have G_l_of_names := w_l_of_names (P := P) (w := w) (base := base) T
  have G_l_given := w_l_given (P := P) (w := w) (base := base) T
  exact okW F sc_l_word finN_ok rfl (fun cdv A outer s H E hr => (sw_cons (sw_set (i := 1) sc_l_word.nd rfl (Or.inl rfl) (ew_lst (aw_cons (ew_gd G_l_given hr (aw_cons (ev 0) aw_nil)) (aw_cons (ew_gd G_l_of_names hr (aw_cons (ev 0) aw_nil)) (aw_cons (ew_gd G_l_of_answers hr (aw_cons (ev 0) aw_nil)) aw_nil)))))
      (sw_cons (sw_set (i := 2) sc_l_word.nd rfl (Or.inl rfl) (ew_lst (aw_cons (ew_callB call_isX (vr_isiE (exc_ok T) (exc_kit T)) rfl T.f_isinstance (by decide +kernel) (aw_cons (ev 0) (aw_cons (ew_glob (v := .ref (ga K "GivenError")) rfl T.g_GivenError rfl (fun _ => rfl)) aw_nil))) (aw_cons (ew_callB call_isX (vr_isiE (exc_ok T) (exc_kit T)) rfl T.f_isinstance (by decide +kernel) (aw_cons (ev 0) (aw_cons (ew_glob (v := .ref (ga K "NameProblem")) rfl T.g_NameProblem rfl (fun _ => rfl)) aw_nil))) (aw_cons (ew_callB call_isX (vr_isiE (exc_ok T) (exc_kit T)) rfl T.f_isinstance (by decide +kernel) (aw_cons (ev 0) (aw_cons (ew_glob (v := .ref (ga K "AnswerError")) rfl T.g_AnswerError rfl (fun _ => rfl)) aw_nil))) aw_nil)))))
      (sw_cons (sw_set (i := 3) sc_l_word.nd rfl (Or.inl rfl) (ew_lst (aw_cons (ew_callB call_isX (vr_isiE (exc_ok T) (exc_kit T)) rfl T.f_isinstance (by decide +kernel) (aw_cons (ev 0) (aw_cons (ew_bltn (v := .ty "ValueError") rfl T.f_ValueError (by decide +kernel) rfl (fun _ => rfl)) aw_nil))) (aw_cons (ew_callB call_isX (vr_isiE (exc_ok T) (exc_kit T)) rfl T.f_isinstance (by decide +kernel) (aw_cons (ev 0) (aw_cons (ew_bltn (v := .ty "LookupError") rfl T.f_LookupError (by decide +kernel) rfl (fun _ => rfl)) aw_nil))) (aw_cons (ew_callB call_isX (vr_isiE (exc_ok T) (exc_kit T)) rfl T.f_isinstance (by decide +kernel) (aw_cons (ev 0) (aw_cons (ew_bltn (v := .ty "ArithmeticError") rfl T.f_ArithmeticError (by decide +kernel) rfl (fun _ => rfl)) aw_nil))) aw_nil)))))
      (sw_cons (sw_if (tw_ww (ww_or (tw_cmp (op_neU (hu64 hr)) vr_ne (ev 2) (ev 3) (nomark _)) (ww_or1 (tw_cmp (op_neU (hu64 hr)) vr_ne (ew_bm PySem.F.plainAttrs_list PySem.F.slot_list_count PySem.F.type_list_count mt_count tym_lst vr_cntM (ev 2) (aw_cons ew_bl aw_nil)) ew_int (nomark _))))) (sw_one (sw_ret ew_str)) sw_nil)
      (sw_one (sw_ret (ew_ifE (tw_cmp (op_eqU (hu64 hr)) vr_eq (ew_bm PySem.F.plainAttrs_list PySem.F.slot_list_count PySem.F.type_list_count mt_count tym_lst vr_cntM (ev 1) (aw_cons ew_str aw_nil)) ew_int (nomark _)) (ew_ix (ev 1) (ew_bm PySem.F.plainAttrs_list PySem.F.slot_list_index PySem.F.type_list_index mt_index tym_lst vr_ixM (ev 2) (aw_cons ew_bl aw_nil))) ew_str))))))))
theorem w_l_word (T : Txt K mg) : Gd P w K mg base 2 "_law_word" (spW K m_l_word) := by
  obtain ⟨fd, F⟩ := T.F_l_word
  exact ⟨_, fd, ["_law_e"], ok_l_word T F, T.g_l_word, F.kp, F.bindsN fun _ _ _ _ _ _ us hl => match us, hl with | [_], _ => rfl⟩
theorem sc_l_fields : FnScope ["_law_e", "_law_word_here"] ["_law_e", "_law_word_here"] (defScope s_l_fields) := ⟨rfl, rfl, rfl, by decide +kernel, rfl, by decide +kernel, by decide +kernel⟩
def m_l_fields : FA := mDef 2 0 finN (mSeq (mIf (mB (mBin inU (mVar 1) (mDisp dLst (mCons (mC (.str "TextError")) (mCons (mC (.str "NoWay")) mNil))))) (mRet (mDisp dTup (mCons (mUn (xfU excOk "place") (mVar 0)) mNil))) mNext)
      (mSeq (mIf (mB (mBin eqU (mVar 1) (mC (.str "InUse")))) (mRet (mDisp dTup (mCons (mUn (xfU excOk "user") (mVar 0)) mNil))) mNext)
      (mSeq (mIf (mB (mBin inU (mVar 1) (mDisp dLst (mCons (mC (.str "TooLarge")) (mCons (mC (.str "TooHeavy")) mNil))))) (mRet (mDisp dTup (mCons (mUn (xfU excOk "limit") (mVar 0)) mNil))) mNext)
      (mSeq (mIf (mB (mBin eqU (mVar 1) (mC (.str "NotUndoable")))) (mRet (mDisp dTup (mCons (mUn (xfU excOk "reason") (mVar 0)) (mCons (mUn (xfU excOk "place") (mVar 0)) mNil)))) mNext)
      (mSeq (mIf (mB (mBin eqU (mVar 1) (mC (.str "Broken")))) (mRet (mDisp dTup (mCons (mUn (xfU excOk "index") (mVar 0)) (mCons (mUn (xfU excOk "shown") (mVar 0)) mNil)))) mNext)
      (mRet (mIfE (mB (mBin inU (mVar 1) (mDisp dLst (mCons (mC (.str "")) (mCons (mC (.str "DividedByZero")) (mCons (mC (.str "Ended")) (mCons (mC (.str "NothingToUndo")) mNil))))))) (mDisp dTup mNil) (mDisp dTup (mCons (mUn (xfU excOk "given") (mVar 0)) mNil)))))))))
theorem ok_l_fields (T : Txt K mg) {a : Addr} {fd : FuncData} (F : FnD K "_law_fields" "_law_fields" s_l_fields [] a fd) : FnOk P w K mg base (L2.CX P w) 1 a fd ["_law_e", "_law_word_here"] (spW K m_l_fields) := by
  exact okW F sc_l_fields finN_ok rfl (fun cdv A outer s H E hr => (sw_cons (sw_if (tw_cmp (op_inU) vr_in (ev 1) (ew_lst (aw_cons ew_str (aw_cons ew_str aw_nil))) (by rfl)) (sw_one (sw_ret (ew_tup (aw_cons (ew_xv (excF_place T) (ev 0)) aw_nil)))) sw_nil)
      (sw_cons (sw_if (tw_cmp (op_eqU (hu64 hr)) vr_eq (ev 1) ew_str (nomark _)) (sw_one (sw_ret (ew_tup (aw_cons (ew_xv (excF_user T) (ev 0)) aw_nil)))) sw_nil)
      (sw_cons (sw_if (tw_cmp (op_inU) vr_in (ev 1) (ew_lst (aw_cons ew_str (aw_cons ew_str aw_nil))) (by rfl)) (sw_one (sw_ret (ew_tup (aw_cons (ew_xv (excF_limit T) (ev 0)) aw_nil)))) sw_nil)
      (sw_cons (sw_if (tw_cmp (op_eqU (hu64 hr)) vr_eq (ev 1) ew_str (nomark _)) (sw_one (sw_ret (ew_tup (aw_cons (ew_xv (excF_reason T) (ev 0)) (aw_cons (ew_xv (excF_place T) (ev 0)) aw_nil))))) sw_nil)
      (sw_cons (sw_if (tw_cmp (op_eqU (hu64 hr)) vr_eq (ev 1) ew_str (nomark _)) (sw_one (sw_ret (ew_tup (aw_cons (ew_xv (excF_index T) (ev 0)) (aw_cons (ew_xv (excF_shown T) (ev 0)) aw_nil))))) sw_nil)
      (sw_one (sw_ret (ew_ifE (tw_cmp (op_inU) vr_in (ev 1) (ew_lst (aw_cons ew_str (aw_cons ew_str (aw_cons ew_str (aw_cons ew_str aw_nil))))) (by rfl)) (ew_tup aw_nil) (ew_tup (aw_cons (ew_xv (excF_given T) (ev 0)) aw_nil)))))))))))
theorem w_l_fields (T : Txt K mg) : Gd P w K mg base 1 "_law_fields" (spW K m_l_fields) := by
  obtain ⟨fd, F⟩ := T.F_l_fields
  exact ⟨_, fd, ["_law_e", "_law_word_here"], ok_l_fields T F, T.g_l_fields, F.kp, F.bindsN fun _ _ _ _ _ _ us hl => match us, hl with | [_, _], _ => rfl⟩
theorem sc_l_right : FnScope ["_law_source_here", "_law_odd_here", "_law_far", "_law_words", "_law_some", "_law_k", "_law_due", "_law_e"] ["_law_source_here"] (defScope s_l_right) := ⟨rfl, rfl, rfl, by decide +kernel, rfl, by decide +kernel, by decide +kernel⟩
def m_l_right : FA := mDef 1 7 finN (mSeq (mPar 1 2 (mCons (mCall m_l_odd (mCons (mVar 0) mNil)) (mCons (mCall m_l_odd (mCons (mVar 0) mNil)) mNil)))
      (mSeq (mAsg (mCall m_l_names_of_classes mNil) (gNm 3))
      (mSeq (mFor (iSeq (mDisp dLst (mCons (mCall m_l_made (mCons (mVar 1) (mCons (mVar 2) mNil))) (mCons (mCall m_l_named (mCons (mVar 1) (mCons (mVar 2) mNil))) mNil)))) (gNm 4) (mSeq (mIf (mB (mBin neU (mComp (iSeq (mVar 4)) (gNm 7) mYes (mCall m_l_word (mCons (mVar 7) mNil)) [7]) (mVar 3))) (mRet (mC (.bl false))) mNext)
        (mSeq (mFor (iRg1 (mCons (mCall lenU (mCons (mVar 3) mNil)) mNil)) (gNm 5) (mSeq (mAsg (mDisp dTup (mCons (mVar 1) mNil)) (gNm 6))
          (mSeq (mIf (mB (mBin inU (mBin ixU (mVar 3) (mVar 5)) (mDisp dLst (mCons (mC (.str "NotUndoable")) (mCons (mC (.str "Broken")) mNil))))) (mAsg (mDisp dTup (mCons (mVar 1) (mCons (mVar 2) mNil))) (gNm 6)) mNext)
          (mSeq (mIf (mB (mBin inU (mBin ixU (mVar 3) (mVar 5)) (mDisp dLst (mCons (mC (.str "DividedByZero")) (mCons (mC (.str "Ended")) (mCons (mC (.str "NothingToUndo")) mNil)))))) (mAsg (mDisp dTup mNil) (gNm 6)) mNext)
          (mIf (mB (mBin neU (mCall (orF repU (repAll "" noRep)) (mCons (mCall m_l_fields (mCons (mBin ixU (mVar 4) (mVar 5)) (mCons (mBin ixU (mVar 3) (mVar 5)) mNil))) mNil)) (mCall (orF repU (repAll "" noRep)) (mCons (mVar 6) mNil)))) (mRet (mC (.bl false))) mNext)))))
        (mSeq (mIf (mB (mBin neU (mComp (iSeq (mVar 4)) (gNm 7) (mOr (mB (mCall (isiE excOk excKit) (mCons (mVar 7) (mCons (mC (.ty "KeyError")) mNil)))) (mB (mCall (isiE excOk excKit) (mCons (mVar 7) (mCons (mC (.ty "IndexError")) mNil))))) (mVar 7) [7]) (mDisp dLst mNil))) (mRet (mC (.bl false))) mNext)
        (mIf (mB (mBin neU (mComp (iSeq (mVar 4)) (gNm 7) (mOr (mB (mCall (isiE excOk excKit) (mCons (mVar 7) (mCons (mC (.ty "ZeroDivisionError")) mNil)))) (mB (mCall (isiE excOk excKit) (mCons (mVar 7) (mCons (mC (.ty "OverflowError")) mNil))))) (mVar 7) [7]) (mDisp dLst mNil))) (mRet (mC (.bl false))) mNext)))))
      (mRet (mC (.bl true))))))
theorem ok_l_right (T : Txt K mg) {a : Addr} {fd : FuncData} (F : FnD K "_law_right" "_law_right" s_l_right [] a fd) : FnG P w K mg base 31 a fd ["_law_source_here"] (spW K m_l_right) := by
  have G_l_odd := w_l_odd (P := P) (w := w) (base := base) T
  have G_l_names_of_classes := w_l_names_of_classes (P := P) (w := w) (base := base) T
  have G_l_named := w_l_named (P := P) (w := w) (base := base) T
  have G_l_made := w_l_made (P := P) (w := w) (base := base) T
  have G_l_word := w_l_word (P := P) (w := w) (base := base) T
  have G_l_fields := w_l_fields (P := P) (w := w) (base := base) T
  exact okWG F sc_l_right finN_ok rfl (fun cdv A outer s H E hG hr => (sw_cons (sw_par (i := 1) (j := 2) (by rfl) sc_l_right.nd rfl rfl (by decide) rfl rfl (aw_cons (ew_gd G_l_odd hr (aw_cons (ev 0) aw_nil)) (aw_cons (ew_gd G_l_odd hr (aw_cons (ev 0) aw_nil)) aw_nil)) (by rfl))
      (sw_cons (sw_set (i := 3) sc_l_right.nd rfl (Or.inl rfl) (ew_gd0 G_l_names_of_classes hr))
      (sw_cons (sw_for PassesOwn.never rfl (iw_list (ew_lst (aw_cons (ew_gd G_l_made hr (aw_cons (ev 1) (aw_cons (ev 2) aw_nil))) (aw_cons (ew_gd G_l_named hr (aw_cons (ev 1) (aw_cons (ev 2) aw_nil))) aw_nil)))) (gw_name (i := 4) sc_l_right.nd rfl (Or.inl rfl)) (sw_cons (sw_if (tw_cmp (op_neU (hu64 hr)) vr_ne (ew_lc (own := [("_law_e", 7)]) rfl sc_l_right.nd (iw_list (ev 4)) (blkOk_by (own := [("_law_e", 7)]) (N := ["_law_source_here", "_law_odd_here", "_law_far", "_law_words", "_law_some", "_law_k", "_law_due", "_law_e"]) (sc := defScope s_l_right) (by decide +kernel)) (pat_nm (by decide)) (fun _ _ _ _ _ => (pg_name (i := 7) sc_l_right.nd rfl (Or.inl rfl))) (fun _ _ _ _ _ => tsw_nil) (fun _ _ _ _ _ => (ew_gd G_l_word hr (aw_cons (ev 7) aw_nil)))) (ev 3) (nomark _)) (sw_one (sw_ret ew_bl)) sw_nil)
        (sw_cons (sw_for PassesOwn.never rfl (iw_rng1 rfl T.f_range (aw_cons (ew_callB call_len vr_len rfl T.f_len (by decide +kernel) (aw_cons (ev 3) aw_nil)) aw_nil)) (gw_name (i := 5) sc_l_right.nd rfl (Or.inl rfl)) (sw_cons (sw_set (i := 6) sc_l_right.nd rfl (Or.inl rfl) (ew_tup (aw_cons (ev 1) aw_nil)))
          (sw_cons (sw_if (tw_cmp (op_inU) vr_in (ew_ix (ev 3) (ev 5)) (ew_lst (aw_cons ew_str (aw_cons ew_str aw_nil))) (by rfl)) (sw_one (sw_set (i := 6) sc_l_right.nd rfl (Or.inl rfl) (ew_tup (aw_cons (ev 1) (aw_cons (ev 2) aw_nil))))) sw_nil)
          (sw_cons (sw_if (tw_cmp (op_inU) vr_in (ew_ix (ev 3) (ev 5)) (ew_lst (aw_cons ew_str (aw_cons ew_str (aw_cons ew_str aw_nil)))) (by rfl)) (sw_one (sw_set (i := 6) sc_l_right.nd rfl (Or.inl rfl) (ew_tup aw_nil))) sw_nil)
          (sw_one (sw_if (tw_cmp (op_neU (hu64 hr)) vr_ne (ew_callB (callR_or (call_reprD hG hr) (call_reprV (ownR_none (k := 0)) hG (RoomB.of (hr.mono (by decide))))) (vra_or vr_rep (vr_repAll (P := P) (w0 := w))) rfl T.f_repr (by decide +kernel) (aw_cons (ew_gd G_l_fields hr (aw_cons (ew_ix (ev 4) (ev 5)) (aw_cons (ew_ix (ev 3) (ev 5)) aw_nil))) aw_nil)) (ew_callB (callR_or (call_reprD hG hr) (call_reprV (ownR_none (k := 0)) hG (RoomB.of (hr.mono (by decide))))) (vra_or vr_rep (vr_repAll (P := P) (w0 := w))) rfl T.f_repr (by decide +kernel) (aw_cons (ev 6) aw_nil)) (nomark _)) (sw_one (sw_ret ew_bl)) sw_nil))))))
        (sw_cons (sw_if (tw_cmp (op_neU (hu64 hr)) vr_ne (ew_lc (own := [("_law_e", 7)]) rfl sc_l_right.nd (iw_list (ev 4)) (blkOk_by (own := [("_law_e", 7)]) (N := ["_law_source_here", "_law_odd_here", "_law_far", "_law_words", "_law_some", "_law_k", "_law_due", "_law_e"]) (sc := defScope s_l_right) (by decide +kernel)) (pat_nm (by decide)) (fun _ _ _ _ _ => (pg_name (i := 7) sc_l_right.nd rfl (Or.inl rfl))) (fun _ _ _ _ _ => (tsw_one (tw_ww (ww_or (tw_val (ew_callB call_isX (vr_isiE (exc_ok T) (exc_kit T)) rfl T.f_isinstance (by decide +kernel) (aw_cons (ev 7) (aw_cons (ew_bltn (v := .ty "KeyError") rfl T.f_KeyError (by decide +kernel) rfl (fun _ => rfl)) aw_nil)))) (ww_or1 (tw_val (ew_callB call_isX (vr_isiE (exc_ok T) (exc_kit T)) rfl T.f_isinstance (by decide +kernel) (aw_cons (ev 7) (aw_cons (ew_bltn (v := .ty "IndexError") rfl T.f_IndexError (by decide +kernel) rfl (fun _ => rfl)) aw_nil))))))))) (fun _ _ _ _ _ => (ev 7))) (ew_lst aw_nil) (nomark _)) (sw_one (sw_ret ew_bl)) sw_nil)
        (sw_one (sw_if (tw_cmp (op_neU (hu64 hr)) vr_ne (ew_lc (own := [("_law_e", 7)]) rfl sc_l_right.nd (iw_list (ev 4)) (blkOk_by (own := [("_law_e", 7)]) (N := ["_law_source_here", "_law_odd_here", "_law_far", "_law_words", "_law_some", "_law_k", "_law_due", "_law_e"]) (sc := defScope s_l_right) (by decide +kernel)) (pat_nm (by decide)) (fun _ _ _ _ _ => (pg_name (i := 7) sc_l_right.nd rfl (Or.inl rfl))) (fun _ _ _ _ _ => (tsw_one (tw_ww (ww_or (tw_val (ew_callB call_isX (vr_isiE (exc_ok T) (exc_kit T)) rfl T.f_isinstance (by decide +kernel) (aw_cons (ev 7) (aw_cons (ew_bltn (v := .ty "ZeroDivisionError") rfl T.f_ZeroDivisionError (by decide +kernel) rfl (fun _ => rfl)) aw_nil)))) (ww_or1 (tw_val (ew_callB call_isX (vr_isiE (exc_ok T) (exc_kit T)) rfl T.f_isinstance (by decide +kernel) (aw_cons (ev 7) (aw_cons (ew_bltn (v := .ty "OverflowError") rfl T.f_OverflowError (by decide +kernel) rfl (fun _ => rfl)) aw_nil))))))))) (fun _ _ _ _ _ => (ev 7))) (ew_lst aw_nil) (nomark _)) (sw_one (sw_ret ew_bl)) sw_nil))))))
      (sw_one (sw_ret ew_bl))))))
theorem w_l_right (T : Txt K mg) : Gg P w K mg base 31 "_law_right" (spW K m_l_right) := by
  obtain ⟨fd, F⟩ := T.F_l_right
  exact ⟨_, fd, ["_law_source_here"], ok_l_right T F, T.g_l_right, F.kp, F.bindsN fun _ _ _ _ _ _ us hl => match us, hl with | [_], _ => rfl⟩
end
end Q01
namespace Q01
open PySem PySem.Spec PyProof.Rows L2 He Rt Pz LamX
section
variable {P : Program} {w : World} {K : PySem.W.Frag} {mg : Str → Option Value} {base : Heap}
theorem sc_law : FnScope ["_law_cells", "_law_limits", "_law_k", "_law_source_here"] ["_law_cells"] (defScope s_law) := ⟨rfl, rfl, rfl, by decide +kernel, rfl, by decide +kernel, by decide +kernel⟩
def m_law : FA := mDef 1 3 finN (mSeq (mAsg (mDisp dLst (mCons (mC (.int 60)) (mCons (mC (.int 20)) (mCons (mC (.int 8)) (mCons (mC (.int 65536)) (mCons (mC (.int 64)) (mCons (mC (.int 8)) (mCons (mC (.int 7)) (mCons (mC (.int 12)) mNil))))))))) (gNm 1))
      (mSeq (mIf (mB (mBin neU (mCall (orF repU (repAll "" noRep)) (mCons (mVar 1) mNil)) (mC (.str "[60, 20, 8, 65536, 64, 8, 7, 12]")))) (mRet (mC (.bl false))) mNext)
      (mSeq (mFor (iRg1 (mCons (mCall mx2 (mCons (mC (.int 2)) (mCons (mCall mn2 (mCons (mCall lenU (mCons (mVar 0) mNil)) (mCons (mC (.int 6)) mNil))) mNil))) mNil)) (gNm 2) (mSeq (mAsg (mCall m_l_source (mCons (mCall m_l_cell (mCons (mVar 0) (mCons (mVar 2) mNil))) mNil)) (gNm 3))
        (mIf (mOr (mNot (mB (mCall m_l_right (mCons (mVar 3) mNil)))) (mNot (mB (mCall m_l_right (mCons (mVar 3) mNil))))) (mRet (mC (.bl false))) mNext)))
      (mRet (mC (.bl true))))))
theorem ok_law (T : Txt K mg) {a : Addr} {fd : FuncData} (F : FnD K "law" "law" s_law [] a fd) : FnG P w K mg base 32 a fd ["_law_cells"] (spW K m_law) := by
  have G_l_cell := w_l_cell (P := P) (w := w) (base := base) T
  have G_l_source := w_l_source (P := P) (w := w) (base := base) T
  have G_l_right := w_l_right (P := P) (w := w) (base := base) T
  exact okWG F sc_law finN_ok rfl (fun cdv A outer s H E hG hr => (sw_cons (sw_set (i := 1) sc_law.nd rfl (Or.inl rfl) (ew_lst (aw_cons (ew_glob (v := .int 60) rfl (T.v_MOST_SIZE).choose_spec ⟨_, rfl⟩ (fun _ => rfl)) (aw_cons (ew_glob (v := .int 20) rfl (T.v_MOST_LEVELS).choose_spec ⟨_, rfl⟩ (fun _ => rfl)) (aw_cons (ew_glob (v := .int 8) rfl (T.v_MOST_LEAD).choose_spec ⟨_, rfl⟩ (fun _ => rfl)) (aw_cons (ew_glob (v := .int 65536) rfl (T.v_MOST_LOAD).choose_spec ⟨_, rfl⟩ (fun _ => rfl)) (aw_cons (ew_glob (v := .int 64) rfl (T.v_MOST_WIDTH).choose_spec ⟨_, rfl⟩ (fun _ => rfl)) (aw_cons (ew_glob (v := .int 8) rfl (T.v_MOST_SHIFT).choose_spec ⟨_, rfl⟩ (fun _ => rfl)) (aw_cons (ew_glob (v := .int 7) rfl (T.v_MOST_WINDOW).choose_spec ⟨_, rfl⟩ (fun _ => rfl)) (aw_cons (ew_glob (v := .int 12) rfl (T.v_MOST_SEASON).choose_spec ⟨_, rfl⟩ (fun _ => rfl)) aw_nil))))))))))
      (sw_cons (sw_if (tw_cmp (op_neU (hu64 hr)) vr_ne (ew_callB (callR_or (call_reprD hG hr) (call_reprV (ownR_none (k := 0)) hG (RoomB.of (hr.mono (by decide))))) (vra_or vr_rep (vr_repAll (P := P) (w0 := w))) rfl T.f_repr (by decide +kernel) (aw_cons (ev 1) aw_nil)) ew_str (nomark _)) (sw_one (sw_ret ew_bl)) sw_nil)
      (sw_cons (sw_for PassesOwn.never rfl (iw_rng1 rfl T.f_range (aw_cons (ew_callB (call_max2 rfl) vr_mx2 rfl T.f_max (by decide +kernel) (aw_cons ew_int (aw_cons (ew_callB (call_min2 rfl) vr_mn2 rfl T.f_min (by decide +kernel) (aw_cons (ew_callB call_len vr_len rfl T.f_len (by decide +kernel) (aw_cons (ev 0) aw_nil)) (aw_cons ew_int aw_nil))) aw_nil))) aw_nil)) (gw_name (i := 2) sc_law.nd rfl (Or.inl rfl)) (sw_cons (sw_set (i := 3) sc_law.nd rfl (Or.inl rfl) (ew_gd G_l_source hr (aw_cons (ew_gd G_l_cell hr (aw_cons (ev 0) (aw_cons (ev 2) aw_nil))) aw_nil)))
        (sw_one (sw_if (tw_ww (ww_or (tw_not (tw_val (ew_gg G_l_right hG hr (aw_cons (ev 3) aw_nil)))) (ww_or1 (tw_not (tw_val (ew_gg G_l_right hG hr (aw_cons (ev 3) aw_nil))))))) (sw_one (sw_ret ew_bl)) sw_nil))))
      (sw_one (sw_ret ew_bl))))))
theorem w_law (T : Txt K mg) {fd : FuncData} (F : FnD K "law" "law" s_law [] (ga K "law") fd) : FnG P w K mg base 32 (ga K "law") fd ["_law_cells"] (spW K m_law) := ok_law T F
end
end Q01
/-! ### the law's own draws -/
namespace Q01
open PySem PySem.Spec PyProof.Rows L2 He Rt Pz
theorem len_f {ws : List W} {M : Mm} (h : ws.length ≤ 1000000) : lenU [.p (.frz ws)] M = some (.p (.int ws.length), M) := by
  unfold lenU
  first
    | rfl
    | simp [seqL]
theorem cut_map (ns : List Int) (lo hi : Option Int) : ∃ js : List Int, cutW (ns.map .int) lo hi = js.map .int := by
  unfold cutW
  rw [← List.map_drop, ← List.map_take]
  exact ⟨_, rfl⟩
theorem slf {ws : List W} {M : Mm} {lo hi : Option Int} : slU M (.p (.frz ws)) lo hi = some (.p (.lst (cutW ws lo hi))) := rfl
theorem md_p {a b : Int} {M : Mm} (h : 0 < b) : mdU (.p (.int a)) (.p (.int b)) M = some (.p (.int (a % b)), M) := by
  rw [md_i (by omega), Int.fmod_eq_emod_of_nonneg _ (by omega)]
theorem fd_p {a b : Int} {M : Mm} (h : 0 < b) (h2 : b.natAbs.log2 < 9000) : fdU (.p (.int a)) (.p (.int b)) M = some (.p (.int (a / b)), M) := by
  rw [fd_i (by omega) h2, Int.fdiv_eq_ediv_of_nonneg _ (by omega)]
theorem dm_p {a b : Int} {M : Mm} (h : 0 < b) (h2 : b.natAbs.log2 < 9000) : dmU [.p (.int a), .p (.int b)] M = some (.p (.tup [.int (a / b), .int (a % b)]), M) := by
  unfold dmU int2
  dsimp only
  rw [if_pos ⟨h, h2⟩]
  rfl
theorem pw_i {a b : Int} {M : Mm} (h : pwC a b = true) : pwU (.p (.int a)) (.p (.int b)) M = some (.p (.int (a ^ b.toNat)), M) := by
  unfold pwU I2
  dsimp only
  rw [if_pos h]
theorem cell_loop (x : Option U) (k : Int) (hk : (k + 3).natAbs < 2 ^ 64) (M : Mm) : ∀ (js : List Int) (m : Int) (t : Option U), ∃ m' t', mLoop (gNm 3) (mAsg (mBin mdU (mCall intI (mCons (mBin addU (mBin mulU (mVar 2) (mC (.int 69621))) (mBin mulU (mCall intI (mCons (mVar 3) mNil)) (mBin addU (mVar 1) (mC (.int 3))))) mNil)) (mC (.int 2147483629))) (gNm 2))
      ((js.map W.int).map .p) [x, some (.p (.int k)), some (.p (.int m)), t] M = some (.nx, [x, some (.p (.int k)), some (.p (.int m')), t'], M)
  | [], m, t => ⟨m, t, rfl⟩
  | j :: js, m, t => by
    obtain ⟨m', t', e⟩ := cell_loop x k hk M js ((m * 69621 + j * (k + 3)) % 2147483629) (some (.p (.int j)))
    refine ⟨m', t', ?_⟩
    rw [List.map_cons, List.map_cons]
    unfold mLoop
    simp only [mDef, mSeq, mAsg, mIf, mBin, mUn, mVar, mC, mCall, mCons, mNil, mDisp, gSb, mB, gNm, gTp, gTu, seqA_tup, seqA_kt, seqA_lst, seqA_frz, gMore, gNone, mRet, mRetN, mExpr, mNot, mAnd, mOr, mIfE, mAndV, mOrV, mNotV, mPar, mFor, mMe, mCm, mTru, isB, mNext, finN, Bool.not_true, Bool.not_false, Bool.false_eq_true, Bool.true_eq_false, if_true, if_false, ite_true, ite_false, Option.bind_some, Option.bind_none, Option.map_some, Option.map_none, List.map_cons, List.map_nil, List.replicate_succ, List.replicate_zero, List.cons_append, List.nil_append, List.length_cons, List.length_nil, List.getElem?_cons_zero, List.getElem?_cons_succ, List.set_cons_zero, List.set_cons_succ, Option.join_some, Nat.reduceAdd, Nat.zero_add, Nat.reduceLeDiff, reduceCtorEq, mul_i (mulC_s (x := m) (y := 69621) (.inr (by decide))), mul_i (mulC_s (x := j) (.inr hk)), add_i, int_i, md_p (show (0 : Int) < 2147483629 by decide)]
    exact e
theorem e_cell (ns : List Int) (k : Nat) (hk : k < 1000) (hl : ns.length ≤ 1000000) (M : Mm) : ∃ i, m_l_cell [.p (.frz (ns.map .int)), .p (.int k)] M = some (.p (.int i), M) := by
  unfold m_l_cell
  have el := len_f (ws := ns.map W.int) (M := M) (by rw [List.length_map]; exact hl)
  rw [List.length_map] at el
  by_cases h : k < ns.length
  · refine ⟨ns[k], ?_⟩
    have ei : ixU (.p (.frz (ns.map .int))) (.p (.int k)) M = some (.p (.int ns[k]), M) := by
      show (atI (ns.map W.int) (k : Int)).map _ = _
      rw [atI_nat (v := W.int ns[k]) (by simp [h])]
      rfl
    simp only [mDef, mSeq, mAsg, mIf, mBin, mUn, mVar, mC, mCall, mCons, mNil, mDisp, gSb, mB, gNm, gTp, gTu, seqA_tup, seqA_kt, seqA_lst, seqA_frz, gMore, gNone, mRet, mRetN, mExpr, mNot, mAnd, mOr, mIfE, mAndV, mOrV, mNotV, mPar, mFor, mMe, mCm, mTru, isB, mNext, finN, Bool.not_true, Bool.not_false, Bool.false_eq_true, Bool.true_eq_false, if_true, if_false, ite_true, ite_false, Option.bind_some, Option.bind_none, Option.map_some, Option.map_none, List.map_cons, List.map_nil, List.replicate_succ, List.replicate_zero, List.cons_append, List.nil_append, List.length_cons, List.length_nil, List.getElem?_cons_zero, List.getElem?_cons_succ, List.set_cons_zero, List.set_cons_succ, Option.join_some, Nat.reduceAdd, Nat.zero_add, Nat.reduceLeDiff, reduceCtorEq, el, lt_i, decide_eq_true (show (k : Int) < ns.length by omega), ei, int_i]
  · obtain ⟨js, ej⟩ := cut_map ns none (some 4)
    obtain ⟨m', t', e⟩ := cell_loop (some (.p (.frz (ns.map .int)))) k (by omega) M js (90001 + 7 * k * k + 3 * k) none
    refine ⟨m', ?_⟩
    simp only [mDef, mSeq, mAsg, mIf, mBin, mUn, mVar, mC, mCall, mCons, mNil, mDisp, gSb, mB, gNm, gTp, gTu, seqA_tup, seqA_kt, seqA_lst, seqA_frz, gMore, gNone, mRet, mRetN, mExpr, mNot, mAnd, mOr, mIfE, mAndV, mOrV, mNotV, mPar, mFor, mMe, mCm, mTru, isB, mNext, finN, Bool.not_true, Bool.not_false, Bool.false_eq_true, Bool.true_eq_false, if_true, if_false, ite_true, ite_false, Option.bind_some, Option.bind_none, Option.map_some, Option.map_none, List.map_cons, List.map_nil, List.replicate_succ, List.replicate_zero, List.cons_append, List.nil_append, List.length_cons, List.length_nil, List.getElem?_cons_zero, List.getElem?_cons_succ, List.set_cons_zero, List.set_cons_succ, Option.join_some, Nat.reduceAdd, Nat.zero_add, Nat.reduceLeDiff, reduceCtorEq, el, lt_i, decide_eq_false (show ¬ (k : Int) < ns.length by omega), mul_i (mulC_s (x := 7) (y := (k : Int)) (.inl (by decide))), mul_i (mulC_s (x := 3) (y := (k : Int)) (.inl (by decide))), mul_i (mulC_s (x := 7 * (k : Int)) (y := (k : Int)) (.inr (by omega))), add_i, iSeq, mSlice, pSo, pNo, slf, ej, e]
theorem e_source (i : Int) (M : Mm) : ∃ s g : Int, m_l_source [.p (.int i)] M = some (.m M.length, M ++ [.lst [.int s, .int g, .int 0]]) ∧ 0 ≤ g := by
  refine ⟨(i * 48271 + 977) % 2147483629, if decide ((10 : Int) ^ (18 : Int).toNat ≤ (i.natAbs : Int)) = true then (i.natAbs : Int) else 0, ?_, by split <;> omega⟩
  unfold m_l_source
  simp only [mDef, mSeq, mAsg, mIf, mBin, mUn, mVar, mC, mCall, mCons, mNil, mDisp, gSb, mB, gNm, gTp, gTu, seqA_tup, seqA_kt, seqA_lst, seqA_frz, gMore, gNone, mRet, mRetN, mExpr, mNot, mAnd, mOr, mIfE, mAndV, mOrV, mNotV, mPar, mFor, mMe, mCm, mTru, isB, mNext, finN, Bool.not_true, Bool.not_false, Bool.false_eq_true, Bool.true_eq_false, if_true, if_false, ite_true, ite_false, Option.bind_some, Option.bind_none, Option.map_some, Option.map_none, List.map_cons, List.map_nil, List.replicate_succ, List.replicate_zero, List.cons_append, List.nil_append, List.length_cons, List.length_nil, List.getElem?_cons_zero, List.getElem?_cons_succ, List.set_cons_zero, List.set_cons_succ, Option.join_some, Nat.reduceAdd, Nat.zero_add, Nat.reduceLeDiff, reduceCtorEq, abs_i, pw_i (a := 10) (b := 18) (by decide), ge_i]
  generalize decide ((10 : Int) ^ (18 : Int).toNat ≤ (i.natAbs : Int)) = b
  cases b with
  | true =>
    simp only [mDef, mSeq, mAsg, mIf, mBin, mUn, mVar, mC, mCall, mCons, mNil, mDisp, gSb, mB, gNm, gTp, gTu, seqA_tup, seqA_kt, seqA_lst, seqA_frz, gMore, gNone, mRet, mRetN, mExpr, mNot, mAnd, mOr, mIfE, mAndV, mOrV, mNotV, mPar, mFor, mMe, mCm, mTru, isB, mNext, finN, Bool.not_true, Bool.not_false, Bool.false_eq_true, Bool.true_eq_false, if_true, if_false, ite_true, ite_false, Option.bind_some, Option.bind_none, Option.map_some, Option.map_none, List.map_cons, List.map_nil, List.replicate_succ, List.replicate_zero, List.cons_append, List.nil_append, List.length_cons, List.length_nil, List.getElem?_cons_zero, List.getElem?_cons_succ, List.set_cons_zero, List.set_cons_succ, Option.join_some, Nat.reduceAdd, Nat.zero_add, Nat.reduceLeDiff, reduceCtorEq, abs_i, mul_i (mulC_s (x := i) (y := 48271) (.inr (by decide))), add_i, int_i, md_p (show (0 : Int) < 2147483629 by decide), dCell, pures, finC]
    simp [finC]
  | false =>
    simp only [mDef, mSeq, mAsg, mIf, mBin, mUn, mVar, mC, mCall, mCons, mNil, mDisp, gSb, mB, gNm, gTp, gTu, seqA_tup, seqA_kt, seqA_lst, seqA_frz, gMore, gNone, mRet, mRetN, mExpr, mNot, mAnd, mOr, mIfE, mAndV, mOrV, mNotV, mPar, mFor, mMe, mCm, mTru, isB, mNext, finN, Bool.not_true, Bool.not_false, Bool.false_eq_true, Bool.true_eq_false, if_true, if_false, ite_true, ite_false, Option.bind_some, Option.bind_none, Option.map_some, Option.map_none, List.map_cons, List.map_nil, List.replicate_succ, List.replicate_zero, List.cons_append, List.nil_append, List.length_cons, List.length_nil, List.getElem?_cons_zero, List.getElem?_cons_succ, List.set_cons_zero, List.set_cons_succ, Option.join_some, Nat.reduceAdd, Nat.zero_add, Nat.reduceLeDiff, reduceCtorEq, abs_i, mul_i (mulC_s (x := i) (y := 48271) (.inr (by decide))), add_i, int_i, md_p (show (0 : Int) < 2147483629 by decide), dCell, pures, finC]
    simp [finC]
/-- the tables of the lambdas' code objects -/
def TQ : List (He.Defn × Str) := []
abbrev TabOk (M : Mm) : Prop := TabsOk TQ M
/-- the source of draws stands in cell j -/
def Src0 (M : Mm) (j : Nat) : Prop := ∃ s g c : Int, M[j]? = some (.lst [.int s, .int g, .int c]) ∧ 0 ≤ g
def Src (M : Mm) (j : Nat) : Prop := Src0 M j ∧ TabOk M
theorem src_new {M : Mm} (h : TabOk M) {s g : Int} (hg : 0 ≤ g) : Src (M ++ [.lst [.int s, .int g, .int 0]]) M.length := ⟨⟨s, g, 0, app_get, hg⟩, h.app⟩
theorem src_lt0 {M : Mm} {j : Nat} (h : Src0 M j) : j < M.length := by
  obtain ⟨s, g, c, h, _⟩ := h
  by_cases l : j < M.length
  · exact l
  · rw [List.getElem?_eq_none_iff.mpr (by omega)] at h
    cases h
theorem src_lt {M : Mm} {j : Nat} (h : Src M j) : j < M.length := src_lt0 h.1
theorem e_draw0 {M : Mm} {j : Nat} (h : Src0 M j) (n : Int) (hn : 0 < n ∧ n.natAbs.log2 < 9000) : ∃ d M', m_l_draw [.m j, .p (.int n)] M = some (.p (.int d), M') ∧ (0 ≤ d ∧ d < n) ∧ Src0 M' j ∧ ∃ x, M' = M.set j (.lst x) := by
  have lj := src_lt0 h
  obtain ⟨s, g, c, h, hg⟩ := h
  have ix : ∀ (M1 : Mm) (a b c : Int), M1[j]? = some (.lst [.int a, .int b, .int c]) → ixU (.m j) (.p (.int 0)) M1 = some (.p (.int a), M1) ∧ ixU (.m j) (.p (.int 1)) M1 = some (.p (.int b), M1) ∧ ixU (.m j) (.p (.int 2)) M1 = some (.p (.int c), M1) := by
    intro M1 a b c h1
    have e : seqL M1 (.m j) = some [.int a, .int b, .int c] := by
      unfold seqL
      simp only [h1]
    refine ⟨?_, ?_, ?_⟩ <;> (unfold ixU; simp only [e]; rfl)
  have st : ∀ (M1 : Mm) (a b c : Int) (v : Int), M1[j]? = some (.lst [.int a, .int b, .int c]) →
      setU (.m j) (.p (.int 0)) (.p (.int v)) M1 = some (M1.set j (.lst [.int v, .int b, .int c])) ∧ setU (.m j) (.p (.int 1)) (.p (.int v)) M1 = some (M1.set j (.lst [.int a, .int v, .int c])) ∧ setU (.m j) (.p (.int 2)) (.p (.int v)) M1 = some (M1.set j (.lst [.int a, .int b, .int v])) := by
    intro M1 a b c v h1
    refine ⟨?_, ?_, ?_⟩ <;> (unfold setU; simp only [h1]; rfl)
  have at_ : ∀ (M1 : Mm) (x : C), M1.length = M.length → (M1.set j x)[j]? = some x := fun M1 x e => List.getElem?_set_self (by omega)
  have g1 := at_ M (.lst [.int s, .int g, .int (c + 1)]) rfl
  obtain ⟨t, et⟩ : ∃ t : Int, (s * (s % 30011 + 20011) + 65539 * (c + 1) + 11) % 2147483629 = t := ⟨_, rfl⟩
  have g2 := at_ M (.lst [.int t, .int g, .int (c + 1)]) rfl
  obtain ⟨_, _, i0⟩ := ix M _ _ _ h
  obtain ⟨_, _, s0⟩ := st M _ _ _ (c + 1) h
  obtain ⟨i1, _, i2⟩ := ix _ _ _ _ g1
  obtain ⟨s1, _, _⟩ := st _ _ _ _ t g1
  rw [List.set_set] at s1
  obtain ⟨i3, i4, _⟩ := ix _ _ _ _ g2
  have sm : mulC s (s % 30011 + 20011) = true := mulC_s (.inr (by omega))
  unfold m_l_draw
  by_cases hg0 : 0 < g
  · obtain ⟨_, s2, _⟩ := st _ _ _ _ (g / n) g2
    rw [List.set_set] at s2
    refine ⟨g % n, _, ?_, ⟨Int.emod_nonneg _ (by omega), Int.emod_lt_of_pos _ hn.1⟩, ⟨t, g / n, c + 1, at_ M _ rfl, Int.ediv_nonneg hg (by omega)⟩, _, rfl⟩
    simp only [mDef, mSeq, mAsg, mIf, mBin, mUn, mVar, mC, mCall, mCons, mNil, mDisp, gSb, mB, gNm, gTp, gTu, seqA_tup, seqA_kt, seqA_lst, seqA_frz, gMore, gNone, mRet, mRetN, mExpr, mNot, mAnd, mOr, mIfE, mAndV, mOrV, mNotV, mPar, mFor, mMe, mCm, mTru, isB, mNext, finN, Bool.not_true, Bool.not_false, Bool.false_eq_true, Bool.true_eq_false, if_true, if_false, ite_true, ite_false, Option.bind_some, Option.bind_none, Option.map_some, Option.map_none, List.map_cons, List.map_nil, List.replicate_succ, List.replicate_zero, List.cons_append, List.nil_append, List.length_cons, List.length_nil, List.getElem?_cons_zero, List.getElem?_cons_succ, List.set_cons_zero, List.set_cons_succ, Option.join_some, Nat.reduceAdd, Nat.zero_add, Nat.reduceLeDiff, reduceCtorEq, i0, add_i, s0, i1, int_i, md_p (show (0 : Int) < 30011 by decide), mul_i sm, i2, mul_i (mulC_s (x := 65539) (y := c + 1) (.inl (by decide))), md_p (show (0 : Int) < 2147483629 by decide), et, s1, i4, gt_i, decide_eq_true hg0, dm_p hn.1 hn.2, seqT, s2]
  · refine ⟨t / 128 % n, _, ?_, ⟨Int.emod_nonneg _ (by omega), Int.emod_lt_of_pos _ hn.1⟩, ⟨t, g, c + 1, g2, hg⟩, _, rfl⟩
    simp only [mDef, mSeq, mAsg, mIf, mBin, mUn, mVar, mC, mCall, mCons, mNil, mDisp, gSb, mB, gNm, gTp, gTu, seqA_tup, seqA_kt, seqA_lst, seqA_frz, gMore, gNone, mRet, mRetN, mExpr, mNot, mAnd, mOr, mIfE, mAndV, mOrV, mNotV, mPar, mFor, mMe, mCm, mTru, isB, mNext, finN, Bool.not_true, Bool.not_false, Bool.false_eq_true, Bool.true_eq_false, if_true, if_false, ite_true, ite_false, Option.bind_some, Option.bind_none, Option.map_some, Option.map_none, List.map_cons, List.map_nil, List.replicate_succ, List.replicate_zero, List.cons_append, List.nil_append, List.length_cons, List.length_nil, List.getElem?_cons_zero, List.getElem?_cons_succ, List.set_cons_zero, List.set_cons_succ, Option.join_some, Nat.reduceAdd, Nat.zero_add, Nat.reduceLeDiff, reduceCtorEq, i0, add_i, s0, i1, int_i, md_p (show (0 : Int) < 30011 by decide), mul_i sm, i2, mul_i (mulC_s (x := 65539) (y := c + 1) (.inl (by decide))), md_p (show (0 : Int) < 2147483629 by decide), et, s1, i4, gt_i, decide_eq_false hg0, i3, fd_p (show (0 : Int) < 128 by decide) (show ((128 : Int).natAbs.log2 < 9000) by decide), md_p hn.1]
theorem e_draw {M : Mm} {j : Nat} (h : Src M j) (n : Int) (hn : 0 < n ∧ n.natAbs.log2 < 9000) : ∃ d M', m_l_draw [.m j, .p (.int n)] M = some (.p (.int d), M') ∧ (0 ≤ d ∧ d < n) ∧ Src M' j ∧ M'.length = M.length := by
  obtain ⟨d, M', e, hd, hs, x, rfl⟩ := e_draw0 h.1 n hn
  obtain ⟨s, g, c, hj, _⟩ := h.1
  exact ⟨d, _, e, hd, ⟨hs, h.2.set hj fun _ _ z => by cases z⟩, List.length_set ..⟩
end Q01
/-! ### k01: the rows -/
namespace Q01
open PySem PySem.Spec PyProof.Rows L2 He Rt Pz
abbrev rp1 : FA := orF repU (repAll "" noRep)
def body2 : S := (mSeq (mAsg (mDisp dTup (mCons (mVar 1) mNil)) (gNm 6))
          (mSeq (mIf (mB (mBin inU (mBin ixU (mVar 3) (mVar 5)) (mDisp dLst (mCons (mC (.str "NotUndoable")) (mCons (mC (.str "Broken")) mNil))))) (mAsg (mDisp dTup (mCons (mVar 1) (mCons (mVar 2) mNil))) (gNm 6)) mNext)
          (mSeq (mIf (mB (mBin inU (mBin ixU (mVar 3) (mVar 5)) (mDisp dLst (mCons (mC (.str "DividedByZero")) (mCons (mC (.str "Ended")) (mCons (mC (.str "NothingToUndo")) mNil)))))) (mAsg (mDisp dTup mNil) (gNm 6)) mNext)
          (mIf (mB (mBin neU (mCall (orF repU (repAll "" noRep)) (mCons (mCall m_l_fields (mCons (mBin ixU (mVar 4) (mVar 5)) (mCons (mBin ixU (mVar 3) (mVar 5)) mNil))) mNil)) (mCall (orF repU (repAll "" noRep)) (mCons (mVar 6) mNil)))) (mRet (mC (.bl false))) mNext))))
def body1 : S := (mSeq (mIf (mB (mBin neU (mComp (iSeq (mVar 4)) (gNm 7) mYes (mCall m_l_word (mCons (mVar 7) mNil)) [7]) (mVar 3))) (mRet (mC (.bl false))) mNext)
        (mSeq (mFor (iRg1 (mCons (mCall lenU (mCons (mVar 3) mNil)) mNil)) (gNm 5) body2)
        (mSeq (mIf (mB (mBin neU (mComp (iSeq (mVar 4)) (gNm 7) (mOr (mB (mCall (isiE excOk excKit) (mCons (mVar 7) (mCons (mC (.ty "KeyError")) mNil)))) (mB (mCall (isiE excOk excKit) (mCons (mVar 7) (mCons (mC (.ty "IndexError")) mNil))))) (mVar 7) [7]) (mDisp dLst mNil))) (mRet (mC (.bl false))) mNext)
        (mIf (mB (mBin neU (mComp (iSeq (mVar 4)) (gNm 7) (mOr (mB (mCall (isiE excOk excKit) (mCons (mVar 7) (mCons (mC (.ty "ZeroDivisionError")) mNil)))) (mB (mCall (isiE excOk excKit) (mCons (mVar 7) (mCons (mC (.ty "OverflowError")) mNil))))) (mVar 7) [7]) (mDisp dLst mNil))) (mRet (mC (.bl false))) mNext))))
def rightL : FA := mDef 1 7 finN (mSeq (mPar 1 2 (mCons (mCall m_l_odd (mCons (mVar 0) mNil)) (mCons (mCall m_l_odd (mCons (mVar 0) mNil)) mNil)))
      (mSeq (mAsg (mCall m_l_names_of_classes mNil) (gNm 3))
      (mSeq (mFor (iSeq (mDisp dLst (mCons (mCall m_l_made (mCons (mVar 1) (mCons (mVar 2) mNil))) (mCons (mCall m_l_named (mCons (mVar 1) (mCons (mVar 2) mNil))) mNil)))) (gNm 4) body1)
      (mRet (mC (.bl true))))))
theorem right_eq : m_l_right = rightL := rfl
def namesL : List Str := ["InvalidNumber", "InvalidText", "InvalidCount", "InvalidName", "InvalidTruth", "InvalidEntries", "InvalidData", "InvalidLength", "InvalidPath", "InvalidClaim", "InvalidIndex", "NotAFormula", "NotASeries", "NotARunner", "TextError", "UnknownName", "Taken", "InUse", "Circular", "Clash", "NoSeries", "NoEntry", "NotMade", "DividedByZero", "TooLarge", "TooHeavy", "NotUndoable", "NoWay", "Ended", "NothingToUndo", "Broken"]
def excL (o f : W) : List W := [.exc "InvalidNumber" [("given", o)],
  .exc "InvalidText" [("given", o)],
  .exc "InvalidCount" [("given", o)],
  .exc "InvalidName" [("given", o)],
  .exc "InvalidTruth" [("given", o)],
  .exc "InvalidEntries" [("given", o)],
  .exc "InvalidData" [("given", o)],
  .exc "InvalidLength" [("given", o)],
  .exc "InvalidPath" [("given", o)],
  .exc "InvalidClaim" [("given", o)],
  .exc "InvalidIndex" [("given", o)],
  .exc "NotAFormula" [("given", o)],
  .exc "NotASeries" [("given", o)],
  .exc "NotARunner" [("given", o)],
  .exc "TextError" [("place", o)],
  .exc "UnknownName" [("given", o)],
  .exc "Taken" [("given", o)],
  .exc "InUse" [("user", o)],
  .exc "Circular" [("given", o)],
  .exc "Clash" [("given", o)],
  .exc "NoSeries" [("given", o)],
  .exc "NoEntry" [("given", o)],
  .exc "NotMade" [("given", o)],
  .exc "DividedByZero" [],
  .exc "TooLarge" [("limit", o)],
  .exc "TooHeavy" [("limit", o)],
  .exc "NotUndoable" [("place", f), ("reason", o)],
  .exc "NoWay" [("place", o)],
  .exc "Ended" [],
  .exc "NothingToUndo" [],
  .exc "Broken" [("shown", f), ("index", o)]]
abbrev oddL : List W := [.non, .int 0, .bl true, .str "x", .tup [], .lst [.int 1], .dic [], .int (-1), .int (10 ^ (39 : Int).toNat), .tup [.str "a", .non], .str "InvalidText", .lst [.lst [], .dic [(.inr "k", .int 2)]], .bl false, .int 1]
theorem e_names {M : Mm} : m_l_names_of_classes [] M = some (.p (.lst (namesL.map .str)), M) := by kernel_rfl
theorem e_made {o f : W} {M : Mm} : m_l_made [.p o, .p f] M = some (.p (.lst (excL o f)), M) := by kernel_rfl
theorem e_named {o f : W} {M : Mm} : m_l_named [.p o, .p f] M = some (.p (.lst (excL o f)), M) := by kernel_rfl
theorem self_odd : ∀ w ∈ oddL, notSelf w = true := by
  intro w h
  simp only [oddL, List.mem_cons, List.not_mem_nil, or_false] at h
  rcases h with rfl | rfl | rfl | rfl | rfl | rfl | rfl | rfl | rfl | rfl | rfl | rfl | rfl | rfl <;> rfl
def txt1 (ws : List W) : Str := match rp1 [.p (.tup ws)] [] with
  | some (.p (.str t), _) => t
  | _ => ""
theorem rep0 {M : Mm} : rp1 [.p (.tup [])] M = some (.p (.str "()"), M) := by kernel_rfl
theorem rep1 : ∀ o ∈ oddL, ∀ M, rp1 [.p (.tup [o])] M = some (.p (.str (txt1 [o])), M) := by
  intro w h
  simp only [oddL, List.mem_cons, List.not_mem_nil, or_false] at h
  rcases h with rfl | rfl | rfl | rfl | rfl | rfl | rfl | rfl | rfl | rfl | rfl | rfl | rfl | rfl <;> exact fun M => by kernel_rfl
theorem rep2 : ∀ o ∈ oddL, ∀ f ∈ oddL, ∀ M, rp1 [.p (.tup [o, f])] M = some (.p (.str (txt1 [o, f])), M) := by
  intro w h v h2
  simp only [oddL, List.mem_cons, List.not_mem_nil, or_false] at h h2
  rcases h with rfl | rfl | rfl | rfl | rfl | rfl | rfl | rfl | rfl | rfl | rfl | rfl | rfl | rfl <;> rcases h2 with rfl | rfl | rfl | rfl | rfl | rfl | rfl | rfl | rfl | rfl | rfl | rfl | rfl | rfl <;> exact fun M => by kernel_rfl
theorem word_InvalidNumber {o f : W} {M : Mm} : m_l_word [.p (.exc "InvalidNumber" [("given", o)])] M = some (.p (.str "InvalidNumber"), M) := by kernel_rfl
theorem word_InvalidText {o f : W} {M : Mm} : m_l_word [.p (.exc "InvalidText" [("given", o)])] M = some (.p (.str "InvalidText"), M) := by kernel_rfl
theorem word_InvalidCount {o f : W} {M : Mm} : m_l_word [.p (.exc "InvalidCount" [("given", o)])] M = some (.p (.str "InvalidCount"), M) := by kernel_rfl
theorem word_InvalidName {o f : W} {M : Mm} : m_l_word [.p (.exc "InvalidName" [("given", o)])] M = some (.p (.str "InvalidName"), M) := by kernel_rfl
theorem word_InvalidTruth {o f : W} {M : Mm} : m_l_word [.p (.exc "InvalidTruth" [("given", o)])] M = some (.p (.str "InvalidTruth"), M) := by kernel_rfl
theorem word_InvalidEntries {o f : W} {M : Mm} : m_l_word [.p (.exc "InvalidEntries" [("given", o)])] M = some (.p (.str "InvalidEntries"), M) := by kernel_rfl
theorem word_InvalidData {o f : W} {M : Mm} : m_l_word [.p (.exc "InvalidData" [("given", o)])] M = some (.p (.str "InvalidData"), M) := by kernel_rfl
theorem word_InvalidLength {o f : W} {M : Mm} : m_l_word [.p (.exc "InvalidLength" [("given", o)])] M = some (.p (.str "InvalidLength"), M) := by kernel_rfl
theorem word_InvalidPath {o f : W} {M : Mm} : m_l_word [.p (.exc "InvalidPath" [("given", o)])] M = some (.p (.str "InvalidPath"), M) := by kernel_rfl
theorem word_InvalidClaim {o f : W} {M : Mm} : m_l_word [.p (.exc "InvalidClaim" [("given", o)])] M = some (.p (.str "InvalidClaim"), M) := by kernel_rfl
theorem word_InvalidIndex {o f : W} {M : Mm} : m_l_word [.p (.exc "InvalidIndex" [("given", o)])] M = some (.p (.str "InvalidIndex"), M) := by kernel_rfl
theorem word_NotAFormula {o f : W} {M : Mm} : m_l_word [.p (.exc "NotAFormula" [("given", o)])] M = some (.p (.str "NotAFormula"), M) := by kernel_rfl
theorem word_NotASeries {o f : W} {M : Mm} : m_l_word [.p (.exc "NotASeries" [("given", o)])] M = some (.p (.str "NotASeries"), M) := by kernel_rfl
theorem word_NotARunner {o f : W} {M : Mm} : m_l_word [.p (.exc "NotARunner" [("given", o)])] M = some (.p (.str "NotARunner"), M) := by kernel_rfl
theorem word_TextError {o f : W} {M : Mm} : m_l_word [.p (.exc "TextError" [("place", o)])] M = some (.p (.str "TextError"), M) := by kernel_rfl
theorem word_UnknownName {o f : W} {M : Mm} : m_l_word [.p (.exc "UnknownName" [("given", o)])] M = some (.p (.str "UnknownName"), M) := by kernel_rfl
theorem word_Taken {o f : W} {M : Mm} : m_l_word [.p (.exc "Taken" [("given", o)])] M = some (.p (.str "Taken"), M) := by kernel_rfl
theorem word_InUse {o f : W} {M : Mm} : m_l_word [.p (.exc "InUse" [("user", o)])] M = some (.p (.str "InUse"), M) := by kernel_rfl
theorem word_Circular {o f : W} {M : Mm} : m_l_word [.p (.exc "Circular" [("given", o)])] M = some (.p (.str "Circular"), M) := by kernel_rfl
theorem word_Clash {o f : W} {M : Mm} : m_l_word [.p (.exc "Clash" [("given", o)])] M = some (.p (.str "Clash"), M) := by kernel_rfl
theorem word_NoSeries {o f : W} {M : Mm} : m_l_word [.p (.exc "NoSeries" [("given", o)])] M = some (.p (.str "NoSeries"), M) := by kernel_rfl
theorem word_NoEntry {o f : W} {M : Mm} : m_l_word [.p (.exc "NoEntry" [("given", o)])] M = some (.p (.str "NoEntry"), M) := by kernel_rfl
theorem word_NotMade {o f : W} {M : Mm} : m_l_word [.p (.exc "NotMade" [("given", o)])] M = some (.p (.str "NotMade"), M) := by kernel_rfl
theorem word_DividedByZero {o f : W} {M : Mm} : m_l_word [.p (.exc "DividedByZero" [])] M = some (.p (.str "DividedByZero"), M) := by kernel_rfl
theorem word_TooLarge {o f : W} {M : Mm} : m_l_word [.p (.exc "TooLarge" [("limit", o)])] M = some (.p (.str "TooLarge"), M) := by kernel_rfl
theorem word_TooHeavy {o f : W} {M : Mm} : m_l_word [.p (.exc "TooHeavy" [("limit", o)])] M = some (.p (.str "TooHeavy"), M) := by kernel_rfl
theorem word_NotUndoable {o f : W} {M : Mm} : m_l_word [.p (.exc "NotUndoable" [("place", f), ("reason", o)])] M = some (.p (.str "NotUndoable"), M) := by kernel_rfl
theorem word_NoWay {o f : W} {M : Mm} : m_l_word [.p (.exc "NoWay" [("place", o)])] M = some (.p (.str "NoWay"), M) := by kernel_rfl
theorem word_Ended {o f : W} {M : Mm} : m_l_word [.p (.exc "Ended" [])] M = some (.p (.str "Ended"), M) := by kernel_rfl
theorem word_NothingToUndo {o f : W} {M : Mm} : m_l_word [.p (.exc "NothingToUndo" [])] M = some (.p (.str "NothingToUndo"), M) := by kernel_rfl
theorem word_Broken {o f : W} {M : Mm} : m_l_word [.p (.exc "Broken" [("shown", f), ("index", o)])] M = some (.p (.str "Broken"), M) := by kernel_rfl
theorem xf1 {c f : Str} {fs : List (Str × W)} {w : W} {M : Mm} (hc : excOk c = true) (hl : lookF f fs = some w) (hs : notSelf w = true) : xfU excOk f (.p (.exc c fs)) M = some (.p w, M) := by
  unfold xfU
  dsimp only
  rw [if_pos hc, hl]
  simp only [Option.bind_some]
  rw [if_pos hs]
theorem dtup0 {M : Mm} : dTup [] M = some (.p (.tup []), M) := rfl
theorem dtup1 {a : W} {M : Mm} : dTup [.p a] M = some (.p (.tup [a]), M) := rfl
theorem dtup2 {a b : W} {M : Mm} : dTup [.p a, .p b] M = some (.p (.tup [a, b]), M) := rfl
theorem dlst0 {M : Mm} : dLst [] M = some (.p (.lst []), M) := rfl
theorem dlst2 {a b : W} {M : Mm} : dLst [.p a, .p b] M = some (.p (.lst [a, b]), M) := rfl
theorem dlst3 {a b c : W} {M : Mm} : dLst [.p a, .p b, .p c] M = some (.p (.lst [a, b, c]), M) := rfl
theorem dlst4 {a b c d : W} {M : Mm} : dLst [.p a, .p b, .p c, .p d] M = some (.p (.lst [a, b, c, d]), M) := rfl
theorem flds_InvalidNumber {o f : W} (ho : notSelf o = true) (hf : notSelf f = true) (M : Mm) : m_l_fields [.p (.exc "InvalidNumber" [("given", o)]), .p (.str "InvalidNumber")] M = some (.p (.tup [o]), M) := by
  have e0 : inU (.p (.str "InvalidNumber")) (.p (.lst [.str "TextError", .str "NoWay"])) M = some (.p (.bl false), M) := by kernel_rfl
  have e1 : Pz.eqU (.p (.str "InvalidNumber")) (.p (.str "InUse")) M = some (.p (.bl false), M) := by kernel_rfl
  have e2 : inU (.p (.str "InvalidNumber")) (.p (.lst [.str "TooLarge", .str "TooHeavy"])) M = some (.p (.bl false), M) := by kernel_rfl
  have e3 : Pz.eqU (.p (.str "InvalidNumber")) (.p (.str "NotUndoable")) M = some (.p (.bl false), M) := by kernel_rfl
  have e4 : Pz.eqU (.p (.str "InvalidNumber")) (.p (.str "Broken")) M = some (.p (.bl false), M) := by kernel_rfl
  have e5 : inU (.p (.str "InvalidNumber")) (.p (.lst [.str "", .str "DividedByZero", .str "Ended", .str "NothingToUndo"])) M = some (.p (.bl false), M) := by kernel_rfl
  have x_given : xfU excOk "given" (.p (.exc "InvalidNumber" [("given", o)])) M = some (.p o, M) := xf1 (by kernel_rfl) (by kernel_rfl) ho
  unfold m_l_fields
  simp only [mDef, mSeq, mAsg, mIf, mBin, mUn, mVar, mC, mCall, mCons, mNil, mDisp, gSb, mB, gNm, gTp, gTu, seqA_tup, seqA_kt, seqA_lst, seqA_frz, gMore, gNone, mRet, mRetN, mExpr, mNot, mAnd, mOr, mIfE, mAndV, mOrV, mNotV, mPar, mFor, mMe, mCm, mTru, isB, mNext, finN, Bool.not_true, Bool.not_false, Bool.false_eq_true, Bool.true_eq_false, if_true, if_false, ite_true, ite_false, Option.bind_some, Option.bind_none, Option.map_some, Option.map_none, List.map_cons, List.map_nil, List.replicate_succ, List.replicate_zero, List.cons_append, List.nil_append, List.length_cons, List.length_nil, List.getElem?_cons_zero, List.getElem?_cons_succ, List.set_cons_zero, List.set_cons_succ, Option.join_some, Nat.reduceAdd, Nat.zero_add, Nat.reduceLeDiff, reduceCtorEq, dlst2, dlst4, dtup0, dtup1, dtup2, e0, e1, e2, e3, e4, e5, x_given]
theorem flds_InvalidText {o f : W} (ho : notSelf o = true) (hf : notSelf f = true) (M : Mm) : m_l_fields [.p (.exc "InvalidText" [("given", o)]), .p (.str "InvalidText")] M = some (.p (.tup [o]), M) := by
  have e0 : inU (.p (.str "InvalidText")) (.p (.lst [.str "TextError", .str "NoWay"])) M = some (.p (.bl false), M) := by kernel_rfl
  have e1 : Pz.eqU (.p (.str "InvalidText")) (.p (.str "InUse")) M = some (.p (.bl false), M) := by kernel_rfl
  have e2 : inU (.p (.str "InvalidText")) (.p (.lst [.str "TooLarge", .str "TooHeavy"])) M = some (.p (.bl false), M) := by kernel_rfl
  have e3 : Pz.eqU (.p (.str "InvalidText")) (.p (.str "NotUndoable")) M = some (.p (.bl false), M) := by kernel_rfl
  have e4 : Pz.eqU (.p (.str "InvalidText")) (.p (.str "Broken")) M = some (.p (.bl false), M) := by kernel_rfl
  have e5 : inU (.p (.str "InvalidText")) (.p (.lst [.str "", .str "DividedByZero", .str "Ended", .str "NothingToUndo"])) M = some (.p (.bl false), M) := by kernel_rfl
  have x_given : xfU excOk "given" (.p (.exc "InvalidText" [("given", o)])) M = some (.p o, M) := xf1 (by kernel_rfl) (by kernel_rfl) ho
  unfold m_l_fields
  simp only [mDef, mSeq, mAsg, mIf, mBin, mUn, mVar, mC, mCall, mCons, mNil, mDisp, gSb, mB, gNm, gTp, gTu, seqA_tup, seqA_kt, seqA_lst, seqA_frz, gMore, gNone, mRet, mRetN, mExpr, mNot, mAnd, mOr, mIfE, mAndV, mOrV, mNotV, mPar, mFor, mMe, mCm, mTru, isB, mNext, finN, Bool.not_true, Bool.not_false, Bool.false_eq_true, Bool.true_eq_false, if_true, if_false, ite_true, ite_false, Option.bind_some, Option.bind_none, Option.map_some, Option.map_none, List.map_cons, List.map_nil, List.replicate_succ, List.replicate_zero, List.cons_append, List.nil_append, List.length_cons, List.length_nil, List.getElem?_cons_zero, List.getElem?_cons_succ, List.set_cons_zero, List.set_cons_succ, Option.join_some, Nat.reduceAdd, Nat.zero_add, Nat.reduceLeDiff, reduceCtorEq, dlst2, dlst4, dtup0, dtup1, dtup2, e0, e1, e2, e3, e4, e5, x_given]
theorem flds_InvalidCount {o f : W} (ho : notSelf o = true) (hf : notSelf f = true) (M : Mm) : m_l_fields [.p (.exc "InvalidCount" [("given", o)]), .p (.str "InvalidCount")] M = some (.p (.tup [o]), M) := by
  have e0 : inU (.p (.str "InvalidCount")) (.p (.lst [.str "TextError", .str "NoWay"])) M = some (.p (.bl false), M) := by kernel_rfl
  have e1 : Pz.eqU (.p (.str "InvalidCount")) (.p (.str "InUse")) M = some (.p (.bl false), M) := by kernel_rfl
  have e2 : inU (.p (.str "InvalidCount")) (.p (.lst [.str "TooLarge", .str "TooHeavy"])) M = some (.p (.bl false), M) := by kernel_rfl
  have e3 : Pz.eqU (.p (.str "InvalidCount")) (.p (.str "NotUndoable")) M = some (.p (.bl false), M) := by kernel_rfl
  have e4 : Pz.eqU (.p (.str "InvalidCount")) (.p (.str "Broken")) M = some (.p (.bl false), M) := by kernel_rfl
  have e5 : inU (.p (.str "InvalidCount")) (.p (.lst [.str "", .str "DividedByZero", .str "Ended", .str "NothingToUndo"])) M = some (.p (.bl false), M) := by kernel_rfl
  have x_given : xfU excOk "given" (.p (.exc "InvalidCount" [("given", o)])) M = some (.p o, M) := xf1 (by kernel_rfl) (by kernel_rfl) ho
  unfold m_l_fields
  simp only [mDef, mSeq, mAsg, mIf, mBin, mUn, mVar, mC, mCall, mCons, mNil, mDisp, gSb, mB, gNm, gTp, gTu, seqA_tup, seqA_kt, seqA_lst, seqA_frz, gMore, gNone, mRet, mRetN, mExpr, mNot, mAnd, mOr, mIfE, mAndV, mOrV, mNotV, mPar, mFor, mMe, mCm, mTru, isB, mNext, finN, Bool.not_true, Bool.not_false, Bool.false_eq_true, Bool.true_eq_false, if_true, if_false, ite_true, ite_false, Option.bind_some, Option.bind_none, Option.map_some, Option.map_none, List.map_cons, List.map_nil, List.replicate_succ, List.replicate_zero, List.cons_append, List.nil_append, List.length_cons, List.length_nil, List.getElem?_cons_zero, List.getElem?_cons_succ, List.set_cons_zero, List.set_cons_succ, Option.join_some, Nat.reduceAdd, Nat.zero_add, Nat.reduceLeDiff, reduceCtorEq, dlst2, dlst4, dtup0, dtup1, dtup2, e0, e1, e2, e3, e4, e5, x_given]
theorem flds_InvalidName {o f : W} (ho : notSelf o = true) (hf : notSelf f = true) (M : Mm) : m_l_fields [.p (.exc "InvalidName" [("given", o)]), .p (.str "InvalidName")] M = some (.p (.tup [o]), M) := by
  have e0 : inU (.p (.str "InvalidName")) (.p (.lst [.str "TextError", .str "NoWay"])) M = some (.p (.bl false), M) := by kernel_rfl
  have e1 : Pz.eqU (.p (.str "InvalidName")) (.p (.str "InUse")) M = some (.p (.bl false), M) := by kernel_rfl
  have e2 : inU (.p (.str "InvalidName")) (.p (.lst [.str "TooLarge", .str "TooHeavy"])) M = some (.p (.bl false), M) := by kernel_rfl
  have e3 : Pz.eqU (.p (.str "InvalidName")) (.p (.str "NotUndoable")) M = some (.p (.bl false), M) := by kernel_rfl
  have e4 : Pz.eqU (.p (.str "InvalidName")) (.p (.str "Broken")) M = some (.p (.bl false), M) := by kernel_rfl
  have e5 : inU (.p (.str "InvalidName")) (.p (.lst [.str "", .str "DividedByZero", .str "Ended", .str "NothingToUndo"])) M = some (.p (.bl false), M) := by kernel_rfl
  have x_given : xfU excOk "given" (.p (.exc "InvalidName" [("given", o)])) M = some (.p o, M) := xf1 (by kernel_rfl) (by kernel_rfl) ho
  unfold m_l_fields
  simp only [mDef, mSeq, mAsg, mIf, mBin, mUn, mVar, mC, mCall, mCons, mNil, mDisp, gSb, mB, gNm, gTp, gTu, seqA_tup, seqA_kt, seqA_lst, seqA_frz, gMore, gNone, mRet, mRetN, mExpr, mNot, mAnd, mOr, mIfE, mAndV, mOrV, mNotV, mPar, mFor, mMe, mCm, mTru, isB, mNext, finN, Bool.not_true, Bool.not_false, Bool.false_eq_true, Bool.true_eq_false, if_true, if_false, ite_true, ite_false, Option.bind_some, Option.bind_none, Option.map_some, Option.map_none, List.map_cons, List.map_nil, List.replicate_succ, List.replicate_zero, List.cons_append, List.nil_append, List.length_cons, List.length_nil, List.getElem?_cons_zero, List.getElem?_cons_succ, List.set_cons_zero, List.set_cons_succ, Option.join_some, Nat.reduceAdd, Nat.zero_add, Nat.reduceLeDiff, reduceCtorEq, dlst2, dlst4, dtup0, dtup1, dtup2, e0, e1, e2, e3, e4, e5, x_given]
theorem flds_InvalidTruth {o f : W} (ho : notSelf o = true) (hf : notSelf f = true) (M : Mm) : m_l_fields [.p (.exc "InvalidTruth" [("given", o)]), .p (.str "InvalidTruth")] M = some (.p (.tup [o]), M) := by
  have e0 : inU (.p (.str "InvalidTruth")) (.p (.lst [.str "TextError", .str "NoWay"])) M = some (.p (.bl false), M) := by kernel_rfl
  have e1 : Pz.eqU (.p (.str "InvalidTruth")) (.p (.str "InUse")) M = some (.p (.bl false), M) := by kernel_rfl
  have e2 : inU (.p (.str "InvalidTruth")) (.p (.lst [.str "TooLarge", .str "TooHeavy"])) M = some (.p (.bl false), M) := by kernel_rfl
  have e3 : Pz.eqU (.p (.str "InvalidTruth")) (.p (.str "NotUndoable")) M = some (.p (.bl false), M) := by kernel_rfl
  have e4 : Pz.eqU (.p (.str "InvalidTruth")) (.p (.str "Broken")) M = some (.p (.bl false), M) := by kernel_rfl
  have e5 : inU (.p (.str "InvalidTruth")) (.p (.lst [.str "", .str "DividedByZero", .str "Ended", .str "NothingToUndo"])) M = some (.p (.bl false), M) := by kernel_rfl
  have x_given : xfU excOk "given" (.p (.exc "InvalidTruth" [("given", o)])) M = some (.p o, M) := xf1 (by kernel_rfl) (by kernel_rfl) ho
  unfold m_l_fields
  simp only [mDef, mSeq, mAsg, mIf, mBin, mUn, mVar, mC, mCall, mCons, mNil, mDisp, gSb, mB, gNm, gTp, gTu, seqA_tup, seqA_kt, seqA_lst, seqA_frz, gMore, gNone, mRet, mRetN, mExpr, mNot, mAnd, mOr, mIfE, mAndV, mOrV, mNotV, mPar, mFor, mMe, mCm, mTru, isB, mNext, finN, Bool.not_true, Bool.not_false, Bool.false_eq_true, Bool.true_eq_false, if_true, if_false, ite_true, ite_false, Option.bind_some, Option.bind_none, Option.map_some, Option.map_none, List.map_cons, List.map_nil, List.replicate_succ, List.replicate_zero, List.cons_append, List.nil_append, List.length_cons, List.length_nil, List.getElem?_cons_zero, List.getElem?_cons_succ, List.set_cons_zero, List.set_cons_succ, Option.join_some, Nat.reduceAdd, Nat.zero_add, Nat.reduceLeDiff, reduceCtorEq, dlst2, dlst4, dtup0, dtup1, dtup2, e0, e1, e2, e3, e4, e5, x_given]
theorem flds_InvalidEntries {o f : W} (ho : notSelf o = true) (hf : notSelf f = true) (M : Mm) : m_l_fields [.p (.exc "InvalidEntries" [("given", o)]), .p (.str "InvalidEntries")] M = some (.p (.tup [o]), M) := by
  have e0 : inU (.p (.str "InvalidEntries")) (.p (.lst [.str "TextError", .str "NoWay"])) M = some (.p (.bl false), M) := by kernel_rfl
  have e1 : Pz.eqU (.p (.str "InvalidEntries")) (.p (.str "InUse")) M = some (.p (.bl false), M) := by kernel_rfl
  have e2 : inU (.p (.str "InvalidEntries")) (.p (.lst [.str "TooLarge", .str "TooHeavy"])) M = some (.p (.bl false), M) := by kernel_rfl
  have e3 : Pz.eqU (.p (.str "InvalidEntries")) (.p (.str "NotUndoable")) M = some (.p (.bl false), M) := by kernel_rfl
  have e4 : Pz.eqU (.p (.str "InvalidEntries")) (.p (.str "Broken")) M = some (.p (.bl false), M) := by kernel_rfl
  have e5 : inU (.p (.str "InvalidEntries")) (.p (.lst [.str "", .str "DividedByZero", .str "Ended", .str "NothingToUndo"])) M = some (.p (.bl false), M) := by kernel_rfl
  have x_given : xfU excOk "given" (.p (.exc "InvalidEntries" [("given", o)])) M = some (.p o, M) := xf1 (by kernel_rfl) (by kernel_rfl) ho
  unfold m_l_fields
  simp only [mDef, mSeq, mAsg, mIf, mBin, mUn, mVar, mC, mCall, mCons, mNil, mDisp, gSb, mB, gNm, gTp, gTu, seqA_tup, seqA_kt, seqA_lst, seqA_frz, gMore, gNone, mRet, mRetN, mExpr, mNot, mAnd, mOr, mIfE, mAndV, mOrV, mNotV, mPar, mFor, mMe, mCm, mTru, isB, mNext, finN, Bool.not_true, Bool.not_false, Bool.false_eq_true, Bool.true_eq_false, if_true, if_false, ite_true, ite_false, Option.bind_some, Option.bind_none, Option.map_some, Option.map_none, List.map_cons, List.map_nil, List.replicate_succ, List.replicate_zero, List.cons_append, List.nil_append, List.length_cons, List.length_nil, List.getElem?_cons_zero, List.getElem?_cons_succ, List.set_cons_zero, List.set_cons_succ, Option.join_some, Nat.reduceAdd, Nat.zero_add, Nat.reduceLeDiff, reduceCtorEq, dlst2, dlst4, dtup0, dtup1, dtup2, e0, e1, e2, e3, e4, e5, x_given]
theorem flds_InvalidData {o f : W} (ho : notSelf o = true) (hf : notSelf f = true) (M : Mm) : m_l_fields [.p (.exc "InvalidData" [("given", o)]), .p (.str "InvalidData")] M = some (.p (.tup [o]), M) := by
  have e0 : inU (.p (.str "InvalidData")) (.p (.lst [.str "TextError", .str "NoWay"])) M = some (.p (.bl false), M) := by kernel_rfl
  have e1 : Pz.eqU (.p (.str "InvalidData")) (.p (.str "InUse")) M = some (.p (.bl false), M) := by kernel_rfl
  have e2 : inU (.p (.str "InvalidData")) (.p (.lst [.str "TooLarge", .str "TooHeavy"])) M = some (.p (.bl false), M) := by kernel_rfl
  have e3 : Pz.eqU (.p (.str "InvalidData")) (.p (.str "NotUndoable")) M = some (.p (.bl false), M) := by kernel_rfl
  have e4 : Pz.eqU (.p (.str "InvalidData")) (.p (.str "Broken")) M = some (.p (.bl false), M) := by kernel_rfl
  have e5 : inU (.p (.str "InvalidData")) (.p (.lst [.str "", .str "DividedByZero", .str "Ended", .str "NothingToUndo"])) M = some (.p (.bl false), M) := by kernel_rfl
  have x_given : xfU excOk "given" (.p (.exc "InvalidData" [("given", o)])) M = some (.p o, M) := xf1 (by kernel_rfl) (by kernel_rfl) ho
  unfold m_l_fields
  simp only [mDef, mSeq, mAsg, mIf, mBin, mUn, mVar, mC, mCall, mCons, mNil, mDisp, gSb, mB, gNm, gTp, gTu, seqA_tup, seqA_kt, seqA_lst, seqA_frz, gMore, gNone, mRet, mRetN, mExpr, mNot, mAnd, mOr, mIfE, mAndV, mOrV, mNotV, mPar, mFor, mMe, mCm, mTru, isB, mNext, finN, Bool.not_true, Bool.not_false, Bool.false_eq_true, Bool.true_eq_false, if_true, if_false, ite_true, ite_false, Option.bind_some, Option.bind_none, Option.map_some, Option.map_none, List.map_cons, List.map_nil, List.replicate_succ, List.replicate_zero, List.cons_append, List.nil_append, List.length_cons, List.length_nil, List.getElem?_cons_zero, List.getElem?_cons_succ, List.set_cons_zero, List.set_cons_succ, Option.join_some, Nat.reduceAdd, Nat.zero_add, Nat.reduceLeDiff, reduceCtorEq, dlst2, dlst4, dtup0, dtup1, dtup2, e0, e1, e2, e3, e4, e5, x_given]
theorem flds_InvalidLength {o f : W} (ho : notSelf o = true) (hf : notSelf f = true) (M : Mm) : m_l_fields [.p (.exc "InvalidLength" [("given", o)]), .p (.str "InvalidLength")] M = some (.p (.tup [o]), M) := by
  have e0 : inU (.p (.str "InvalidLength")) (.p (.lst [.str "TextError", .str "NoWay"])) M = some (.p (.bl false), M) := by kernel_rfl
  have e1 : Pz.eqU (.p (.str "InvalidLength")) (.p (.str "InUse")) M = some (.p (.bl false), M) := by kernel_rfl
  have e2 : inU (.p (.str "InvalidLength")) (.p (.lst [.str "TooLarge", .str "TooHeavy"])) M = some (.p (.bl false), M) := by kernel_rfl
  have e3 : Pz.eqU (.p (.str "InvalidLength")) (.p (.str "NotUndoable")) M = some (.p (.bl false), M) := by kernel_rfl
  have e4 : Pz.eqU (.p (.str "InvalidLength")) (.p (.str "Broken")) M = some (.p (.bl false), M) := by kernel_rfl
  have e5 : inU (.p (.str "InvalidLength")) (.p (.lst [.str "", .str "DividedByZero", .str "Ended", .str "NothingToUndo"])) M = some (.p (.bl false), M) := by kernel_rfl
  have x_given : xfU excOk "given" (.p (.exc "InvalidLength" [("given", o)])) M = some (.p o, M) := xf1 (by kernel_rfl) (by kernel_rfl) ho
  unfold m_l_fields
  simp only [mDef, mSeq, mAsg, mIf, mBin, mUn, mVar, mC, mCall, mCons, mNil, mDisp, gSb, mB, gNm, gTp, gTu, seqA_tup, seqA_kt, seqA_lst, seqA_frz, gMore, gNone, mRet, mRetN, mExpr, mNot, mAnd, mOr, mIfE, mAndV, mOrV, mNotV, mPar, mFor, mMe, mCm, mTru, isB, mNext, finN, Bool.not_true, Bool.not_false, Bool.false_eq_true, Bool.true_eq_false, if_true, if_false, ite_true, ite_false, Option.bind_some, Option.bind_none, Option.map_some, Option.map_none, List.map_cons, List.map_nil, List.replicate_succ, List.replicate_zero, List.cons_append, List.nil_append, List.length_cons, List.length_nil, List.getElem?_cons_zero, List.getElem?_cons_succ, List.set_cons_zero, List.set_cons_succ, Option.join_some, Nat.reduceAdd, Nat.zero_add, Nat.reduceLeDiff, reduceCtorEq, dlst2, dlst4, dtup0, dtup1, dtup2, e0, e1, e2, e3, e4, e5, x_given]
theorem flds_InvalidPath {o f : W} (ho : notSelf o = true) (hf : notSelf f = true) (M : Mm) : m_l_fields [.p (.exc "InvalidPath" [("given", o)]), .p (.str "InvalidPath")] M = some (.p (.tup [o]), M) := by
  have e0 : inU (.p (.str "InvalidPath")) (.p (.lst [.str "TextError", .str "NoWay"])) M = some (.p (.bl false), M) := by kernel_rfl
  have e1 : Pz.eqU (.p (.str "InvalidPath")) (.p (.str "InUse")) M = some (.p (.bl false), M) := by kernel_rfl
  have e2 : inU (.p (.str "InvalidPath")) (.p (.lst [.str "TooLarge", .str "TooHeavy"])) M = some (.p (.bl false), M) := by kernel_rfl
  have e3 : Pz.eqU (.p (.str "InvalidPath")) (.p (.str "NotUndoable")) M = some (.p (.bl false), M) := by kernel_rfl
  have e4 : Pz.eqU (.p (.str "InvalidPath")) (.p (.str "Broken")) M = some (.p (.bl false), M) := by kernel_rfl
  have e5 : inU (.p (.str "InvalidPath")) (.p (.lst [.str "", .str "DividedByZero", .str "Ended", .str "NothingToUndo"])) M = some (.p (.bl false), M) := by kernel_rfl
  have x_given : xfU excOk "given" (.p (.exc "InvalidPath" [("given", o)])) M = some (.p o, M) := xf1 (by kernel_rfl) (by kernel_rfl) ho
  unfold m_l_fields
  simp only [mDef, mSeq, mAsg, mIf, mBin, mUn, mVar, mC, mCall, mCons, mNil, mDisp, gSb, mB, gNm, gTp, gTu, seqA_tup, seqA_kt, seqA_lst, seqA_frz, gMore, gNone, mRet, mRetN, mExpr, mNot, mAnd, mOr, mIfE, mAndV, mOrV, mNotV, mPar, mFor, mMe, mCm, mTru, isB, mNext, finN, Bool.not_true, Bool.not_false, Bool.false_eq_true, Bool.true_eq_false, if_true, if_false, ite_true, ite_false, Option.bind_some, Option.bind_none, Option.map_some, Option.map_none, List.map_cons, List.map_nil, List.replicate_succ, List.replicate_zero, List.cons_append, List.nil_append, List.length_cons, List.length_nil, List.getElem?_cons_zero, List.getElem?_cons_succ, List.set_cons_zero, List.set_cons_succ, Option.join_some, Nat.reduceAdd, Nat.zero_add, Nat.reduceLeDiff, reduceCtorEq, dlst2, dlst4, dtup0, dtup1, dtup2, e0, e1, e2, e3, e4, e5, x_given]
theorem flds_InvalidClaim {o f : W} (ho : notSelf o = true) (hf : notSelf f = true) (M : Mm) : m_l_fields [.p (.exc "InvalidClaim" [("given", o)]), .p (.str "InvalidClaim")] M = some (.p (.tup [o]), M) := by
  have e0 : inU (.p (.str "InvalidClaim")) (.p (.lst [.str "TextError", .str "NoWay"])) M = some (.p (.bl false), M) := by kernel_rfl
  have e1 : Pz.eqU (.p (.str "InvalidClaim")) (.p (.str "InUse")) M = some (.p (.bl false), M) := by kernel_rfl
  have e2 : inU (.p (.str "InvalidClaim")) (.p (.lst [.str "TooLarge", .str "TooHeavy"])) M = some (.p (.bl false), M) := by kernel_rfl
  have e3 : Pz.eqU (.p (.str "InvalidClaim")) (.p (.str "NotUndoable")) M = some (.p (.bl false), M) := by kernel_rfl
  have e4 : Pz.eqU (.p (.str "InvalidClaim")) (.p (.str "Broken")) M = some (.p (.bl false), M) := by kernel_rfl
  have e5 : inU (.p (.str "InvalidClaim")) (.p (.lst [.str "", .str "DividedByZero", .str "Ended", .str "NothingToUndo"])) M = some (.p (.bl false), M) := by kernel_rfl
  have x_given : xfU excOk "given" (.p (.exc "InvalidClaim" [("given", o)])) M = some (.p o, M) := xf1 (by kernel_rfl) (by kernel_rfl) ho
  unfold m_l_fields
  simp only [mDef, mSeq, mAsg, mIf, mBin, mUn, mVar, mC, mCall, mCons, mNil, mDisp, gSb, mB, gNm, gTp, gTu, seqA_tup, seqA_kt, seqA_lst, seqA_frz, gMore, gNone, mRet, mRetN, mExpr, mNot, mAnd, mOr, mIfE, mAndV, mOrV, mNotV, mPar, mFor, mMe, mCm, mTru, isB, mNext, finN, Bool.not_true, Bool.not_false, Bool.false_eq_true, Bool.true_eq_false, if_true, if_false, ite_true, ite_false, Option.bind_some, Option.bind_none, Option.map_some, Option.map_none, List.map_cons, List.map_nil, List.replicate_succ, List.replicate_zero, List.cons_append, List.nil_append, List.length_cons, List.length_nil, List.getElem?_cons_zero, List.getElem?_cons_succ, List.set_cons_zero, List.set_cons_succ, Option.join_some, Nat.reduceAdd, Nat.zero_add, Nat.reduceLeDiff, reduceCtorEq, dlst2, dlst4, dtup0, dtup1, dtup2, e0, e1, e2, e3, e4, e5, x_given]
theorem flds_InvalidIndex {o f : W} (ho : notSelf o = true) (hf : notSelf f = true) (M : Mm) : m_l_fields [.p (.exc "InvalidIndex" [("given", o)]), .p (.str "InvalidIndex")] M = some (.p (.tup [o]), M) := by
  have e0 : inU (.p (.str "InvalidIndex")) (.p (.lst [.str "TextError", .str "NoWay"])) M = some (.p (.bl false), M) := by kernel_rfl
  have e1 : Pz.eqU (.p (.str "InvalidIndex")) (.p (.str "InUse")) M = some (.p (.bl false), M) := by kernel_rfl
  have e2 : inU (.p (.str "InvalidIndex")) (.p (.lst [.str "TooLarge", .str "TooHeavy"])) M = some (.p (.bl false), M) := by kernel_rfl
  have e3 : Pz.eqU (.p (.str "InvalidIndex")) (.p (.str "NotUndoable")) M = some (.p (.bl false), M) := by kernel_rfl
  have e4 : Pz.eqU (.p (.str "InvalidIndex")) (.p (.str "Broken")) M = some (.p (.bl false), M) := by kernel_rfl
  have e5 : inU (.p (.str "InvalidIndex")) (.p (.lst [.str "", .str "DividedByZero", .str "Ended", .str "NothingToUndo"])) M = some (.p (.bl false), M) := by kernel_rfl
  have x_given : xfU excOk "given" (.p (.exc "InvalidIndex" [("given", o)])) M = some (.p o, M) := xf1 (by kernel_rfl) (by kernel_rfl) ho
  unfold m_l_fields
  simp only [mDef, mSeq, mAsg, mIf, mBin, mUn, mVar, mC, mCall, mCons, mNil, mDisp, gSb, mB, gNm, gTp, gTu, seqA_tup, seqA_kt, seqA_lst, seqA_frz, gMore, gNone, mRet, mRetN, mExpr, mNot, mAnd, mOr, mIfE, mAndV, mOrV, mNotV, mPar, mFor, mMe, mCm, mTru, isB, mNext, finN, Bool.not_true, Bool.not_false, Bool.false_eq_true, Bool.true_eq_false, if_true, if_false, ite_true, ite_false, Option.bind_some, Option.bind_none, Option.map_some, Option.map_none, List.map_cons, List.map_nil, List.replicate_succ, List.replicate_zero, List.cons_append, List.nil_append, List.length_cons, List.length_nil, List.getElem?_cons_zero, List.getElem?_cons_succ, List.set_cons_zero, List.set_cons_succ, Option.join_some, Nat.reduceAdd, Nat.zero_add, Nat.reduceLeDiff, reduceCtorEq, dlst2, dlst4, dtup0, dtup1, dtup2, e0, e1, e2, e3, e4, e5, x_given]
theorem flds_NotAFormula {o f : W} (ho : notSelf o = true) (hf : notSelf f = true) (M : Mm) : m_l_fields [.p (.exc "NotAFormula" [("given", o)]), .p (.str "NotAFormula")] M = some (.p (.tup [o]), M) := by
  have e0 : inU (.p (.str "NotAFormula")) (.p (.lst [.str "TextError", .str "NoWay"])) M = some (.p (.bl false), M) := by kernel_rfl
  have e1 : Pz.eqU (.p (.str "NotAFormula")) (.p (.str "InUse")) M = some (.p (.bl false), M) := by kernel_rfl
  have e2 : inU (.p (.str "NotAFormula")) (.p (.lst [.str "TooLarge", .str "TooHeavy"])) M = some (.p (.bl false), M) := by kernel_rfl
  have e3 : Pz.eqU (.p (.str "NotAFormula")) (.p (.str "NotUndoable")) M = some (.p (.bl false), M) := by kernel_rfl
  have e4 : Pz.eqU (.p (.str "NotAFormula")) (.p (.str "Broken")) M = some (.p (.bl false), M) := by kernel_rfl
  have e5 : inU (.p (.str "NotAFormula")) (.p (.lst [.str "", .str "DividedByZero", .str "Ended", .str "NothingToUndo"])) M = some (.p (.bl false), M) := by kernel_rfl
  have x_given : xfU excOk "given" (.p (.exc "NotAFormula" [("given", o)])) M = some (.p o, M) := xf1 (by kernel_rfl) (by kernel_rfl) ho
  unfold m_l_fields
  simp only [mDef, mSeq, mAsg, mIf, mBin, mUn, mVar, mC, mCall, mCons, mNil, mDisp, gSb, mB, gNm, gTp, gTu, seqA_tup, seqA_kt, seqA_lst, seqA_frz, gMore, gNone, mRet, mRetN, mExpr, mNot, mAnd, mOr, mIfE, mAndV, mOrV, mNotV, mPar, mFor, mMe, mCm, mTru, isB, mNext, finN, Bool.not_true, Bool.not_false, Bool.false_eq_true, Bool.true_eq_false, if_true, if_false, ite_true, ite_false, Option.bind_some, Option.bind_none, Option.map_some, Option.map_none, List.map_cons, List.map_nil, List.replicate_succ, List.replicate_zero, List.cons_append, List.nil_append, List.length_cons, List.length_nil, List.getElem?_cons_zero, List.getElem?_cons_succ, List.set_cons_zero, List.set_cons_succ, Option.join_some, Nat.reduceAdd, Nat.zero_add, Nat.reduceLeDiff, reduceCtorEq, dlst2, dlst4, dtup0, dtup1, dtup2, e0, e1, e2, e3, e4, e5, x_given]
theorem flds_NotASeries {o f : W} (ho : notSelf o = true) (hf : notSelf f = true) (M : Mm) : m_l_fields [.p (.exc "NotASeries" [("given", o)]), .p (.str "NotASeries")] M = some (.p (.tup [o]), M) := by
  have e0 : inU (.p (.str "NotASeries")) (.p (.lst [.str "TextError", .str "NoWay"])) M = some (.p (.bl false), M) := by kernel_rfl
  have e1 : Pz.eqU (.p (.str "NotASeries")) (.p (.str "InUse")) M = some (.p (.bl false), M) := by kernel_rfl
  have e2 : inU (.p (.str "NotASeries")) (.p (.lst [.str "TooLarge", .str "TooHeavy"])) M = some (.p (.bl false), M) := by kernel_rfl
  have e3 : Pz.eqU (.p (.str "NotASeries")) (.p (.str "NotUndoable")) M = some (.p (.bl false), M) := by kernel_rfl
  have e4 : Pz.eqU (.p (.str "NotASeries")) (.p (.str "Broken")) M = some (.p (.bl false), M) := by kernel_rfl
  have e5 : inU (.p (.str "NotASeries")) (.p (.lst [.str "", .str "DividedByZero", .str "Ended", .str "NothingToUndo"])) M = some (.p (.bl false), M) := by kernel_rfl
  have x_given : xfU excOk "given" (.p (.exc "NotASeries" [("given", o)])) M = some (.p o, M) := xf1 (by kernel_rfl) (by kernel_rfl) ho
  unfold m_l_fields
  simp only [mDef, mSeq, mAsg, mIf, mBin, mUn, mVar, mC, mCall, mCons, mNil, mDisp, gSb, mB, gNm, gTp, gTu, seqA_tup, seqA_kt, seqA_lst, seqA_frz, gMore, gNone, mRet, mRetN, mExpr, mNot, mAnd, mOr, mIfE, mAndV, mOrV, mNotV, mPar, mFor, mMe, mCm, mTru, isB, mNext, finN, Bool.not_true, Bool.not_false, Bool.false_eq_true, Bool.true_eq_false, if_true, if_false, ite_true, ite_false, Option.bind_some, Option.bind_none, Option.map_some, Option.map_none, List.map_cons, List.map_nil, List.replicate_succ, List.replicate_zero, List.cons_append, List.nil_append, List.length_cons, List.length_nil, List.getElem?_cons_zero, List.getElem?_cons_succ, List.set_cons_zero, List.set_cons_succ, Option.join_some, Nat.reduceAdd, Nat.zero_add, Nat.reduceLeDiff, reduceCtorEq, dlst2, dlst4, dtup0, dtup1, dtup2, e0, e1, e2, e3, e4, e5, x_given]
theorem flds_NotARunner {o f : W} (ho : notSelf o = true) (hf : notSelf f = true) (M : Mm) : m_l_fields [.p (.exc "NotARunner" [("given", o)]), .p (.str "NotARunner")] M = some (.p (.tup [o]), M) := by
  have e0 : inU (.p (.str "NotARunner")) (.p (.lst [.str "TextError", .str "NoWay"])) M = some (.p (.bl false), M) := by kernel_rfl
  have e1 : Pz.eqU (.p (.str "NotARunner")) (.p (.str "InUse")) M = some (.p (.bl false), M) := by kernel_rfl
  have e2 : inU (.p (.str "NotARunner")) (.p (.lst [.str "TooLarge", .str "TooHeavy"])) M = some (.p (.bl false), M) := by kernel_rfl
  have e3 : Pz.eqU (.p (.str "NotARunner")) (.p (.str "NotUndoable")) M = some (.p (.bl false), M) := by kernel_rfl
  have e4 : Pz.eqU (.p (.str "NotARunner")) (.p (.str "Broken")) M = some (.p (.bl false), M) := by kernel_rfl
  have e5 : inU (.p (.str "NotARunner")) (.p (.lst [.str "", .str "DividedByZero", .str "Ended", .str "NothingToUndo"])) M = some (.p (.bl false), M) := by kernel_rfl
  have x_given : xfU excOk "given" (.p (.exc "NotARunner" [("given", o)])) M = some (.p o, M) := xf1 (by kernel_rfl) (by kernel_rfl) ho
  unfold m_l_fields
  simp only [mDef, mSeq, mAsg, mIf, mBin, mUn, mVar, mC, mCall, mCons, mNil, mDisp, gSb, mB, gNm, gTp, gTu, seqA_tup, seqA_kt, seqA_lst, seqA_frz, gMore, gNone, mRet, mRetN, mExpr, mNot, mAnd, mOr, mIfE, mAndV, mOrV, mNotV, mPar, mFor, mMe, mCm, mTru, isB, mNext, finN, Bool.not_true, Bool.not_false, Bool.false_eq_true, Bool.true_eq_false, if_true, if_false, ite_true, ite_false, Option.bind_some, Option.bind_none, Option.map_some, Option.map_none, List.map_cons, List.map_nil, List.replicate_succ, List.replicate_zero, List.cons_append, List.nil_append, List.length_cons, List.length_nil, List.getElem?_cons_zero, List.getElem?_cons_succ, List.set_cons_zero, List.set_cons_succ, Option.join_some, Nat.reduceAdd, Nat.zero_add, Nat.reduceLeDiff, reduceCtorEq, dlst2, dlst4, dtup0, dtup1, dtup2, e0, e1, e2, e3, e4, e5, x_given]
theorem flds_TextError {o f : W} (ho : notSelf o = true) (hf : notSelf f = true) (M : Mm) : m_l_fields [.p (.exc "TextError" [("place", o)]), .p (.str "TextError")] M = some (.p (.tup [o]), M) := by
  have e0 : inU (.p (.str "TextError")) (.p (.lst [.str "TextError", .str "NoWay"])) M = some (.p (.bl true), M) := by kernel_rfl
  have x_place : xfU excOk "place" (.p (.exc "TextError" [("place", o)])) M = some (.p o, M) := xf1 (by kernel_rfl) (by kernel_rfl) ho
  unfold m_l_fields
  simp only [mDef, mSeq, mAsg, mIf, mBin, mUn, mVar, mC, mCall, mCons, mNil, mDisp, gSb, mB, gNm, gTp, gTu, seqA_tup, seqA_kt, seqA_lst, seqA_frz, gMore, gNone, mRet, mRetN, mExpr, mNot, mAnd, mOr, mIfE, mAndV, mOrV, mNotV, mPar, mFor, mMe, mCm, mTru, isB, mNext, finN, Bool.not_true, Bool.not_false, Bool.false_eq_true, Bool.true_eq_false, if_true, if_false, ite_true, ite_false, Option.bind_some, Option.bind_none, Option.map_some, Option.map_none, List.map_cons, List.map_nil, List.replicate_succ, List.replicate_zero, List.cons_append, List.nil_append, List.length_cons, List.length_nil, List.getElem?_cons_zero, List.getElem?_cons_succ, List.set_cons_zero, List.set_cons_succ, Option.join_some, Nat.reduceAdd, Nat.zero_add, Nat.reduceLeDiff, reduceCtorEq, dlst2, dlst4, dtup0, dtup1, dtup2, e0, x_place]
theorem flds_UnknownName {o f : W} (ho : notSelf o = true) (hf : notSelf f = true) (M : Mm) : m_l_fields [.p (.exc "UnknownName" [("given", o)]), .p (.str "UnknownName")] M = some (.p (.tup [o]), M) := by
  have e0 : inU (.p (.str "UnknownName")) (.p (.lst [.str "TextError", .str "NoWay"])) M = some (.p (.bl false), M) := by kernel_rfl
  have e1 : Pz.eqU (.p (.str "UnknownName")) (.p (.str "InUse")) M = some (.p (.bl false), M) := by kernel_rfl
  have e2 : inU (.p (.str "UnknownName")) (.p (.lst [.str "TooLarge", .str "TooHeavy"])) M = some (.p (.bl false), M) := by kernel_rfl
  have e3 : Pz.eqU (.p (.str "UnknownName")) (.p (.str "NotUndoable")) M = some (.p (.bl false), M) := by kernel_rfl
  have e4 : Pz.eqU (.p (.str "UnknownName")) (.p (.str "Broken")) M = some (.p (.bl false), M) := by kernel_rfl
  have e5 : inU (.p (.str "UnknownName")) (.p (.lst [.str "", .str "DividedByZero", .str "Ended", .str "NothingToUndo"])) M = some (.p (.bl false), M) := by kernel_rfl
  have x_given : xfU excOk "given" (.p (.exc "UnknownName" [("given", o)])) M = some (.p o, M) := xf1 (by kernel_rfl) (by kernel_rfl) ho
  unfold m_l_fields
  simp only [mDef, mSeq, mAsg, mIf, mBin, mUn, mVar, mC, mCall, mCons, mNil, mDisp, gSb, mB, gNm, gTp, gTu, seqA_tup, seqA_kt, seqA_lst, seqA_frz, gMore, gNone, mRet, mRetN, mExpr, mNot, mAnd, mOr, mIfE, mAndV, mOrV, mNotV, mPar, mFor, mMe, mCm, mTru, isB, mNext, finN, Bool.not_true, Bool.not_false, Bool.false_eq_true, Bool.true_eq_false, if_true, if_false, ite_true, ite_false, Option.bind_some, Option.bind_none, Option.map_some, Option.map_none, List.map_cons, List.map_nil, List.replicate_succ, List.replicate_zero, List.cons_append, List.nil_append, List.length_cons, List.length_nil, List.getElem?_cons_zero, List.getElem?_cons_succ, List.set_cons_zero, List.set_cons_succ, Option.join_some, Nat.reduceAdd, Nat.zero_add, Nat.reduceLeDiff, reduceCtorEq, dlst2, dlst4, dtup0, dtup1, dtup2, e0, e1, e2, e3, e4, e5, x_given]
theorem flds_Taken {o f : W} (ho : notSelf o = true) (hf : notSelf f = true) (M : Mm) : m_l_fields [.p (.exc "Taken" [("given", o)]), .p (.str "Taken")] M = some (.p (.tup [o]), M) := by
  have e0 : inU (.p (.str "Taken")) (.p (.lst [.str "TextError", .str "NoWay"])) M = some (.p (.bl false), M) := by kernel_rfl
  have e1 : Pz.eqU (.p (.str "Taken")) (.p (.str "InUse")) M = some (.p (.bl false), M) := by kernel_rfl
  have e2 : inU (.p (.str "Taken")) (.p (.lst [.str "TooLarge", .str "TooHeavy"])) M = some (.p (.bl false), M) := by kernel_rfl
  have e3 : Pz.eqU (.p (.str "Taken")) (.p (.str "NotUndoable")) M = some (.p (.bl false), M) := by kernel_rfl
  have e4 : Pz.eqU (.p (.str "Taken")) (.p (.str "Broken")) M = some (.p (.bl false), M) := by kernel_rfl
  have e5 : inU (.p (.str "Taken")) (.p (.lst [.str "", .str "DividedByZero", .str "Ended", .str "NothingToUndo"])) M = some (.p (.bl false), M) := by kernel_rfl
  have x_given : xfU excOk "given" (.p (.exc "Taken" [("given", o)])) M = some (.p o, M) := xf1 (by kernel_rfl) (by kernel_rfl) ho
  unfold m_l_fields
  simp only [mDef, mSeq, mAsg, mIf, mBin, mUn, mVar, mC, mCall, mCons, mNil, mDisp, gSb, mB, gNm, gTp, gTu, seqA_tup, seqA_kt, seqA_lst, seqA_frz, gMore, gNone, mRet, mRetN, mExpr, mNot, mAnd, mOr, mIfE, mAndV, mOrV, mNotV, mPar, mFor, mMe, mCm, mTru, isB, mNext, finN, Bool.not_true, Bool.not_false, Bool.false_eq_true, Bool.true_eq_false, if_true, if_false, ite_true, ite_false, Option.bind_some, Option.bind_none, Option.map_some, Option.map_none, List.map_cons, List.map_nil, List.replicate_succ, List.replicate_zero, List.cons_append, List.nil_append, List.length_cons, List.length_nil, List.getElem?_cons_zero, List.getElem?_cons_succ, List.set_cons_zero, List.set_cons_succ, Option.join_some, Nat.reduceAdd, Nat.zero_add, Nat.reduceLeDiff, reduceCtorEq, dlst2, dlst4, dtup0, dtup1, dtup2, e0, e1, e2, e3, e4, e5, x_given]
theorem flds_InUse {o f : W} (ho : notSelf o = true) (hf : notSelf f = true) (M : Mm) : m_l_fields [.p (.exc "InUse" [("user", o)]), .p (.str "InUse")] M = some (.p (.tup [o]), M) := by
  have e0 : inU (.p (.str "InUse")) (.p (.lst [.str "TextError", .str "NoWay"])) M = some (.p (.bl false), M) := by kernel_rfl
  have e1 : Pz.eqU (.p (.str "InUse")) (.p (.str "InUse")) M = some (.p (.bl true), M) := by kernel_rfl
  have x_user : xfU excOk "user" (.p (.exc "InUse" [("user", o)])) M = some (.p o, M) := xf1 (by kernel_rfl) (by kernel_rfl) ho
  unfold m_l_fields
  simp only [mDef, mSeq, mAsg, mIf, mBin, mUn, mVar, mC, mCall, mCons, mNil, mDisp, gSb, mB, gNm, gTp, gTu, seqA_tup, seqA_kt, seqA_lst, seqA_frz, gMore, gNone, mRet, mRetN, mExpr, mNot, mAnd, mOr, mIfE, mAndV, mOrV, mNotV, mPar, mFor, mMe, mCm, mTru, isB, mNext, finN, Bool.not_true, Bool.not_false, Bool.false_eq_true, Bool.true_eq_false, if_true, if_false, ite_true, ite_false, Option.bind_some, Option.bind_none, Option.map_some, Option.map_none, List.map_cons, List.map_nil, List.replicate_succ, List.replicate_zero, List.cons_append, List.nil_append, List.length_cons, List.length_nil, List.getElem?_cons_zero, List.getElem?_cons_succ, List.set_cons_zero, List.set_cons_succ, Option.join_some, Nat.reduceAdd, Nat.zero_add, Nat.reduceLeDiff, reduceCtorEq, dlst2, dlst4, dtup0, dtup1, dtup2, e0, e1, x_user]
theorem flds_Circular {o f : W} (ho : notSelf o = true) (hf : notSelf f = true) (M : Mm) : m_l_fields [.p (.exc "Circular" [("given", o)]), .p (.str "Circular")] M = some (.p (.tup [o]), M) := by
  have e0 : inU (.p (.str "Circular")) (.p (.lst [.str "TextError", .str "NoWay"])) M = some (.p (.bl false), M) := by kernel_rfl
  have e1 : Pz.eqU (.p (.str "Circular")) (.p (.str "InUse")) M = some (.p (.bl false), M) := by kernel_rfl
  have e2 : inU (.p (.str "Circular")) (.p (.lst [.str "TooLarge", .str "TooHeavy"])) M = some (.p (.bl false), M) := by kernel_rfl
  have e3 : Pz.eqU (.p (.str "Circular")) (.p (.str "NotUndoable")) M = some (.p (.bl false), M) := by kernel_rfl
  have e4 : Pz.eqU (.p (.str "Circular")) (.p (.str "Broken")) M = some (.p (.bl false), M) := by kernel_rfl
  have e5 : inU (.p (.str "Circular")) (.p (.lst [.str "", .str "DividedByZero", .str "Ended", .str "NothingToUndo"])) M = some (.p (.bl false), M) := by kernel_rfl
  have x_given : xfU excOk "given" (.p (.exc "Circular" [("given", o)])) M = some (.p o, M) := xf1 (by kernel_rfl) (by kernel_rfl) ho
  unfold m_l_fields
  simp only [mDef, mSeq, mAsg, mIf, mBin, mUn, mVar, mC, mCall, mCons, mNil, mDisp, gSb, mB, gNm, gTp, gTu, seqA_tup, seqA_kt, seqA_lst, seqA_frz, gMore, gNone, mRet, mRetN, mExpr, mNot, mAnd, mOr, mIfE, mAndV, mOrV, mNotV, mPar, mFor, mMe, mCm, mTru, isB, mNext, finN, Bool.not_true, Bool.not_false, Bool.false_eq_true, Bool.true_eq_false, if_true, if_false, ite_true, ite_false, Option.bind_some, Option.bind_none, Option.map_some, Option.map_none, List.map_cons, List.map_nil, List.replicate_succ, List.replicate_zero, List.cons_append, List.nil_append, List.length_cons, List.length_nil, List.getElem?_cons_zero, List.getElem?_cons_succ, List.set_cons_zero, List.set_cons_succ, Option.join_some, Nat.reduceAdd, Nat.zero_add, Nat.reduceLeDiff, reduceCtorEq, dlst2, dlst4, dtup0, dtup1, dtup2, e0, e1, e2, e3, e4, e5, x_given]
theorem flds_Clash {o f : W} (ho : notSelf o = true) (hf : notSelf f = true) (M : Mm) : m_l_fields [.p (.exc "Clash" [("given", o)]), .p (.str "Clash")] M = some (.p (.tup [o]), M) := by
  have e0 : inU (.p (.str "Clash")) (.p (.lst [.str "TextError", .str "NoWay"])) M = some (.p (.bl false), M) := by kernel_rfl
  have e1 : Pz.eqU (.p (.str "Clash")) (.p (.str "InUse")) M = some (.p (.bl false), M) := by kernel_rfl
  have e2 : inU (.p (.str "Clash")) (.p (.lst [.str "TooLarge", .str "TooHeavy"])) M = some (.p (.bl false), M) := by kernel_rfl
  have e3 : Pz.eqU (.p (.str "Clash")) (.p (.str "NotUndoable")) M = some (.p (.bl false), M) := by kernel_rfl
  have e4 : Pz.eqU (.p (.str "Clash")) (.p (.str "Broken")) M = some (.p (.bl false), M) := by kernel_rfl
  have e5 : inU (.p (.str "Clash")) (.p (.lst [.str "", .str "DividedByZero", .str "Ended", .str "NothingToUndo"])) M = some (.p (.bl false), M) := by kernel_rfl
  have x_given : xfU excOk "given" (.p (.exc "Clash" [("given", o)])) M = some (.p o, M) := xf1 (by kernel_rfl) (by kernel_rfl) ho
  unfold m_l_fields
  simp only [mDef, mSeq, mAsg, mIf, mBin, mUn, mVar, mC, mCall, mCons, mNil, mDisp, gSb, mB, gNm, gTp, gTu, seqA_tup, seqA_kt, seqA_lst, seqA_frz, gMore, gNone, mRet, mRetN, mExpr, mNot, mAnd, mOr, mIfE, mAndV, mOrV, mNotV, mPar, mFor, mMe, mCm, mTru, isB, mNext, finN, Bool.not_true, Bool.not_false, Bool.false_eq_true, Bool.true_eq_false, if_true, if_false, ite_true, ite_false, Option.bind_some, Option.bind_none, Option.map_some, Option.map_none, List.map_cons, List.map_nil, List.replicate_succ, List.replicate_zero, List.cons_append, List.nil_append, List.length_cons, List.length_nil, List.getElem?_cons_zero, List.getElem?_cons_succ, List.set_cons_zero, List.set_cons_succ, Option.join_some, Nat.reduceAdd, Nat.zero_add, Nat.reduceLeDiff, reduceCtorEq, dlst2, dlst4, dtup0, dtup1, dtup2, e0, e1, e2, e3, e4, e5, x_given]
theorem flds_NoSeries {o f : W} (ho : notSelf o = true) (hf : notSelf f = true) (M : Mm) : m_l_fields [.p (.exc "NoSeries" [("given", o)]), .p (.str "NoSeries")] M = some (.p (.tup [o]), M) := by
  have e0 : inU (.p (.str "NoSeries")) (.p (.lst [.str "TextError", .str "NoWay"])) M = some (.p (.bl false), M) := by kernel_rfl
  have e1 : Pz.eqU (.p (.str "NoSeries")) (.p (.str "InUse")) M = some (.p (.bl false), M) := by kernel_rfl
  have e2 : inU (.p (.str "NoSeries")) (.p (.lst [.str "TooLarge", .str "TooHeavy"])) M = some (.p (.bl false), M) := by kernel_rfl
  have e3 : Pz.eqU (.p (.str "NoSeries")) (.p (.str "NotUndoable")) M = some (.p (.bl false), M) := by kernel_rfl
  have e4 : Pz.eqU (.p (.str "NoSeries")) (.p (.str "Broken")) M = some (.p (.bl false), M) := by kernel_rfl
  have e5 : inU (.p (.str "NoSeries")) (.p (.lst [.str "", .str "DividedByZero", .str "Ended", .str "NothingToUndo"])) M = some (.p (.bl false), M) := by kernel_rfl
  have x_given : xfU excOk "given" (.p (.exc "NoSeries" [("given", o)])) M = some (.p o, M) := xf1 (by kernel_rfl) (by kernel_rfl) ho
  unfold m_l_fields
  simp only [mDef, mSeq, mAsg, mIf, mBin, mUn, mVar, mC, mCall, mCons, mNil, mDisp, gSb, mB, gNm, gTp, gTu, seqA_tup, seqA_kt, seqA_lst, seqA_frz, gMore, gNone, mRet, mRetN, mExpr, mNot, mAnd, mOr, mIfE, mAndV, mOrV, mNotV, mPar, mFor, mMe, mCm, mTru, isB, mNext, finN, Bool.not_true, Bool.not_false, Bool.false_eq_true, Bool.true_eq_false, if_true, if_false, ite_true, ite_false, Option.bind_some, Option.bind_none, Option.map_some, Option.map_none, List.map_cons, List.map_nil, List.replicate_succ, List.replicate_zero, List.cons_append, List.nil_append, List.length_cons, List.length_nil, List.getElem?_cons_zero, List.getElem?_cons_succ, List.set_cons_zero, List.set_cons_succ, Option.join_some, Nat.reduceAdd, Nat.zero_add, Nat.reduceLeDiff, reduceCtorEq, dlst2, dlst4, dtup0, dtup1, dtup2, e0, e1, e2, e3, e4, e5, x_given]
theorem flds_NoEntry {o f : W} (ho : notSelf o = true) (hf : notSelf f = true) (M : Mm) : m_l_fields [.p (.exc "NoEntry" [("given", o)]), .p (.str "NoEntry")] M = some (.p (.tup [o]), M) := by
  have e0 : inU (.p (.str "NoEntry")) (.p (.lst [.str "TextError", .str "NoWay"])) M = some (.p (.bl false), M) := by kernel_rfl
  have e1 : Pz.eqU (.p (.str "NoEntry")) (.p (.str "InUse")) M = some (.p (.bl false), M) := by kernel_rfl
  have e2 : inU (.p (.str "NoEntry")) (.p (.lst [.str "TooLarge", .str "TooHeavy"])) M = some (.p (.bl false), M) := by kernel_rfl
  have e3 : Pz.eqU (.p (.str "NoEntry")) (.p (.str "NotUndoable")) M = some (.p (.bl false), M) := by kernel_rfl
  have e4 : Pz.eqU (.p (.str "NoEntry")) (.p (.str "Broken")) M = some (.p (.bl false), M) := by kernel_rfl
  have e5 : inU (.p (.str "NoEntry")) (.p (.lst [.str "", .str "DividedByZero", .str "Ended", .str "NothingToUndo"])) M = some (.p (.bl false), M) := by kernel_rfl
  have x_given : xfU excOk "given" (.p (.exc "NoEntry" [("given", o)])) M = some (.p o, M) := xf1 (by kernel_rfl) (by kernel_rfl) ho
  unfold m_l_fields
  simp only [mDef, mSeq, mAsg, mIf, mBin, mUn, mVar, mC, mCall, mCons, mNil, mDisp, gSb, mB, gNm, gTp, gTu, seqA_tup, seqA_kt, seqA_lst, seqA_frz, gMore, gNone, mRet, mRetN, mExpr, mNot, mAnd, mOr, mIfE, mAndV, mOrV, mNotV, mPar, mFor, mMe, mCm, mTru, isB, mNext, finN, Bool.not_true, Bool.not_false, Bool.false_eq_true, Bool.true_eq_false, if_true, if_false, ite_true, ite_false, Option.bind_some, Option.bind_none, Option.map_some, Option.map_none, List.map_cons, List.map_nil, List.replicate_succ, List.replicate_zero, List.cons_append, List.nil_append, List.length_cons, List.length_nil, List.getElem?_cons_zero, List.getElem?_cons_succ, List.set_cons_zero, List.set_cons_succ, Option.join_some, Nat.reduceAdd, Nat.zero_add, Nat.reduceLeDiff, reduceCtorEq, dlst2, dlst4, dtup0, dtup1, dtup2, e0, e1, e2, e3, e4, e5, x_given]
theorem flds_NotMade {o f : W} (ho : notSelf o = true) (hf : notSelf f = true) (M : Mm) : m_l_fields [.p (.exc "NotMade" [("given", o)]), .p (.str "NotMade")] M = some (.p (.tup [o]), M) := by
  have e0 : inU (.p (.str "NotMade")) (.p (.lst [.str "TextError", .str "NoWay"])) M = some (.p (.bl false), M) := by kernel_rfl
  have e1 : Pz.eqU (.p (.str "NotMade")) (.p (.str "InUse")) M = some (.p (.bl false), M) := by kernel_rfl
  have e2 : inU (.p (.str "NotMade")) (.p (.lst [.str "TooLarge", .str "TooHeavy"])) M = some (.p (.bl false), M) := by kernel_rfl
  have e3 : Pz.eqU (.p (.str "NotMade")) (.p (.str "NotUndoable")) M = some (.p (.bl false), M) := by kernel_rfl
  have e4 : Pz.eqU (.p (.str "NotMade")) (.p (.str "Broken")) M = some (.p (.bl false), M) := by kernel_rfl
  have e5 : inU (.p (.str "NotMade")) (.p (.lst [.str "", .str "DividedByZero", .str "Ended", .str "NothingToUndo"])) M = some (.p (.bl false), M) := by kernel_rfl
  have x_given : xfU excOk "given" (.p (.exc "NotMade" [("given", o)])) M = some (.p o, M) := xf1 (by kernel_rfl) (by kernel_rfl) ho
  unfold m_l_fields
  simp only [mDef, mSeq, mAsg, mIf, mBin, mUn, mVar, mC, mCall, mCons, mNil, mDisp, gSb, mB, gNm, gTp, gTu, seqA_tup, seqA_kt, seqA_lst, seqA_frz, gMore, gNone, mRet, mRetN, mExpr, mNot, mAnd, mOr, mIfE, mAndV, mOrV, mNotV, mPar, mFor, mMe, mCm, mTru, isB, mNext, finN, Bool.not_true, Bool.not_false, Bool.false_eq_true, Bool.true_eq_false, if_true, if_false, ite_true, ite_false, Option.bind_some, Option.bind_none, Option.map_some, Option.map_none, List.map_cons, List.map_nil, List.replicate_succ, List.replicate_zero, List.cons_append, List.nil_append, List.length_cons, List.length_nil, List.getElem?_cons_zero, List.getElem?_cons_succ, List.set_cons_zero, List.set_cons_succ, Option.join_some, Nat.reduceAdd, Nat.zero_add, Nat.reduceLeDiff, reduceCtorEq, dlst2, dlst4, dtup0, dtup1, dtup2, e0, e1, e2, e3, e4, e5, x_given]
theorem flds_DividedByZero {o f : W} (ho : notSelf o = true) (hf : notSelf f = true) (M : Mm) : m_l_fields [.p (.exc "DividedByZero" []), .p (.str "DividedByZero")] M = some (.p (.tup []), M) := by
  have e0 : inU (.p (.str "DividedByZero")) (.p (.lst [.str "TextError", .str "NoWay"])) M = some (.p (.bl false), M) := by kernel_rfl
  have e1 : Pz.eqU (.p (.str "DividedByZero")) (.p (.str "InUse")) M = some (.p (.bl false), M) := by kernel_rfl
  have e2 : inU (.p (.str "DividedByZero")) (.p (.lst [.str "TooLarge", .str "TooHeavy"])) M = some (.p (.bl false), M) := by kernel_rfl
  have e3 : Pz.eqU (.p (.str "DividedByZero")) (.p (.str "NotUndoable")) M = some (.p (.bl false), M) := by kernel_rfl
  have e4 : Pz.eqU (.p (.str "DividedByZero")) (.p (.str "Broken")) M = some (.p (.bl false), M) := by kernel_rfl
  have e5 : inU (.p (.str "DividedByZero")) (.p (.lst [.str "", .str "DividedByZero", .str "Ended", .str "NothingToUndo"])) M = some (.p (.bl true), M) := by kernel_rfl
  unfold m_l_fields
  simp only [mDef, mSeq, mAsg, mIf, mBin, mUn, mVar, mC, mCall, mCons, mNil, mDisp, gSb, mB, gNm, gTp, gTu, seqA_tup, seqA_kt, seqA_lst, seqA_frz, gMore, gNone, mRet, mRetN, mExpr, mNot, mAnd, mOr, mIfE, mAndV, mOrV, mNotV, mPar, mFor, mMe, mCm, mTru, isB, mNext, finN, Bool.not_true, Bool.not_false, Bool.false_eq_true, Bool.true_eq_false, if_true, if_false, ite_true, ite_false, Option.bind_some, Option.bind_none, Option.map_some, Option.map_none, List.map_cons, List.map_nil, List.replicate_succ, List.replicate_zero, List.cons_append, List.nil_append, List.length_cons, List.length_nil, List.getElem?_cons_zero, List.getElem?_cons_succ, List.set_cons_zero, List.set_cons_succ, Option.join_some, Nat.reduceAdd, Nat.zero_add, Nat.reduceLeDiff, reduceCtorEq, dlst2, dlst4, dtup0, dtup1, dtup2, e0, e1, e2, e3, e4, e5]
theorem flds_TooLarge {o f : W} (ho : notSelf o = true) (hf : notSelf f = true) (M : Mm) : m_l_fields [.p (.exc "TooLarge" [("limit", o)]), .p (.str "TooLarge")] M = some (.p (.tup [o]), M) := by
  have e0 : inU (.p (.str "TooLarge")) (.p (.lst [.str "TextError", .str "NoWay"])) M = some (.p (.bl false), M) := by kernel_rfl
  have e1 : Pz.eqU (.p (.str "TooLarge")) (.p (.str "InUse")) M = some (.p (.bl false), M) := by kernel_rfl
  have e2 : inU (.p (.str "TooLarge")) (.p (.lst [.str "TooLarge", .str "TooHeavy"])) M = some (.p (.bl true), M) := by kernel_rfl
  have x_limit : xfU excOk "limit" (.p (.exc "TooLarge" [("limit", o)])) M = some (.p o, M) := xf1 (by kernel_rfl) (by kernel_rfl) ho
  unfold m_l_fields
  simp only [mDef, mSeq, mAsg, mIf, mBin, mUn, mVar, mC, mCall, mCons, mNil, mDisp, gSb, mB, gNm, gTp, gTu, seqA_tup, seqA_kt, seqA_lst, seqA_frz, gMore, gNone, mRet, mRetN, mExpr, mNot, mAnd, mOr, mIfE, mAndV, mOrV, mNotV, mPar, mFor, mMe, mCm, mTru, isB, mNext, finN, Bool.not_true, Bool.not_false, Bool.false_eq_true, Bool.true_eq_false, if_true, if_false, ite_true, ite_false, Option.bind_some, Option.bind_none, Option.map_some, Option.map_none, List.map_cons, List.map_nil, List.replicate_succ, List.replicate_zero, List.cons_append, List.nil_append, List.length_cons, List.length_nil, List.getElem?_cons_zero, List.getElem?_cons_succ, List.set_cons_zero, List.set_cons_succ, Option.join_some, Nat.reduceAdd, Nat.zero_add, Nat.reduceLeDiff, reduceCtorEq, dlst2, dlst4, dtup0, dtup1, dtup2, e0, e1, e2, x_limit]
theorem flds_TooHeavy {o f : W} (ho : notSelf o = true) (hf : notSelf f = true) (M : Mm) : m_l_fields [.p (.exc "TooHeavy" [("limit", o)]), .p (.str "TooHeavy")] M = some (.p (.tup [o]), M) := by
  have e0 : inU (.p (.str "TooHeavy")) (.p (.lst [.str "TextError", .str "NoWay"])) M = some (.p (.bl false), M) := by kernel_rfl
  have e1 : Pz.eqU (.p (.str "TooHeavy")) (.p (.str "InUse")) M = some (.p (.bl false), M) := by kernel_rfl
  have e2 : inU (.p (.str "TooHeavy")) (.p (.lst [.str "TooLarge", .str "TooHeavy"])) M = some (.p (.bl true), M) := by kernel_rfl
  have x_limit : xfU excOk "limit" (.p (.exc "TooHeavy" [("limit", o)])) M = some (.p o, M) := xf1 (by kernel_rfl) (by kernel_rfl) ho
  unfold m_l_fields
  simp only [mDef, mSeq, mAsg, mIf, mBin, mUn, mVar, mC, mCall, mCons, mNil, mDisp, gSb, mB, gNm, gTp, gTu, seqA_tup, seqA_kt, seqA_lst, seqA_frz, gMore, gNone, mRet, mRetN, mExpr, mNot, mAnd, mOr, mIfE, mAndV, mOrV, mNotV, mPar, mFor, mMe, mCm, mTru, isB, mNext, finN, Bool.not_true, Bool.not_false, Bool.false_eq_true, Bool.true_eq_false, if_true, if_false, ite_true, ite_false, Option.bind_some, Option.bind_none, Option.map_some, Option.map_none, List.map_cons, List.map_nil, List.replicate_succ, List.replicate_zero, List.cons_append, List.nil_append, List.length_cons, List.length_nil, List.getElem?_cons_zero, List.getElem?_cons_succ, List.set_cons_zero, List.set_cons_succ, Option.join_some, Nat.reduceAdd, Nat.zero_add, Nat.reduceLeDiff, reduceCtorEq, dlst2, dlst4, dtup0, dtup1, dtup2, e0, e1, e2, x_limit]
theorem flds_NotUndoable {o f : W} (ho : notSelf o = true) (hf : notSelf f = true) (M : Mm) : m_l_fields [.p (.exc "NotUndoable" [("place", f), ("reason", o)]), .p (.str "NotUndoable")] M = some (.p (.tup [o, f]), M) := by
  have e0 : inU (.p (.str "NotUndoable")) (.p (.lst [.str "TextError", .str "NoWay"])) M = some (.p (.bl false), M) := by kernel_rfl
  have e1 : Pz.eqU (.p (.str "NotUndoable")) (.p (.str "InUse")) M = some (.p (.bl false), M) := by kernel_rfl
  have e2 : inU (.p (.str "NotUndoable")) (.p (.lst [.str "TooLarge", .str "TooHeavy"])) M = some (.p (.bl false), M) := by kernel_rfl
  have e3 : Pz.eqU (.p (.str "NotUndoable")) (.p (.str "NotUndoable")) M = some (.p (.bl true), M) := by kernel_rfl
  have x_reason : xfU excOk "reason" (.p (.exc "NotUndoable" [("place", f), ("reason", o)])) M = some (.p o, M) := xf1 (by kernel_rfl) (by kernel_rfl) ho
  have x_place : xfU excOk "place" (.p (.exc "NotUndoable" [("place", f), ("reason", o)])) M = some (.p f, M) := xf1 (by kernel_rfl) (by kernel_rfl) hf
  unfold m_l_fields
  simp only [mDef, mSeq, mAsg, mIf, mBin, mUn, mVar, mC, mCall, mCons, mNil, mDisp, gSb, mB, gNm, gTp, gTu, seqA_tup, seqA_kt, seqA_lst, seqA_frz, gMore, gNone, mRet, mRetN, mExpr, mNot, mAnd, mOr, mIfE, mAndV, mOrV, mNotV, mPar, mFor, mMe, mCm, mTru, isB, mNext, finN, Bool.not_true, Bool.not_false, Bool.false_eq_true, Bool.true_eq_false, if_true, if_false, ite_true, ite_false, Option.bind_some, Option.bind_none, Option.map_some, Option.map_none, List.map_cons, List.map_nil, List.replicate_succ, List.replicate_zero, List.cons_append, List.nil_append, List.length_cons, List.length_nil, List.getElem?_cons_zero, List.getElem?_cons_succ, List.set_cons_zero, List.set_cons_succ, Option.join_some, Nat.reduceAdd, Nat.zero_add, Nat.reduceLeDiff, reduceCtorEq, dlst2, dlst4, dtup0, dtup1, dtup2, e0, e1, e2, e3, x_reason, x_place]
theorem flds_NoWay {o f : W} (ho : notSelf o = true) (hf : notSelf f = true) (M : Mm) : m_l_fields [.p (.exc "NoWay" [("place", o)]), .p (.str "NoWay")] M = some (.p (.tup [o]), M) := by
  have e0 : inU (.p (.str "NoWay")) (.p (.lst [.str "TextError", .str "NoWay"])) M = some (.p (.bl true), M) := by kernel_rfl
  have x_place : xfU excOk "place" (.p (.exc "NoWay" [("place", o)])) M = some (.p o, M) := xf1 (by kernel_rfl) (by kernel_rfl) ho
  unfold m_l_fields
  simp only [mDef, mSeq, mAsg, mIf, mBin, mUn, mVar, mC, mCall, mCons, mNil, mDisp, gSb, mB, gNm, gTp, gTu, seqA_tup, seqA_kt, seqA_lst, seqA_frz, gMore, gNone, mRet, mRetN, mExpr, mNot, mAnd, mOr, mIfE, mAndV, mOrV, mNotV, mPar, mFor, mMe, mCm, mTru, isB, mNext, finN, Bool.not_true, Bool.not_false, Bool.false_eq_true, Bool.true_eq_false, if_true, if_false, ite_true, ite_false, Option.bind_some, Option.bind_none, Option.map_some, Option.map_none, List.map_cons, List.map_nil, List.replicate_succ, List.replicate_zero, List.cons_append, List.nil_append, List.length_cons, List.length_nil, List.getElem?_cons_zero, List.getElem?_cons_succ, List.set_cons_zero, List.set_cons_succ, Option.join_some, Nat.reduceAdd, Nat.zero_add, Nat.reduceLeDiff, reduceCtorEq, dlst2, dlst4, dtup0, dtup1, dtup2, e0, x_place]
theorem flds_Ended {o f : W} (ho : notSelf o = true) (hf : notSelf f = true) (M : Mm) : m_l_fields [.p (.exc "Ended" []), .p (.str "Ended")] M = some (.p (.tup []), M) := by
  have e0 : inU (.p (.str "Ended")) (.p (.lst [.str "TextError", .str "NoWay"])) M = some (.p (.bl false), M) := by kernel_rfl
  have e1 : Pz.eqU (.p (.str "Ended")) (.p (.str "InUse")) M = some (.p (.bl false), M) := by kernel_rfl
  have e2 : inU (.p (.str "Ended")) (.p (.lst [.str "TooLarge", .str "TooHeavy"])) M = some (.p (.bl false), M) := by kernel_rfl
  have e3 : Pz.eqU (.p (.str "Ended")) (.p (.str "NotUndoable")) M = some (.p (.bl false), M) := by kernel_rfl
  have e4 : Pz.eqU (.p (.str "Ended")) (.p (.str "Broken")) M = some (.p (.bl false), M) := by kernel_rfl
  have e5 : inU (.p (.str "Ended")) (.p (.lst [.str "", .str "DividedByZero", .str "Ended", .str "NothingToUndo"])) M = some (.p (.bl true), M) := by kernel_rfl
  unfold m_l_fields
  simp only [mDef, mSeq, mAsg, mIf, mBin, mUn, mVar, mC, mCall, mCons, mNil, mDisp, gSb, mB, gNm, gTp, gTu, seqA_tup, seqA_kt, seqA_lst, seqA_frz, gMore, gNone, mRet, mRetN, mExpr, mNot, mAnd, mOr, mIfE, mAndV, mOrV, mNotV, mPar, mFor, mMe, mCm, mTru, isB, mNext, finN, Bool.not_true, Bool.not_false, Bool.false_eq_true, Bool.true_eq_false, if_true, if_false, ite_true, ite_false, Option.bind_some, Option.bind_none, Option.map_some, Option.map_none, List.map_cons, List.map_nil, List.replicate_succ, List.replicate_zero, List.cons_append, List.nil_append, List.length_cons, List.length_nil, List.getElem?_cons_zero, List.getElem?_cons_succ, List.set_cons_zero, List.set_cons_succ, Option.join_some, Nat.reduceAdd, Nat.zero_add, Nat.reduceLeDiff, reduceCtorEq, dlst2, dlst4, dtup0, dtup1, dtup2, e0, e1, e2, e3, e4, e5]
theorem flds_NothingToUndo {o f : W} (ho : notSelf o = true) (hf : notSelf f = true) (M : Mm) : m_l_fields [.p (.exc "NothingToUndo" []), .p (.str "NothingToUndo")] M = some (.p (.tup []), M) := by
  have e0 : inU (.p (.str "NothingToUndo")) (.p (.lst [.str "TextError", .str "NoWay"])) M = some (.p (.bl false), M) := by kernel_rfl
  have e1 : Pz.eqU (.p (.str "NothingToUndo")) (.p (.str "InUse")) M = some (.p (.bl false), M) := by kernel_rfl
  have e2 : inU (.p (.str "NothingToUndo")) (.p (.lst [.str "TooLarge", .str "TooHeavy"])) M = some (.p (.bl false), M) := by kernel_rfl
  have e3 : Pz.eqU (.p (.str "NothingToUndo")) (.p (.str "NotUndoable")) M = some (.p (.bl false), M) := by kernel_rfl
  have e4 : Pz.eqU (.p (.str "NothingToUndo")) (.p (.str "Broken")) M = some (.p (.bl false), M) := by kernel_rfl
  have e5 : inU (.p (.str "NothingToUndo")) (.p (.lst [.str "", .str "DividedByZero", .str "Ended", .str "NothingToUndo"])) M = some (.p (.bl true), M) := by kernel_rfl
  unfold m_l_fields
  simp only [mDef, mSeq, mAsg, mIf, mBin, mUn, mVar, mC, mCall, mCons, mNil, mDisp, gSb, mB, gNm, gTp, gTu, seqA_tup, seqA_kt, seqA_lst, seqA_frz, gMore, gNone, mRet, mRetN, mExpr, mNot, mAnd, mOr, mIfE, mAndV, mOrV, mNotV, mPar, mFor, mMe, mCm, mTru, isB, mNext, finN, Bool.not_true, Bool.not_false, Bool.false_eq_true, Bool.true_eq_false, if_true, if_false, ite_true, ite_false, Option.bind_some, Option.bind_none, Option.map_some, Option.map_none, List.map_cons, List.map_nil, List.replicate_succ, List.replicate_zero, List.cons_append, List.nil_append, List.length_cons, List.length_nil, List.getElem?_cons_zero, List.getElem?_cons_succ, List.set_cons_zero, List.set_cons_succ, Option.join_some, Nat.reduceAdd, Nat.zero_add, Nat.reduceLeDiff, reduceCtorEq, dlst2, dlst4, dtup0, dtup1, dtup2, e0, e1, e2, e3, e4, e5]
theorem flds_Broken {o f : W} (ho : notSelf o = true) (hf : notSelf f = true) (M : Mm) : m_l_fields [.p (.exc "Broken" [("shown", f), ("index", o)]), .p (.str "Broken")] M = some (.p (.tup [o, f]), M) := by
  have e0 : inU (.p (.str "Broken")) (.p (.lst [.str "TextError", .str "NoWay"])) M = some (.p (.bl false), M) := by kernel_rfl
  have e1 : Pz.eqU (.p (.str "Broken")) (.p (.str "InUse")) M = some (.p (.bl false), M) := by kernel_rfl
  have e2 : inU (.p (.str "Broken")) (.p (.lst [.str "TooLarge", .str "TooHeavy"])) M = some (.p (.bl false), M) := by kernel_rfl
  have e3 : Pz.eqU (.p (.str "Broken")) (.p (.str "NotUndoable")) M = some (.p (.bl false), M) := by kernel_rfl
  have e4 : Pz.eqU (.p (.str "Broken")) (.p (.str "Broken")) M = some (.p (.bl true), M) := by kernel_rfl
  have x_index : xfU excOk "index" (.p (.exc "Broken" [("shown", f), ("index", o)])) M = some (.p o, M) := xf1 (by kernel_rfl) (by kernel_rfl) ho
  have x_shown : xfU excOk "shown" (.p (.exc "Broken" [("shown", f), ("index", o)])) M = some (.p f, M) := xf1 (by kernel_rfl) (by kernel_rfl) hf
  unfold m_l_fields
  simp only [mDef, mSeq, mAsg, mIf, mBin, mUn, mVar, mC, mCall, mCons, mNil, mDisp, gSb, mB, gNm, gTp, gTu, seqA_tup, seqA_kt, seqA_lst, seqA_frz, gMore, gNone, mRet, mRetN, mExpr, mNot, mAnd, mOr, mIfE, mAndV, mOrV, mNotV, mPar, mFor, mMe, mCm, mTru, isB, mNext, finN, Bool.not_true, Bool.not_false, Bool.false_eq_true, Bool.true_eq_false, if_true, if_false, ite_true, ite_false, Option.bind_some, Option.bind_none, Option.map_some, Option.map_none, List.map_cons, List.map_nil, List.replicate_succ, List.replicate_zero, List.cons_append, List.nil_append, List.length_cons, List.length_nil, List.getElem?_cons_zero, List.getElem?_cons_succ, List.set_cons_zero, List.set_cons_succ, Option.join_some, Nat.reduceAdd, Nat.zero_add, Nat.reduceLeDiff, reduceCtorEq, dlst2, dlst4, dtup0, dtup1, dtup2, e0, e1, e2, e3, e4, x_index, x_shown]
end Q01
/-! ### k01: the law -/
namespace Q01
open PySem PySem.Spec PyProof.Rows L2 He Rt Pz
theorem e_pick {ws : List W} {d : Int} (h0 : 0 ≤ d) (h1 : d < ws.length) : ∃ w ∈ ws, ∀ M, ixU (.p (.lst ws)) (.p (.int d)) M = some (.p w, M) := by
  obtain ⟨k, rfl⟩ := Int.eq_ofNat_of_zero_le h0
  have hk : k < ws.length := by omega
  refine ⟨ws[k], List.getElem_mem _, fun M => ?_⟩
  show (atI ws (k : Int)).map _ = _
  rw [atI_nat (j := k) (List.getElem?_eq_getElem hk)]
  rfl
section
variable {o f : W} (ho : o ∈ oddL) (hf : f ∈ oddL) {x0 x7 : Option U}
include ho hf
theorem step_0 {M : Mm} {x6 : Option U} : body2 [x0, some (.p o), some (.p f), some (.p (.lst (namesL.map .str))), some (.p (.lst (excL o f))), some (.p (.int 0)), x6, x7] M = some (.nx, [x0, some (.p o), some (.p f), some (.p (.lst (namesL.map .str))), some (.p (.lst (excL o f))), some (.p (.int 0)), some (.p (.tup [o])), x7], M) := by
  have i1 : ixU (.p (.lst (namesL.map .str))) (.p (.int 0)) M = some (.p (.str "InvalidNumber"), M) := by kernel_rfl
  have i2 : ixU (.p (.lst (excL o f))) (.p (.int 0)) M = some (.p (.exc "InvalidNumber" [("given", o)]), M) := by kernel_rfl
  have n1 : inU (.p (.str "InvalidNumber")) (.p (.lst [.str "NotUndoable", .str "Broken"])) M = some (.p (.bl false), M) := by kernel_rfl
  have n2 : inU (.p (.str "InvalidNumber")) (.p (.lst [.str "DividedByZero", .str "Ended", .str "NothingToUndo"])) M = some (.p (.bl false), M) := by kernel_rfl
  unfold body2
  simp only [mDef, mSeq, mAsg, mIf, mBin, mUn, mVar, mC, mCall, mCons, mNil, mDisp, gSb, mB, gNm, gTp, gTu, seqA_tup, seqA_kt, seqA_lst, seqA_frz, gMore, gNone, mRet, mRetN, mExpr, mNot, mAnd, mOr, mIfE, mAndV, mOrV, mNotV, mPar, mFor, mMe, mCm, mTru, isB, mNext, finN, Bool.not_true, Bool.not_false, Bool.false_eq_true, Bool.true_eq_false, if_true, if_false, ite_true, ite_false, Option.bind_some, Option.bind_none, Option.map_some, Option.map_none, List.map_cons, List.map_nil, List.replicate_succ, List.replicate_zero, List.cons_append, List.nil_append, List.length_cons, List.length_nil, List.getElem?_cons_zero, List.getElem?_cons_succ, List.set_cons_zero, List.set_cons_succ, Option.join_some, Nat.reduceAdd, Nat.zero_add, Nat.reduceLeDiff, reduceCtorEq, i1, i2, n1, n2, dlst2, dlst3, dtup0, dtup1, dtup2, flds_InvalidNumber (self_odd o ho) (self_odd f hf), rep1 o ho, ne_s, decide_true]
theorem step_1 {M : Mm} {x6 : Option U} : body2 [x0, some (.p o), some (.p f), some (.p (.lst (namesL.map .str))), some (.p (.lst (excL o f))), some (.p (.int 1)), x6, x7] M = some (.nx, [x0, some (.p o), some (.p f), some (.p (.lst (namesL.map .str))), some (.p (.lst (excL o f))), some (.p (.int 1)), some (.p (.tup [o])), x7], M) := by
  have i1 : ixU (.p (.lst (namesL.map .str))) (.p (.int 1)) M = some (.p (.str "InvalidText"), M) := by kernel_rfl
  have i2 : ixU (.p (.lst (excL o f))) (.p (.int 1)) M = some (.p (.exc "InvalidText" [("given", o)]), M) := by kernel_rfl
  have n1 : inU (.p (.str "InvalidText")) (.p (.lst [.str "NotUndoable", .str "Broken"])) M = some (.p (.bl false), M) := by kernel_rfl
  have n2 : inU (.p (.str "InvalidText")) (.p (.lst [.str "DividedByZero", .str "Ended", .str "NothingToUndo"])) M = some (.p (.bl false), M) := by kernel_rfl
  unfold body2
  simp only [mDef, mSeq, mAsg, mIf, mBin, mUn, mVar, mC, mCall, mCons, mNil, mDisp, gSb, mB, gNm, gTp, gTu, seqA_tup, seqA_kt, seqA_lst, seqA_frz, gMore, gNone, mRet, mRetN, mExpr, mNot, mAnd, mOr, mIfE, mAndV, mOrV, mNotV, mPar, mFor, mMe, mCm, mTru, isB, mNext, finN, Bool.not_true, Bool.not_false, Bool.false_eq_true, Bool.true_eq_false, if_true, if_false, ite_true, ite_false, Option.bind_some, Option.bind_none, Option.map_some, Option.map_none, List.map_cons, List.map_nil, List.replicate_succ, List.replicate_zero, List.cons_append, List.nil_append, List.length_cons, List.length_nil, List.getElem?_cons_zero, List.getElem?_cons_succ, List.set_cons_zero, List.set_cons_succ, Option.join_some, Nat.reduceAdd, Nat.zero_add, Nat.reduceLeDiff, reduceCtorEq, i1, i2, n1, n2, dlst2, dlst3, dtup0, dtup1, dtup2, flds_InvalidText (self_odd o ho) (self_odd f hf), rep1 o ho, ne_s, decide_true]
theorem step_2 {M : Mm} {x6 : Option U} : body2 [x0, some (.p o), some (.p f), some (.p (.lst (namesL.map .str))), some (.p (.lst (excL o f))), some (.p (.int 2)), x6, x7] M = some (.nx, [x0, some (.p o), some (.p f), some (.p (.lst (namesL.map .str))), some (.p (.lst (excL o f))), some (.p (.int 2)), some (.p (.tup [o])), x7], M) := by
  have i1 : ixU (.p (.lst (namesL.map .str))) (.p (.int 2)) M = some (.p (.str "InvalidCount"), M) := by kernel_rfl
  have i2 : ixU (.p (.lst (excL o f))) (.p (.int 2)) M = some (.p (.exc "InvalidCount" [("given", o)]), M) := by kernel_rfl
  have n1 : inU (.p (.str "InvalidCount")) (.p (.lst [.str "NotUndoable", .str "Broken"])) M = some (.p (.bl false), M) := by kernel_rfl
  have n2 : inU (.p (.str "InvalidCount")) (.p (.lst [.str "DividedByZero", .str "Ended", .str "NothingToUndo"])) M = some (.p (.bl false), M) := by kernel_rfl
  unfold body2
  simp only [mDef, mSeq, mAsg, mIf, mBin, mUn, mVar, mC, mCall, mCons, mNil, mDisp, gSb, mB, gNm, gTp, gTu, seqA_tup, seqA_kt, seqA_lst, seqA_frz, gMore, gNone, mRet, mRetN, mExpr, mNot, mAnd, mOr, mIfE, mAndV, mOrV, mNotV, mPar, mFor, mMe, mCm, mTru, isB, mNext, finN, Bool.not_true, Bool.not_false, Bool.false_eq_true, Bool.true_eq_false, if_true, if_false, ite_true, ite_false, Option.bind_some, Option.bind_none, Option.map_some, Option.map_none, List.map_cons, List.map_nil, List.replicate_succ, List.replicate_zero, List.cons_append, List.nil_append, List.length_cons, List.length_nil, List.getElem?_cons_zero, List.getElem?_cons_succ, List.set_cons_zero, List.set_cons_succ, Option.join_some, Nat.reduceAdd, Nat.zero_add, Nat.reduceLeDiff, reduceCtorEq, i1, i2, n1, n2, dlst2, dlst3, dtup0, dtup1, dtup2, flds_InvalidCount (self_odd o ho) (self_odd f hf), rep1 o ho, ne_s, decide_true]
theorem step_3 {M : Mm} {x6 : Option U} : body2 [x0, some (.p o), some (.p f), some (.p (.lst (namesL.map .str))), some (.p (.lst (excL o f))), some (.p (.int 3)), x6, x7] M = some (.nx, [x0, some (.p o), some (.p f), some (.p (.lst (namesL.map .str))), some (.p (.lst (excL o f))), some (.p (.int 3)), some (.p (.tup [o])), x7], M) := by
  have i1 : ixU (.p (.lst (namesL.map .str))) (.p (.int 3)) M = some (.p (.str "InvalidName"), M) := by kernel_rfl
  have i2 : ixU (.p (.lst (excL o f))) (.p (.int 3)) M = some (.p (.exc "InvalidName" [("given", o)]), M) := by kernel_rfl
  have n1 : inU (.p (.str "InvalidName")) (.p (.lst [.str "NotUndoable", .str "Broken"])) M = some (.p (.bl false), M) := by kernel_rfl
  have n2 : inU (.p (.str "InvalidName")) (.p (.lst [.str "DividedByZero", .str "Ended", .str "NothingToUndo"])) M = some (.p (.bl false), M) := by kernel_rfl
  unfold body2
  simp only [mDef, mSeq, mAsg, mIf, mBin, mUn, mVar, mC, mCall, mCons, mNil, mDisp, gSb, mB, gNm, gTp, gTu, seqA_tup, seqA_kt, seqA_lst, seqA_frz, gMore, gNone, mRet, mRetN, mExpr, mNot, mAnd, mOr, mIfE, mAndV, mOrV, mNotV, mPar, mFor, mMe, mCm, mTru, isB, mNext, finN, Bool.not_true, Bool.not_false, Bool.false_eq_true, Bool.true_eq_false, if_true, if_false, ite_true, ite_false, Option.bind_some, Option.bind_none, Option.map_some, Option.map_none, List.map_cons, List.map_nil, List.replicate_succ, List.replicate_zero, List.cons_append, List.nil_append, List.length_cons, List.length_nil, List.getElem?_cons_zero, List.getElem?_cons_succ, List.set_cons_zero, List.set_cons_succ, Option.join_some, Nat.reduceAdd, Nat.zero_add, Nat.reduceLeDiff, reduceCtorEq, i1, i2, n1, n2, dlst2, dlst3, dtup0, dtup1, dtup2, flds_InvalidName (self_odd o ho) (self_odd f hf), rep1 o ho, ne_s, decide_true]
theorem step_4 {M : Mm} {x6 : Option U} : body2 [x0, some (.p o), some (.p f), some (.p (.lst (namesL.map .str))), some (.p (.lst (excL o f))), some (.p (.int 4)), x6, x7] M = some (.nx, [x0, some (.p o), some (.p f), some (.p (.lst (namesL.map .str))), some (.p (.lst (excL o f))), some (.p (.int 4)), some (.p (.tup [o])), x7], M) := by
  have i1 : ixU (.p (.lst (namesL.map .str))) (.p (.int 4)) M = some (.p (.str "InvalidTruth"), M) := by kernel_rfl
  have i2 : ixU (.p (.lst (excL o f))) (.p (.int 4)) M = some (.p (.exc "InvalidTruth" [("given", o)]), M) := by kernel_rfl
  have n1 : inU (.p (.str "InvalidTruth")) (.p (.lst [.str "NotUndoable", .str "Broken"])) M = some (.p (.bl false), M) := by kernel_rfl
  have n2 : inU (.p (.str "InvalidTruth")) (.p (.lst [.str "DividedByZero", .str "Ended", .str "NothingToUndo"])) M = some (.p (.bl false), M) := by kernel_rfl
  unfold body2
  simp only [mDef, mSeq, mAsg, mIf, mBin, mUn, mVar, mC, mCall, mCons, mNil, mDisp, gSb, mB, gNm, gTp, gTu, seqA_tup, seqA_kt, seqA_lst, seqA_frz, gMore, gNone, mRet, mRetN, mExpr, mNot, mAnd, mOr, mIfE, mAndV, mOrV, mNotV, mPar, mFor, mMe, mCm, mTru, isB, mNext, finN, Bool.not_true, Bool.not_false, Bool.false_eq_true, Bool.true_eq_false, if_true, if_false, ite_true, ite_false, Option.bind_some, Option.bind_none, Option.map_some, Option.map_none, List.map_cons, List.map_nil, List.replicate_succ, List.replicate_zero, List.cons_append, List.nil_append, List.length_cons, List.length_nil, List.getElem?_cons_zero, List.getElem?_cons_succ, List.set_cons_zero, List.set_cons_succ, Option.join_some, Nat.reduceAdd, Nat.zero_add, Nat.reduceLeDiff, reduceCtorEq, i1, i2, n1, n2, dlst2, dlst3, dtup0, dtup1, dtup2, flds_InvalidTruth (self_odd o ho) (self_odd f hf), rep1 o ho, ne_s, decide_true]
theorem step_5 {M : Mm} {x6 : Option U} : body2 [x0, some (.p o), some (.p f), some (.p (.lst (namesL.map .str))), some (.p (.lst (excL o f))), some (.p (.int 5)), x6, x7] M = some (.nx, [x0, some (.p o), some (.p f), some (.p (.lst (namesL.map .str))), some (.p (.lst (excL o f))), some (.p (.int 5)), some (.p (.tup [o])), x7], M) := by
  have i1 : ixU (.p (.lst (namesL.map .str))) (.p (.int 5)) M = some (.p (.str "InvalidEntries"), M) := by kernel_rfl
  have i2 : ixU (.p (.lst (excL o f))) (.p (.int 5)) M = some (.p (.exc "InvalidEntries" [("given", o)]), M) := by kernel_rfl
  have n1 : inU (.p (.str "InvalidEntries")) (.p (.lst [.str "NotUndoable", .str "Broken"])) M = some (.p (.bl false), M) := by kernel_rfl
  have n2 : inU (.p (.str "InvalidEntries")) (.p (.lst [.str "DividedByZero", .str "Ended", .str "NothingToUndo"])) M = some (.p (.bl false), M) := by kernel_rfl
  unfold body2
  simp only [mDef, mSeq, mAsg, mIf, mBin, mUn, mVar, mC, mCall, mCons, mNil, mDisp, gSb, mB, gNm, gTp, gTu, seqA_tup, seqA_kt, seqA_lst, seqA_frz, gMore, gNone, mRet, mRetN, mExpr, mNot, mAnd, mOr, mIfE, mAndV, mOrV, mNotV, mPar, mFor, mMe, mCm, mTru, isB, mNext, finN, Bool.not_true, Bool.not_false, Bool.false_eq_true, Bool.true_eq_false, if_true, if_false, ite_true, ite_false, Option.bind_some, Option.bind_none, Option.map_some, Option.map_none, List.map_cons, List.map_nil, List.replicate_succ, List.replicate_zero, List.cons_append, List.nil_append, List.length_cons, List.length_nil, List.getElem?_cons_zero, List.getElem?_cons_succ, List.set_cons_zero, List.set_cons_succ, Option.join_some, Nat.reduceAdd, Nat.zero_add, Nat.reduceLeDiff, reduceCtorEq, i1, i2, n1, n2, dlst2, dlst3, dtup0, dtup1, dtup2, flds_InvalidEntries (self_odd o ho) (self_odd f hf), rep1 o ho, ne_s, decide_true]
theorem step_6 {M : Mm} {x6 : Option U} : body2 [x0, some (.p o), some (.p f), some (.p (.lst (namesL.map .str))), some (.p (.lst (excL o f))), some (.p (.int 6)), x6, x7] M = some (.nx, [x0, some (.p o), some (.p f), some (.p (.lst (namesL.map .str))), some (.p (.lst (excL o f))), some (.p (.int 6)), some (.p (.tup [o])), x7], M) := by
  have i1 : ixU (.p (.lst (namesL.map .str))) (.p (.int 6)) M = some (.p (.str "InvalidData"), M) := by kernel_rfl
  have i2 : ixU (.p (.lst (excL o f))) (.p (.int 6)) M = some (.p (.exc "InvalidData" [("given", o)]), M) := by kernel_rfl
  have n1 : inU (.p (.str "InvalidData")) (.p (.lst [.str "NotUndoable", .str "Broken"])) M = some (.p (.bl false), M) := by kernel_rfl
  have n2 : inU (.p (.str "InvalidData")) (.p (.lst [.str "DividedByZero", .str "Ended", .str "NothingToUndo"])) M = some (.p (.bl false), M) := by kernel_rfl
  unfold body2
  simp only [mDef, mSeq, mAsg, mIf, mBin, mUn, mVar, mC, mCall, mCons, mNil, mDisp, gSb, mB, gNm, gTp, gTu, seqA_tup, seqA_kt, seqA_lst, seqA_frz, gMore, gNone, mRet, mRetN, mExpr, mNot, mAnd, mOr, mIfE, mAndV, mOrV, mNotV, mPar, mFor, mMe, mCm, mTru, isB, mNext, finN, Bool.not_true, Bool.not_false, Bool.false_eq_true, Bool.true_eq_false, if_true, if_false, ite_true, ite_false, Option.bind_some, Option.bind_none, Option.map_some, Option.map_none, List.map_cons, List.map_nil, List.replicate_succ, List.replicate_zero, List.cons_append, List.nil_append, List.length_cons, List.length_nil, List.getElem?_cons_zero, List.getElem?_cons_succ, List.set_cons_zero, List.set_cons_succ, Option.join_some, Nat.reduceAdd, Nat.zero_add, Nat.reduceLeDiff, reduceCtorEq, i1, i2, n1, n2, dlst2, dlst3, dtup0, dtup1, dtup2, flds_InvalidData (self_odd o ho) (self_odd f hf), rep1 o ho, ne_s, decide_true]
theorem step_7 {M : Mm} {x6 : Option U} : body2 [x0, some (.p o), some (.p f), some (.p (.lst (namesL.map .str))), some (.p (.lst (excL o f))), some (.p (.int 7)), x6, x7] M = some (.nx, [x0, some (.p o), some (.p f), some (.p (.lst (namesL.map .str))), some (.p (.lst (excL o f))), some (.p (.int 7)), some (.p (.tup [o])), x7], M) := by
  have i1 : ixU (.p (.lst (namesL.map .str))) (.p (.int 7)) M = some (.p (.str "InvalidLength"), M) := by kernel_rfl
  have i2 : ixU (.p (.lst (excL o f))) (.p (.int 7)) M = some (.p (.exc "InvalidLength" [("given", o)]), M) := by kernel_rfl
  have n1 : inU (.p (.str "InvalidLength")) (.p (.lst [.str "NotUndoable", .str "Broken"])) M = some (.p (.bl false), M) := by kernel_rfl
  have n2 : inU (.p (.str "InvalidLength")) (.p (.lst [.str "DividedByZero", .str "Ended", .str "NothingToUndo"])) M = some (.p (.bl false), M) := by kernel_rfl
  unfold body2
  simp only [mDef, mSeq, mAsg, mIf, mBin, mUn, mVar, mC, mCall, mCons, mNil, mDisp, gSb, mB, gNm, gTp, gTu, seqA_tup, seqA_kt, seqA_lst, seqA_frz, gMore, gNone, mRet, mRetN, mExpr, mNot, mAnd, mOr, mIfE, mAndV, mOrV, mNotV, mPar, mFor, mMe, mCm, mTru, isB, mNext, finN, Bool.not_true, Bool.not_false, Bool.false_eq_true, Bool.true_eq_false, if_true, if_false, ite_true, ite_false, Option.bind_some, Option.bind_none, Option.map_some, Option.map_none, List.map_cons, List.map_nil, List.replicate_succ, List.replicate_zero, List.cons_append, List.nil_append, List.length_cons, List.length_nil, List.getElem?_cons_zero, List.getElem?_cons_succ, List.set_cons_zero, List.set_cons_succ, Option.join_some, Nat.reduceAdd, Nat.zero_add, Nat.reduceLeDiff, reduceCtorEq, i1, i2, n1, n2, dlst2, dlst3, dtup0, dtup1, dtup2, flds_InvalidLength (self_odd o ho) (self_odd f hf), rep1 o ho, ne_s, decide_true]
theorem step_8 {M : Mm} {x6 : Option U} : body2 [x0, some (.p o), some (.p f), some (.p (.lst (namesL.map .str))), some (.p (.lst (excL o f))), some (.p (.int 8)), x6, x7] M = some (.nx, [x0, some (.p o), some (.p f), some (.p (.lst (namesL.map .str))), some (.p (.lst (excL o f))), some (.p (.int 8)), some (.p (.tup [o])), x7], M) := by
  have i1 : ixU (.p (.lst (namesL.map .str))) (.p (.int 8)) M = some (.p (.str "InvalidPath"), M) := by kernel_rfl
  have i2 : ixU (.p (.lst (excL o f))) (.p (.int 8)) M = some (.p (.exc "InvalidPath" [("given", o)]), M) := by kernel_rfl
  have n1 : inU (.p (.str "InvalidPath")) (.p (.lst [.str "NotUndoable", .str "Broken"])) M = some (.p (.bl false), M) := by kernel_rfl
  have n2 : inU (.p (.str "InvalidPath")) (.p (.lst [.str "DividedByZero", .str "Ended", .str "NothingToUndo"])) M = some (.p (.bl false), M) := by kernel_rfl
  unfold body2
  simp only [mDef, mSeq, mAsg, mIf, mBin, mUn, mVar, mC, mCall, mCons, mNil, mDisp, gSb, mB, gNm, gTp, gTu, seqA_tup, seqA_kt, seqA_lst, seqA_frz, gMore, gNone, mRet, mRetN, mExpr, mNot, mAnd, mOr, mIfE, mAndV, mOrV, mNotV, mPar, mFor, mMe, mCm, mTru, isB, mNext, finN, Bool.not_true, Bool.not_false, Bool.false_eq_true, Bool.true_eq_false, if_true, if_false, ite_true, ite_false, Option.bind_some, Option.bind_none, Option.map_some, Option.map_none, List.map_cons, List.map_nil, List.replicate_succ, List.replicate_zero, List.cons_append, List.nil_append, List.length_cons, List.length_nil, List.getElem?_cons_zero, List.getElem?_cons_succ, List.set_cons_zero, List.set_cons_succ, Option.join_some, Nat.reduceAdd, Nat.zero_add, Nat.reduceLeDiff, reduceCtorEq, i1, i2, n1, n2, dlst2, dlst3, dtup0, dtup1, dtup2, flds_InvalidPath (self_odd o ho) (self_odd f hf), rep1 o ho, ne_s, decide_true]
theorem step_9 {M : Mm} {x6 : Option U} : body2 [x0, some (.p o), some (.p f), some (.p (.lst (namesL.map .str))), some (.p (.lst (excL o f))), some (.p (.int 9)), x6, x7] M = some (.nx, [x0, some (.p o), some (.p f), some (.p (.lst (namesL.map .str))), some (.p (.lst (excL o f))), some (.p (.int 9)), some (.p (.tup [o])), x7], M) := by
  have i1 : ixU (.p (.lst (namesL.map .str))) (.p (.int 9)) M = some (.p (.str "InvalidClaim"), M) := by kernel_rfl
  have i2 : ixU (.p (.lst (excL o f))) (.p (.int 9)) M = some (.p (.exc "InvalidClaim" [("given", o)]), M) := by kernel_rfl
  have n1 : inU (.p (.str "InvalidClaim")) (.p (.lst [.str "NotUndoable", .str "Broken"])) M = some (.p (.bl false), M) := by kernel_rfl
  have n2 : inU (.p (.str "InvalidClaim")) (.p (.lst [.str "DividedByZero", .str "Ended", .str "NothingToUndo"])) M = some (.p (.bl false), M) := by kernel_rfl
  unfold body2
  simp only [mDef, mSeq, mAsg, mIf, mBin, mUn, mVar, mC, mCall, mCons, mNil, mDisp, gSb, mB, gNm, gTp, gTu, seqA_tup, seqA_kt, seqA_lst, seqA_frz, gMore, gNone, mRet, mRetN, mExpr, mNot, mAnd, mOr, mIfE, mAndV, mOrV, mNotV, mPar, mFor, mMe, mCm, mTru, isB, mNext, finN, Bool.not_true, Bool.not_false, Bool.false_eq_true, Bool.true_eq_false, if_true, if_false, ite_true, ite_false, Option.bind_some, Option.bind_none, Option.map_some, Option.map_none, List.map_cons, List.map_nil, List.replicate_succ, List.replicate_zero, List.cons_append, List.nil_append, List.length_cons, List.length_nil, List.getElem?_cons_zero, List.getElem?_cons_succ, List.set_cons_zero, List.set_cons_succ, Option.join_some, Nat.reduceAdd, Nat.zero_add, Nat.reduceLeDiff, reduceCtorEq, i1, i2, n1, n2, dlst2, dlst3, dtup0, dtup1, dtup2, flds_InvalidClaim (self_odd o ho) (self_odd f hf), rep1 o ho, ne_s, decide_true]
theorem step_10 {M : Mm} {x6 : Option U} : body2 [x0, some (.p o), some (.p f), some (.p (.lst (namesL.map .str))), some (.p (.lst (excL o f))), some (.p (.int 10)), x6, x7] M = some (.nx, [x0, some (.p o), some (.p f), some (.p (.lst (namesL.map .str))), some (.p (.lst (excL o f))), some (.p (.int 10)), some (.p (.tup [o])), x7], M) := by
  have i1 : ixU (.p (.lst (namesL.map .str))) (.p (.int 10)) M = some (.p (.str "InvalidIndex"), M) := by kernel_rfl
  have i2 : ixU (.p (.lst (excL o f))) (.p (.int 10)) M = some (.p (.exc "InvalidIndex" [("given", o)]), M) := by kernel_rfl
  have n1 : inU (.p (.str "InvalidIndex")) (.p (.lst [.str "NotUndoable", .str "Broken"])) M = some (.p (.bl false), M) := by kernel_rfl
  have n2 : inU (.p (.str "InvalidIndex")) (.p (.lst [.str "DividedByZero", .str "Ended", .str "NothingToUndo"])) M = some (.p (.bl false), M) := by kernel_rfl
  unfold body2
  simp only [mDef, mSeq, mAsg, mIf, mBin, mUn, mVar, mC, mCall, mCons, mNil, mDisp, gSb, mB, gNm, gTp, gTu, seqA_tup, seqA_kt, seqA_lst, seqA_frz, gMore, gNone, mRet, mRetN, mExpr, mNot, mAnd, mOr, mIfE, mAndV, mOrV, mNotV, mPar, mFor, mMe, mCm, mTru, isB, mNext, finN, Bool.not_true, Bool.not_false, Bool.false_eq_true, Bool.true_eq_false, if_true, if_false, ite_true, ite_false, Option.bind_some, Option.bind_none, Option.map_some, Option.map_none, List.map_cons, List.map_nil, List.replicate_succ, List.replicate_zero, List.cons_append, List.nil_append, List.length_cons, List.length_nil, List.getElem?_cons_zero, List.getElem?_cons_succ, List.set_cons_zero, List.set_cons_succ, Option.join_some, Nat.reduceAdd, Nat.zero_add, Nat.reduceLeDiff, reduceCtorEq, i1, i2, n1, n2, dlst2, dlst3, dtup0, dtup1, dtup2, flds_InvalidIndex (self_odd o ho) (self_odd f hf), rep1 o ho, ne_s, decide_true]
theorem step_11 {M : Mm} {x6 : Option U} : body2 [x0, some (.p o), some (.p f), some (.p (.lst (namesL.map .str))), some (.p (.lst (excL o f))), some (.p (.int 11)), x6, x7] M = some (.nx, [x0, some (.p o), some (.p f), some (.p (.lst (namesL.map .str))), some (.p (.lst (excL o f))), some (.p (.int 11)), some (.p (.tup [o])), x7], M) := by
  have i1 : ixU (.p (.lst (namesL.map .str))) (.p (.int 11)) M = some (.p (.str "NotAFormula"), M) := by kernel_rfl
  have i2 : ixU (.p (.lst (excL o f))) (.p (.int 11)) M = some (.p (.exc "NotAFormula" [("given", o)]), M) := by kernel_rfl
  have n1 : inU (.p (.str "NotAFormula")) (.p (.lst [.str "NotUndoable", .str "Broken"])) M = some (.p (.bl false), M) := by kernel_rfl
  have n2 : inU (.p (.str "NotAFormula")) (.p (.lst [.str "DividedByZero", .str "Ended", .str "NothingToUndo"])) M = some (.p (.bl false), M) := by kernel_rfl
  unfold body2
  simp only [mDef, mSeq, mAsg, mIf, mBin, mUn, mVar, mC, mCall, mCons, mNil, mDisp, gSb, mB, gNm, gTp, gTu, seqA_tup, seqA_kt, seqA_lst, seqA_frz, gMore, gNone, mRet, mRetN, mExpr, mNot, mAnd, mOr, mIfE, mAndV, mOrV, mNotV, mPar, mFor, mMe, mCm, mTru, isB, mNext, finN, Bool.not_true, Bool.not_false, Bool.false_eq_true, Bool.true_eq_false, if_true, if_false, ite_true, ite_false, Option.bind_some, Option.bind_none, Option.map_some, Option.map_none, List.map_cons, List.map_nil, List.replicate_succ, List.replicate_zero, List.cons_append, List.nil_append, List.length_cons, List.length_nil, List.getElem?_cons_zero, List.getElem?_cons_succ, List.set_cons_zero, List.set_cons_succ, Option.join_some, Nat.reduceAdd, Nat.zero_add, Nat.reduceLeDiff, reduceCtorEq, i1, i2, n1, n2, dlst2, dlst3, dtup0, dtup1, dtup2, flds_NotAFormula (self_odd o ho) (self_odd f hf), rep1 o ho, ne_s, decide_true]
theorem step_12 {M : Mm} {x6 : Option U} : body2 [x0, some (.p o), some (.p f), some (.p (.lst (namesL.map .str))), some (.p (.lst (excL o f))), some (.p (.int 12)), x6, x7] M = some (.nx, [x0, some (.p o), some (.p f), some (.p (.lst (namesL.map .str))), some (.p (.lst (excL o f))), some (.p (.int 12)), some (.p (.tup [o])), x7], M) := by
  have i1 : ixU (.p (.lst (namesL.map .str))) (.p (.int 12)) M = some (.p (.str "NotASeries"), M) := by kernel_rfl
  have i2 : ixU (.p (.lst (excL o f))) (.p (.int 12)) M = some (.p (.exc "NotASeries" [("given", o)]), M) := by kernel_rfl
  have n1 : inU (.p (.str "NotASeries")) (.p (.lst [.str "NotUndoable", .str "Broken"])) M = some (.p (.bl false), M) := by kernel_rfl
  have n2 : inU (.p (.str "NotASeries")) (.p (.lst [.str "DividedByZero", .str "Ended", .str "NothingToUndo"])) M = some (.p (.bl false), M) := by kernel_rfl
  unfold body2
  simp only [mDef, mSeq, mAsg, mIf, mBin, mUn, mVar, mC, mCall, mCons, mNil, mDisp, gSb, mB, gNm, gTp, gTu, seqA_tup, seqA_kt, seqA_lst, seqA_frz, gMore, gNone, mRet, mRetN, mExpr, mNot, mAnd, mOr, mIfE, mAndV, mOrV, mNotV, mPar, mFor, mMe, mCm, mTru, isB, mNext, finN, Bool.not_true, Bool.not_false, Bool.false_eq_true, Bool.true_eq_false, if_true, if_false, ite_true, ite_false, Option.bind_some, Option.bind_none, Option.map_some, Option.map_none, List.map_cons, List.map_nil, List.replicate_succ, List.replicate_zero, List.cons_append, List.nil_append, List.length_cons, List.length_nil, List.getElem?_cons_zero, List.getElem?_cons_succ, List.set_cons_zero, List.set_cons_succ, Option.join_some, Nat.reduceAdd, Nat.zero_add, Nat.reduceLeDiff, reduceCtorEq, i1, i2, n1, n2, dlst2, dlst3, dtup0, dtup1, dtup2, flds_NotASeries (self_odd o ho) (self_odd f hf), rep1 o ho, ne_s, decide_true]
theorem step_13 {M : Mm} {x6 : Option U} : body2 [x0, some (.p o), some (.p f), some (.p (.lst (namesL.map .str))), some (.p (.lst (excL o f))), some (.p (.int 13)), x6, x7] M = some (.nx, [x0, some (.p o), some (.p f), some (.p (.lst (namesL.map .str))), some (.p (.lst (excL o f))), some (.p (.int 13)), some (.p (.tup [o])), x7], M) := by
  have i1 : ixU (.p (.lst (namesL.map .str))) (.p (.int 13)) M = some (.p (.str "NotARunner"), M) := by kernel_rfl
  have i2 : ixU (.p (.lst (excL o f))) (.p (.int 13)) M = some (.p (.exc "NotARunner" [("given", o)]), M) := by kernel_rfl
  have n1 : inU (.p (.str "NotARunner")) (.p (.lst [.str "NotUndoable", .str "Broken"])) M = some (.p (.bl false), M) := by kernel_rfl
  have n2 : inU (.p (.str "NotARunner")) (.p (.lst [.str "DividedByZero", .str "Ended", .str "NothingToUndo"])) M = some (.p (.bl false), M) := by kernel_rfl
  unfold body2
  simp only [mDef, mSeq, mAsg, mIf, mBin, mUn, mVar, mC, mCall, mCons, mNil, mDisp, gSb, mB, gNm, gTp, gTu, seqA_tup, seqA_kt, seqA_lst, seqA_frz, gMore, gNone, mRet, mRetN, mExpr, mNot, mAnd, mOr, mIfE, mAndV, mOrV, mNotV, mPar, mFor, mMe, mCm, mTru, isB, mNext, finN, Bool.not_true, Bool.not_false, Bool.false_eq_true, Bool.true_eq_false, if_true, if_false, ite_true, ite_false, Option.bind_some, Option.bind_none, Option.map_some, Option.map_none, List.map_cons, List.map_nil, List.replicate_succ, List.replicate_zero, List.cons_append, List.nil_append, List.length_cons, List.length_nil, List.getElem?_cons_zero, List.getElem?_cons_succ, List.set_cons_zero, List.set_cons_succ, Option.join_some, Nat.reduceAdd, Nat.zero_add, Nat.reduceLeDiff, reduceCtorEq, i1, i2, n1, n2, dlst2, dlst3, dtup0, dtup1, dtup2, flds_NotARunner (self_odd o ho) (self_odd f hf), rep1 o ho, ne_s, decide_true]
theorem step_14 {M : Mm} {x6 : Option U} : body2 [x0, some (.p o), some (.p f), some (.p (.lst (namesL.map .str))), some (.p (.lst (excL o f))), some (.p (.int 14)), x6, x7] M = some (.nx, [x0, some (.p o), some (.p f), some (.p (.lst (namesL.map .str))), some (.p (.lst (excL o f))), some (.p (.int 14)), some (.p (.tup [o])), x7], M) := by
  have i1 : ixU (.p (.lst (namesL.map .str))) (.p (.int 14)) M = some (.p (.str "TextError"), M) := by kernel_rfl
  have i2 : ixU (.p (.lst (excL o f))) (.p (.int 14)) M = some (.p (.exc "TextError" [("place", o)]), M) := by kernel_rfl
  have n1 : inU (.p (.str "TextError")) (.p (.lst [.str "NotUndoable", .str "Broken"])) M = some (.p (.bl false), M) := by kernel_rfl
  have n2 : inU (.p (.str "TextError")) (.p (.lst [.str "DividedByZero", .str "Ended", .str "NothingToUndo"])) M = some (.p (.bl false), M) := by kernel_rfl
  unfold body2
  simp only [mDef, mSeq, mAsg, mIf, mBin, mUn, mVar, mC, mCall, mCons, mNil, mDisp, gSb, mB, gNm, gTp, gTu, seqA_tup, seqA_kt, seqA_lst, seqA_frz, gMore, gNone, mRet, mRetN, mExpr, mNot, mAnd, mOr, mIfE, mAndV, mOrV, mNotV, mPar, mFor, mMe, mCm, mTru, isB, mNext, finN, Bool.not_true, Bool.not_false, Bool.false_eq_true, Bool.true_eq_false, if_true, if_false, ite_true, ite_false, Option.bind_some, Option.bind_none, Option.map_some, Option.map_none, List.map_cons, List.map_nil, List.replicate_succ, List.replicate_zero, List.cons_append, List.nil_append, List.length_cons, List.length_nil, List.getElem?_cons_zero, List.getElem?_cons_succ, List.set_cons_zero, List.set_cons_succ, Option.join_some, Nat.reduceAdd, Nat.zero_add, Nat.reduceLeDiff, reduceCtorEq, i1, i2, n1, n2, dlst2, dlst3, dtup0, dtup1, dtup2, flds_TextError (self_odd o ho) (self_odd f hf), rep1 o ho, ne_s, decide_true]
theorem step_15 {M : Mm} {x6 : Option U} : body2 [x0, some (.p o), some (.p f), some (.p (.lst (namesL.map .str))), some (.p (.lst (excL o f))), some (.p (.int 15)), x6, x7] M = some (.nx, [x0, some (.p o), some (.p f), some (.p (.lst (namesL.map .str))), some (.p (.lst (excL o f))), some (.p (.int 15)), some (.p (.tup [o])), x7], M) := by
  have i1 : ixU (.p (.lst (namesL.map .str))) (.p (.int 15)) M = some (.p (.str "UnknownName"), M) := by kernel_rfl
  have i2 : ixU (.p (.lst (excL o f))) (.p (.int 15)) M = some (.p (.exc "UnknownName" [("given", o)]), M) := by kernel_rfl
  have n1 : inU (.p (.str "UnknownName")) (.p (.lst [.str "NotUndoable", .str "Broken"])) M = some (.p (.bl false), M) := by kernel_rfl
  have n2 : inU (.p (.str "UnknownName")) (.p (.lst [.str "DividedByZero", .str "Ended", .str "NothingToUndo"])) M = some (.p (.bl false), M) := by kernel_rfl
  unfold body2
  simp only [mDef, mSeq, mAsg, mIf, mBin, mUn, mVar, mC, mCall, mCons, mNil, mDisp, gSb, mB, gNm, gTp, gTu, seqA_tup, seqA_kt, seqA_lst, seqA_frz, gMore, gNone, mRet, mRetN, mExpr, mNot, mAnd, mOr, mIfE, mAndV, mOrV, mNotV, mPar, mFor, mMe, mCm, mTru, isB, mNext, finN, Bool.not_true, Bool.not_false, Bool.false_eq_true, Bool.true_eq_false, if_true, if_false, ite_true, ite_false, Option.bind_some, Option.bind_none, Option.map_some, Option.map_none, List.map_cons, List.map_nil, List.replicate_succ, List.replicate_zero, List.cons_append, List.nil_append, List.length_cons, List.length_nil, List.getElem?_cons_zero, List.getElem?_cons_succ, List.set_cons_zero, List.set_cons_succ, Option.join_some, Nat.reduceAdd, Nat.zero_add, Nat.reduceLeDiff, reduceCtorEq, i1, i2, n1, n2, dlst2, dlst3, dtup0, dtup1, dtup2, flds_UnknownName (self_odd o ho) (self_odd f hf), rep1 o ho, ne_s, decide_true]
theorem step_16 {M : Mm} {x6 : Option U} : body2 [x0, some (.p o), some (.p f), some (.p (.lst (namesL.map .str))), some (.p (.lst (excL o f))), some (.p (.int 16)), x6, x7] M = some (.nx, [x0, some (.p o), some (.p f), some (.p (.lst (namesL.map .str))), some (.p (.lst (excL o f))), some (.p (.int 16)), some (.p (.tup [o])), x7], M) := by
  have i1 : ixU (.p (.lst (namesL.map .str))) (.p (.int 16)) M = some (.p (.str "Taken"), M) := by kernel_rfl
  have i2 : ixU (.p (.lst (excL o f))) (.p (.int 16)) M = some (.p (.exc "Taken" [("given", o)]), M) := by kernel_rfl
  have n1 : inU (.p (.str "Taken")) (.p (.lst [.str "NotUndoable", .str "Broken"])) M = some (.p (.bl false), M) := by kernel_rfl
  have n2 : inU (.p (.str "Taken")) (.p (.lst [.str "DividedByZero", .str "Ended", .str "NothingToUndo"])) M = some (.p (.bl false), M) := by kernel_rfl
  unfold body2
  simp only [mDef, mSeq, mAsg, mIf, mBin, mUn, mVar, mC, mCall, mCons, mNil, mDisp, gSb, mB, gNm, gTp, gTu, seqA_tup, seqA_kt, seqA_lst, seqA_frz, gMore, gNone, mRet, mRetN, mExpr, mNot, mAnd, mOr, mIfE, mAndV, mOrV, mNotV, mPar, mFor, mMe, mCm, mTru, isB, mNext, finN, Bool.not_true, Bool.not_false, Bool.false_eq_true, Bool.true_eq_false, if_true, if_false, ite_true, ite_false, Option.bind_some, Option.bind_none, Option.map_some, Option.map_none, List.map_cons, List.map_nil, List.replicate_succ, List.replicate_zero, List.cons_append, List.nil_append, List.length_cons, List.length_nil, List.getElem?_cons_zero, List.getElem?_cons_succ, List.set_cons_zero, List.set_cons_succ, Option.join_some, Nat.reduceAdd, Nat.zero_add, Nat.reduceLeDiff, reduceCtorEq, i1, i2, n1, n2, dlst2, dlst3, dtup0, dtup1, dtup2, flds_Taken (self_odd o ho) (self_odd f hf), rep1 o ho, ne_s, decide_true]
theorem step_17 {M : Mm} {x6 : Option U} : body2 [x0, some (.p o), some (.p f), some (.p (.lst (namesL.map .str))), some (.p (.lst (excL o f))), some (.p (.int 17)), x6, x7] M = some (.nx, [x0, some (.p o), some (.p f), some (.p (.lst (namesL.map .str))), some (.p (.lst (excL o f))), some (.p (.int 17)), some (.p (.tup [o])), x7], M) := by
  have i1 : ixU (.p (.lst (namesL.map .str))) (.p (.int 17)) M = some (.p (.str "InUse"), M) := by kernel_rfl
  have i2 : ixU (.p (.lst (excL o f))) (.p (.int 17)) M = some (.p (.exc "InUse" [("user", o)]), M) := by kernel_rfl
  have n1 : inU (.p (.str "InUse")) (.p (.lst [.str "NotUndoable", .str "Broken"])) M = some (.p (.bl false), M) := by kernel_rfl
  have n2 : inU (.p (.str "InUse")) (.p (.lst [.str "DividedByZero", .str "Ended", .str "NothingToUndo"])) M = some (.p (.bl false), M) := by kernel_rfl
  unfold body2
  simp only [mDef, mSeq, mAsg, mIf, mBin, mUn, mVar, mC, mCall, mCons, mNil, mDisp, gSb, mB, gNm, gTp, gTu, seqA_tup, seqA_kt, seqA_lst, seqA_frz, gMore, gNone, mRet, mRetN, mExpr, mNot, mAnd, mOr, mIfE, mAndV, mOrV, mNotV, mPar, mFor, mMe, mCm, mTru, isB, mNext, finN, Bool.not_true, Bool.not_false, Bool.false_eq_true, Bool.true_eq_false, if_true, if_false, ite_true, ite_false, Option.bind_some, Option.bind_none, Option.map_some, Option.map_none, List.map_cons, List.map_nil, List.replicate_succ, List.replicate_zero, List.cons_append, List.nil_append, List.length_cons, List.length_nil, List.getElem?_cons_zero, List.getElem?_cons_succ, List.set_cons_zero, List.set_cons_succ, Option.join_some, Nat.reduceAdd, Nat.zero_add, Nat.reduceLeDiff, reduceCtorEq, i1, i2, n1, n2, dlst2, dlst3, dtup0, dtup1, dtup2, flds_InUse (self_odd o ho) (self_odd f hf), rep1 o ho, ne_s, decide_true]
theorem step_18 {M : Mm} {x6 : Option U} : body2 [x0, some (.p o), some (.p f), some (.p (.lst (namesL.map .str))), some (.p (.lst (excL o f))), some (.p (.int 18)), x6, x7] M = some (.nx, [x0, some (.p o), some (.p f), some (.p (.lst (namesL.map .str))), some (.p (.lst (excL o f))), some (.p (.int 18)), some (.p (.tup [o])), x7], M) := by
  have i1 : ixU (.p (.lst (namesL.map .str))) (.p (.int 18)) M = some (.p (.str "Circular"), M) := by kernel_rfl
  have i2 : ixU (.p (.lst (excL o f))) (.p (.int 18)) M = some (.p (.exc "Circular" [("given", o)]), M) := by kernel_rfl
  have n1 : inU (.p (.str "Circular")) (.p (.lst [.str "NotUndoable", .str "Broken"])) M = some (.p (.bl false), M) := by kernel_rfl
  have n2 : inU (.p (.str "Circular")) (.p (.lst [.str "DividedByZero", .str "Ended", .str "NothingToUndo"])) M = some (.p (.bl false), M) := by kernel_rfl
  unfold body2
  simp only [mDef, mSeq, mAsg, mIf, mBin, mUn, mVar, mC, mCall, mCons, mNil, mDisp, gSb, mB, gNm, gTp, gTu, seqA_tup, seqA_kt, seqA_lst, seqA_frz, gMore, gNone, mRet, mRetN, mExpr, mNot, mAnd, mOr, mIfE, mAndV, mOrV, mNotV, mPar, mFor, mMe, mCm, mTru, isB, mNext, finN, Bool.not_true, Bool.not_false, Bool.false_eq_true, Bool.true_eq_false, if_true, if_false, ite_true, ite_false, Option.bind_some, Option.bind_none, Option.map_some, Option.map_none, List.map_cons, List.map_nil, List.replicate_succ, List.replicate_zero, List.cons_append, List.nil_append, List.length_cons, List.length_nil, List.getElem?_cons_zero, List.getElem?_cons_succ, List.set_cons_zero, List.set_cons_succ, Option.join_some, Nat.reduceAdd, Nat.zero_add, Nat.reduceLeDiff, reduceCtorEq, i1, i2, n1, n2, dlst2, dlst3, dtup0, dtup1, dtup2, flds_Circular (self_odd o ho) (self_odd f hf), rep1 o ho, ne_s, decide_true]
theorem step_19 {M : Mm} {x6 : Option U} : body2 [x0, some (.p o), some (.p f), some (.p (.lst (namesL.map .str))), some (.p (.lst (excL o f))), some (.p (.int 19)), x6, x7] M = some (.nx, [x0, some (.p o), some (.p f), some (.p (.lst (namesL.map .str))), some (.p (.lst (excL o f))), some (.p (.int 19)), some (.p (.tup [o])), x7], M) := by
  have i1 : ixU (.p (.lst (namesL.map .str))) (.p (.int 19)) M = some (.p (.str "Clash"), M) := by kernel_rfl
  have i2 : ixU (.p (.lst (excL o f))) (.p (.int 19)) M = some (.p (.exc "Clash" [("given", o)]), M) := by kernel_rfl
  have n1 : inU (.p (.str "Clash")) (.p (.lst [.str "NotUndoable", .str "Broken"])) M = some (.p (.bl false), M) := by kernel_rfl
  have n2 : inU (.p (.str "Clash")) (.p (.lst [.str "DividedByZero", .str "Ended", .str "NothingToUndo"])) M = some (.p (.bl false), M) := by kernel_rfl
  unfold body2
  simp only [mDef, mSeq, mAsg, mIf, mBin, mUn, mVar, mC, mCall, mCons, mNil, mDisp, gSb, mB, gNm, gTp, gTu, seqA_tup, seqA_kt, seqA_lst, seqA_frz, gMore, gNone, mRet, mRetN, mExpr, mNot, mAnd, mOr, mIfE, mAndV, mOrV, mNotV, mPar, mFor, mMe, mCm, mTru, isB, mNext, finN, Bool.not_true, Bool.not_false, Bool.false_eq_true, Bool.true_eq_false, if_true, if_false, ite_true, ite_false, Option.bind_some, Option.bind_none, Option.map_some, Option.map_none, List.map_cons, List.map_nil, List.replicate_succ, List.replicate_zero, List.cons_append, List.nil_append, List.length_cons, List.length_nil, List.getElem?_cons_zero, List.getElem?_cons_succ, List.set_cons_zero, List.set_cons_succ, Option.join_some, Nat.reduceAdd, Nat.zero_add, Nat.reduceLeDiff, reduceCtorEq, i1, i2, n1, n2, dlst2, dlst3, dtup0, dtup1, dtup2, flds_Clash (self_odd o ho) (self_odd f hf), rep1 o ho, ne_s, decide_true]
theorem step_20 {M : Mm} {x6 : Option U} : body2 [x0, some (.p o), some (.p f), some (.p (.lst (namesL.map .str))), some (.p (.lst (excL o f))), some (.p (.int 20)), x6, x7] M = some (.nx, [x0, some (.p o), some (.p f), some (.p (.lst (namesL.map .str))), some (.p (.lst (excL o f))), some (.p (.int 20)), some (.p (.tup [o])), x7], M) := by
  have i1 : ixU (.p (.lst (namesL.map .str))) (.p (.int 20)) M = some (.p (.str "NoSeries"), M) := by kernel_rfl
  have i2 : ixU (.p (.lst (excL o f))) (.p (.int 20)) M = some (.p (.exc "NoSeries" [("given", o)]), M) := by kernel_rfl
  have n1 : inU (.p (.str "NoSeries")) (.p (.lst [.str "NotUndoable", .str "Broken"])) M = some (.p (.bl false), M) := by kernel_rfl
  have n2 : inU (.p (.str "NoSeries")) (.p (.lst [.str "DividedByZero", .str "Ended", .str "NothingToUndo"])) M = some (.p (.bl false), M) := by kernel_rfl
  unfold body2
  simp only [mDef, mSeq, mAsg, mIf, mBin, mUn, mVar, mC, mCall, mCons, mNil, mDisp, gSb, mB, gNm, gTp, gTu, seqA_tup, seqA_kt, seqA_lst, seqA_frz, gMore, gNone, mRet, mRetN, mExpr, mNot, mAnd, mOr, mIfE, mAndV, mOrV, mNotV, mPar, mFor, mMe, mCm, mTru, isB, mNext, finN, Bool.not_true, Bool.not_false, Bool.false_eq_true, Bool.true_eq_false, if_true, if_false, ite_true, ite_false, Option.bind_some, Option.bind_none, Option.map_some, Option.map_none, List.map_cons, List.map_nil, List.replicate_succ, List.replicate_zero, List.cons_append, List.nil_append, List.length_cons, List.length_nil, List.getElem?_cons_zero, List.getElem?_cons_succ, List.set_cons_zero, List.set_cons_succ, Option.join_some, Nat.reduceAdd, Nat.zero_add, Nat.reduceLeDiff, reduceCtorEq, i1, i2, n1, n2, dlst2, dlst3, dtup0, dtup1, dtup2, flds_NoSeries (self_odd o ho) (self_odd f hf), rep1 o ho, ne_s, decide_true]
theorem step_21 {M : Mm} {x6 : Option U} : body2 [x0, some (.p o), some (.p f), some (.p (.lst (namesL.map .str))), some (.p (.lst (excL o f))), some (.p (.int 21)), x6, x7] M = some (.nx, [x0, some (.p o), some (.p f), some (.p (.lst (namesL.map .str))), some (.p (.lst (excL o f))), some (.p (.int 21)), some (.p (.tup [o])), x7], M) := by
  have i1 : ixU (.p (.lst (namesL.map .str))) (.p (.int 21)) M = some (.p (.str "NoEntry"), M) := by kernel_rfl
  have i2 : ixU (.p (.lst (excL o f))) (.p (.int 21)) M = some (.p (.exc "NoEntry" [("given", o)]), M) := by kernel_rfl
  have n1 : inU (.p (.str "NoEntry")) (.p (.lst [.str "NotUndoable", .str "Broken"])) M = some (.p (.bl false), M) := by kernel_rfl
  have n2 : inU (.p (.str "NoEntry")) (.p (.lst [.str "DividedByZero", .str "Ended", .str "NothingToUndo"])) M = some (.p (.bl false), M) := by kernel_rfl
  unfold body2
  simp only [mDef, mSeq, mAsg, mIf, mBin, mUn, mVar, mC, mCall, mCons, mNil, mDisp, gSb, mB, gNm, gTp, gTu, seqA_tup, seqA_kt, seqA_lst, seqA_frz, gMore, gNone, mRet, mRetN, mExpr, mNot, mAnd, mOr, mIfE, mAndV, mOrV, mNotV, mPar, mFor, mMe, mCm, mTru, isB, mNext, finN, Bool.not_true, Bool.not_false, Bool.false_eq_true, Bool.true_eq_false, if_true, if_false, ite_true, ite_false, Option.bind_some, Option.bind_none, Option.map_some, Option.map_none, List.map_cons, List.map_nil, List.replicate_succ, List.replicate_zero, List.cons_append, List.nil_append, List.length_cons, List.length_nil, List.getElem?_cons_zero, List.getElem?_cons_succ, List.set_cons_zero, List.set_cons_succ, Option.join_some, Nat.reduceAdd, Nat.zero_add, Nat.reduceLeDiff, reduceCtorEq, i1, i2, n1, n2, dlst2, dlst3, dtup0, dtup1, dtup2, flds_NoEntry (self_odd o ho) (self_odd f hf), rep1 o ho, ne_s, decide_true]
theorem step_22 {M : Mm} {x6 : Option U} : body2 [x0, some (.p o), some (.p f), some (.p (.lst (namesL.map .str))), some (.p (.lst (excL o f))), some (.p (.int 22)), x6, x7] M = some (.nx, [x0, some (.p o), some (.p f), some (.p (.lst (namesL.map .str))), some (.p (.lst (excL o f))), some (.p (.int 22)), some (.p (.tup [o])), x7], M) := by
  have i1 : ixU (.p (.lst (namesL.map .str))) (.p (.int 22)) M = some (.p (.str "NotMade"), M) := by kernel_rfl
  have i2 : ixU (.p (.lst (excL o f))) (.p (.int 22)) M = some (.p (.exc "NotMade" [("given", o)]), M) := by kernel_rfl
  have n1 : inU (.p (.str "NotMade")) (.p (.lst [.str "NotUndoable", .str "Broken"])) M = some (.p (.bl false), M) := by kernel_rfl
  have n2 : inU (.p (.str "NotMade")) (.p (.lst [.str "DividedByZero", .str "Ended", .str "NothingToUndo"])) M = some (.p (.bl false), M) := by kernel_rfl
  unfold body2
  simp only [mDef, mSeq, mAsg, mIf, mBin, mUn, mVar, mC, mCall, mCons, mNil, mDisp, gSb, mB, gNm, gTp, gTu, seqA_tup, seqA_kt, seqA_lst, seqA_frz, gMore, gNone, mRet, mRetN, mExpr, mNot, mAnd, mOr, mIfE, mAndV, mOrV, mNotV, mPar, mFor, mMe, mCm, mTru, isB, mNext, finN, Bool.not_true, Bool.not_false, Bool.false_eq_true, Bool.true_eq_false, if_true, if_false, ite_true, ite_false, Option.bind_some, Option.bind_none, Option.map_some, Option.map_none, List.map_cons, List.map_nil, List.replicate_succ, List.replicate_zero, List.cons_append, List.nil_append, List.length_cons, List.length_nil, List.getElem?_cons_zero, List.getElem?_cons_succ, List.set_cons_zero, List.set_cons_succ, Option.join_some, Nat.reduceAdd, Nat.zero_add, Nat.reduceLeDiff, reduceCtorEq, i1, i2, n1, n2, dlst2, dlst3, dtup0, dtup1, dtup2, flds_NotMade (self_odd o ho) (self_odd f hf), rep1 o ho, ne_s, decide_true]
theorem step_23 {M : Mm} {x6 : Option U} : body2 [x0, some (.p o), some (.p f), some (.p (.lst (namesL.map .str))), some (.p (.lst (excL o f))), some (.p (.int 23)), x6, x7] M = some (.nx, [x0, some (.p o), some (.p f), some (.p (.lst (namesL.map .str))), some (.p (.lst (excL o f))), some (.p (.int 23)), some (.p (.tup [])), x7], M) := by
  have i1 : ixU (.p (.lst (namesL.map .str))) (.p (.int 23)) M = some (.p (.str "DividedByZero"), M) := by kernel_rfl
  have i2 : ixU (.p (.lst (excL o f))) (.p (.int 23)) M = some (.p (.exc "DividedByZero" []), M) := by kernel_rfl
  have n1 : inU (.p (.str "DividedByZero")) (.p (.lst [.str "NotUndoable", .str "Broken"])) M = some (.p (.bl false), M) := by kernel_rfl
  have n2 : inU (.p (.str "DividedByZero")) (.p (.lst [.str "DividedByZero", .str "Ended", .str "NothingToUndo"])) M = some (.p (.bl true), M) := by kernel_rfl
  unfold body2
  simp only [mDef, mSeq, mAsg, mIf, mBin, mUn, mVar, mC, mCall, mCons, mNil, mDisp, gSb, mB, gNm, gTp, gTu, seqA_tup, seqA_kt, seqA_lst, seqA_frz, gMore, gNone, mRet, mRetN, mExpr, mNot, mAnd, mOr, mIfE, mAndV, mOrV, mNotV, mPar, mFor, mMe, mCm, mTru, isB, mNext, finN, Bool.not_true, Bool.not_false, Bool.false_eq_true, Bool.true_eq_false, if_true, if_false, ite_true, ite_false, Option.bind_some, Option.bind_none, Option.map_some, Option.map_none, List.map_cons, List.map_nil, List.replicate_succ, List.replicate_zero, List.cons_append, List.nil_append, List.length_cons, List.length_nil, List.getElem?_cons_zero, List.getElem?_cons_succ, List.set_cons_zero, List.set_cons_succ, Option.join_some, Nat.reduceAdd, Nat.zero_add, Nat.reduceLeDiff, reduceCtorEq, i1, i2, n1, n2, dlst2, dlst3, dtup0, dtup1, dtup2, flds_DividedByZero (self_odd o ho) (self_odd f hf), rep0, ne_s, decide_true]
theorem step_24 {M : Mm} {x6 : Option U} : body2 [x0, some (.p o), some (.p f), some (.p (.lst (namesL.map .str))), some (.p (.lst (excL o f))), some (.p (.int 24)), x6, x7] M = some (.nx, [x0, some (.p o), some (.p f), some (.p (.lst (namesL.map .str))), some (.p (.lst (excL o f))), some (.p (.int 24)), some (.p (.tup [o])), x7], M) := by
  have i1 : ixU (.p (.lst (namesL.map .str))) (.p (.int 24)) M = some (.p (.str "TooLarge"), M) := by kernel_rfl
  have i2 : ixU (.p (.lst (excL o f))) (.p (.int 24)) M = some (.p (.exc "TooLarge" [("limit", o)]), M) := by kernel_rfl
  have n1 : inU (.p (.str "TooLarge")) (.p (.lst [.str "NotUndoable", .str "Broken"])) M = some (.p (.bl false), M) := by kernel_rfl
  have n2 : inU (.p (.str "TooLarge")) (.p (.lst [.str "DividedByZero", .str "Ended", .str "NothingToUndo"])) M = some (.p (.bl false), M) := by kernel_rfl
  unfold body2
  simp only [mDef, mSeq, mAsg, mIf, mBin, mUn, mVar, mC, mCall, mCons, mNil, mDisp, gSb, mB, gNm, gTp, gTu, seqA_tup, seqA_kt, seqA_lst, seqA_frz, gMore, gNone, mRet, mRetN, mExpr, mNot, mAnd, mOr, mIfE, mAndV, mOrV, mNotV, mPar, mFor, mMe, mCm, mTru, isB, mNext, finN, Bool.not_true, Bool.not_false, Bool.false_eq_true, Bool.true_eq_false, if_true, if_false, ite_true, ite_false, Option.bind_some, Option.bind_none, Option.map_some, Option.map_none, List.map_cons, List.map_nil, List.replicate_succ, List.replicate_zero, List.cons_append, List.nil_append, List.length_cons, List.length_nil, List.getElem?_cons_zero, List.getElem?_cons_succ, List.set_cons_zero, List.set_cons_succ, Option.join_some, Nat.reduceAdd, Nat.zero_add, Nat.reduceLeDiff, reduceCtorEq, i1, i2, n1, n2, dlst2, dlst3, dtup0, dtup1, dtup2, flds_TooLarge (self_odd o ho) (self_odd f hf), rep1 o ho, ne_s, decide_true]
theorem step_25 {M : Mm} {x6 : Option U} : body2 [x0, some (.p o), some (.p f), some (.p (.lst (namesL.map .str))), some (.p (.lst (excL o f))), some (.p (.int 25)), x6, x7] M = some (.nx, [x0, some (.p o), some (.p f), some (.p (.lst (namesL.map .str))), some (.p (.lst (excL o f))), some (.p (.int 25)), some (.p (.tup [o])), x7], M) := by
  have i1 : ixU (.p (.lst (namesL.map .str))) (.p (.int 25)) M = some (.p (.str "TooHeavy"), M) := by kernel_rfl
  have i2 : ixU (.p (.lst (excL o f))) (.p (.int 25)) M = some (.p (.exc "TooHeavy" [("limit", o)]), M) := by kernel_rfl
  have n1 : inU (.p (.str "TooHeavy")) (.p (.lst [.str "NotUndoable", .str "Broken"])) M = some (.p (.bl false), M) := by kernel_rfl
  have n2 : inU (.p (.str "TooHeavy")) (.p (.lst [.str "DividedByZero", .str "Ended", .str "NothingToUndo"])) M = some (.p (.bl false), M) := by kernel_rfl
  unfold body2
  simp only [mDef, mSeq, mAsg, mIf, mBin, mUn, mVar, mC, mCall, mCons, mNil, mDisp, gSb, mB, gNm, gTp, gTu, seqA_tup, seqA_kt, seqA_lst, seqA_frz, gMore, gNone, mRet, mRetN, mExpr, mNot, mAnd, mOr, mIfE, mAndV, mOrV, mNotV, mPar, mFor, mMe, mCm, mTru, isB, mNext, finN, Bool.not_true, Bool.not_false, Bool.false_eq_true, Bool.true_eq_false, if_true, if_false, ite_true, ite_false, Option.bind_some, Option.bind_none, Option.map_some, Option.map_none, List.map_cons, List.map_nil, List.replicate_succ, List.replicate_zero, List.cons_append, List.nil_append, List.length_cons, List.length_nil, List.getElem?_cons_zero, List.getElem?_cons_succ, List.set_cons_zero, List.set_cons_succ, Option.join_some, Nat.reduceAdd, Nat.zero_add, Nat.reduceLeDiff, reduceCtorEq, i1, i2, n1, n2, dlst2, dlst3, dtup0, dtup1, dtup2, flds_TooHeavy (self_odd o ho) (self_odd f hf), rep1 o ho, ne_s, decide_true]
theorem step_26 {M : Mm} {x6 : Option U} : body2 [x0, some (.p o), some (.p f), some (.p (.lst (namesL.map .str))), some (.p (.lst (excL o f))), some (.p (.int 26)), x6, x7] M = some (.nx, [x0, some (.p o), some (.p f), some (.p (.lst (namesL.map .str))), some (.p (.lst (excL o f))), some (.p (.int 26)), some (.p (.tup [o, f])), x7], M) := by
  have i1 : ixU (.p (.lst (namesL.map .str))) (.p (.int 26)) M = some (.p (.str "NotUndoable"), M) := by kernel_rfl
  have i2 : ixU (.p (.lst (excL o f))) (.p (.int 26)) M = some (.p (.exc "NotUndoable" [("place", f), ("reason", o)]), M) := by kernel_rfl
  have n1 : inU (.p (.str "NotUndoable")) (.p (.lst [.str "NotUndoable", .str "Broken"])) M = some (.p (.bl true), M) := by kernel_rfl
  have n2 : inU (.p (.str "NotUndoable")) (.p (.lst [.str "DividedByZero", .str "Ended", .str "NothingToUndo"])) M = some (.p (.bl false), M) := by kernel_rfl
  unfold body2
  simp only [mDef, mSeq, mAsg, mIf, mBin, mUn, mVar, mC, mCall, mCons, mNil, mDisp, gSb, mB, gNm, gTp, gTu, seqA_tup, seqA_kt, seqA_lst, seqA_frz, gMore, gNone, mRet, mRetN, mExpr, mNot, mAnd, mOr, mIfE, mAndV, mOrV, mNotV, mPar, mFor, mMe, mCm, mTru, isB, mNext, finN, Bool.not_true, Bool.not_false, Bool.false_eq_true, Bool.true_eq_false, if_true, if_false, ite_true, ite_false, Option.bind_some, Option.bind_none, Option.map_some, Option.map_none, List.map_cons, List.map_nil, List.replicate_succ, List.replicate_zero, List.cons_append, List.nil_append, List.length_cons, List.length_nil, List.getElem?_cons_zero, List.getElem?_cons_succ, List.set_cons_zero, List.set_cons_succ, Option.join_some, Nat.reduceAdd, Nat.zero_add, Nat.reduceLeDiff, reduceCtorEq, i1, i2, n1, n2, dlst2, dlst3, dtup0, dtup1, dtup2, flds_NotUndoable (self_odd o ho) (self_odd f hf), rep2 o ho f hf, ne_s, decide_true]
theorem step_27 {M : Mm} {x6 : Option U} : body2 [x0, some (.p o), some (.p f), some (.p (.lst (namesL.map .str))), some (.p (.lst (excL o f))), some (.p (.int 27)), x6, x7] M = some (.nx, [x0, some (.p o), some (.p f), some (.p (.lst (namesL.map .str))), some (.p (.lst (excL o f))), some (.p (.int 27)), some (.p (.tup [o])), x7], M) := by
  have i1 : ixU (.p (.lst (namesL.map .str))) (.p (.int 27)) M = some (.p (.str "NoWay"), M) := by kernel_rfl
  have i2 : ixU (.p (.lst (excL o f))) (.p (.int 27)) M = some (.p (.exc "NoWay" [("place", o)]), M) := by kernel_rfl
  have n1 : inU (.p (.str "NoWay")) (.p (.lst [.str "NotUndoable", .str "Broken"])) M = some (.p (.bl false), M) := by kernel_rfl
  have n2 : inU (.p (.str "NoWay")) (.p (.lst [.str "DividedByZero", .str "Ended", .str "NothingToUndo"])) M = some (.p (.bl false), M) := by kernel_rfl
  unfold body2
  simp only [mDef, mSeq, mAsg, mIf, mBin, mUn, mVar, mC, mCall, mCons, mNil, mDisp, gSb, mB, gNm, gTp, gTu, seqA_tup, seqA_kt, seqA_lst, seqA_frz, gMore, gNone, mRet, mRetN, mExpr, mNot, mAnd, mOr, mIfE, mAndV, mOrV, mNotV, mPar, mFor, mMe, mCm, mTru, isB, mNext, finN, Bool.not_true, Bool.not_false, Bool.false_eq_true, Bool.true_eq_false, if_true, if_false, ite_true, ite_false, Option.bind_some, Option.bind_none, Option.map_some, Option.map_none, List.map_cons, List.map_nil, List.replicate_succ, List.replicate_zero, List.cons_append, List.nil_append, List.length_cons, List.length_nil, List.getElem?_cons_zero, List.getElem?_cons_succ, List.set_cons_zero, List.set_cons_succ, Option.join_some, Nat.reduceAdd, Nat.zero_add, Nat.reduceLeDiff, reduceCtorEq, i1, i2, n1, n2, dlst2, dlst3, dtup0, dtup1, dtup2, flds_NoWay (self_odd o ho) (self_odd f hf), rep1 o ho, ne_s, decide_true]
theorem step_28 {M : Mm} {x6 : Option U} : body2 [x0, some (.p o), some (.p f), some (.p (.lst (namesL.map .str))), some (.p (.lst (excL o f))), some (.p (.int 28)), x6, x7] M = some (.nx, [x0, some (.p o), some (.p f), some (.p (.lst (namesL.map .str))), some (.p (.lst (excL o f))), some (.p (.int 28)), some (.p (.tup [])), x7], M) := by
  have i1 : ixU (.p (.lst (namesL.map .str))) (.p (.int 28)) M = some (.p (.str "Ended"), M) := by kernel_rfl
  have i2 : ixU (.p (.lst (excL o f))) (.p (.int 28)) M = some (.p (.exc "Ended" []), M) := by kernel_rfl
  have n1 : inU (.p (.str "Ended")) (.p (.lst [.str "NotUndoable", .str "Broken"])) M = some (.p (.bl false), M) := by kernel_rfl
  have n2 : inU (.p (.str "Ended")) (.p (.lst [.str "DividedByZero", .str "Ended", .str "NothingToUndo"])) M = some (.p (.bl true), M) := by kernel_rfl
  unfold body2
  simp only [mDef, mSeq, mAsg, mIf, mBin, mUn, mVar, mC, mCall, mCons, mNil, mDisp, gSb, mB, gNm, gTp, gTu, seqA_tup, seqA_kt, seqA_lst, seqA_frz, gMore, gNone, mRet, mRetN, mExpr, mNot, mAnd, mOr, mIfE, mAndV, mOrV, mNotV, mPar, mFor, mMe, mCm, mTru, isB, mNext, finN, Bool.not_true, Bool.not_false, Bool.false_eq_true, Bool.true_eq_false, if_true, if_false, ite_true, ite_false, Option.bind_some, Option.bind_none, Option.map_some, Option.map_none, List.map_cons, List.map_nil, List.replicate_succ, List.replicate_zero, List.cons_append, List.nil_append, List.length_cons, List.length_nil, List.getElem?_cons_zero, List.getElem?_cons_succ, List.set_cons_zero, List.set_cons_succ, Option.join_some, Nat.reduceAdd, Nat.zero_add, Nat.reduceLeDiff, reduceCtorEq, i1, i2, n1, n2, dlst2, dlst3, dtup0, dtup1, dtup2, flds_Ended (self_odd o ho) (self_odd f hf), rep0, ne_s, decide_true]
theorem step_29 {M : Mm} {x6 : Option U} : body2 [x0, some (.p o), some (.p f), some (.p (.lst (namesL.map .str))), some (.p (.lst (excL o f))), some (.p (.int 29)), x6, x7] M = some (.nx, [x0, some (.p o), some (.p f), some (.p (.lst (namesL.map .str))), some (.p (.lst (excL o f))), some (.p (.int 29)), some (.p (.tup [])), x7], M) := by
  have i1 : ixU (.p (.lst (namesL.map .str))) (.p (.int 29)) M = some (.p (.str "NothingToUndo"), M) := by kernel_rfl
  have i2 : ixU (.p (.lst (excL o f))) (.p (.int 29)) M = some (.p (.exc "NothingToUndo" []), M) := by kernel_rfl
  have n1 : inU (.p (.str "NothingToUndo")) (.p (.lst [.str "NotUndoable", .str "Broken"])) M = some (.p (.bl false), M) := by kernel_rfl
  have n2 : inU (.p (.str "NothingToUndo")) (.p (.lst [.str "DividedByZero", .str "Ended", .str "NothingToUndo"])) M = some (.p (.bl true), M) := by kernel_rfl
  unfold body2
  simp only [mDef, mSeq, mAsg, mIf, mBin, mUn, mVar, mC, mCall, mCons, mNil, mDisp, gSb, mB, gNm, gTp, gTu, seqA_tup, seqA_kt, seqA_lst, seqA_frz, gMore, gNone, mRet, mRetN, mExpr, mNot, mAnd, mOr, mIfE, mAndV, mOrV, mNotV, mPar, mFor, mMe, mCm, mTru, isB, mNext, finN, Bool.not_true, Bool.not_false, Bool.false_eq_true, Bool.true_eq_false, if_true, if_false, ite_true, ite_false, Option.bind_some, Option.bind_none, Option.map_some, Option.map_none, List.map_cons, List.map_nil, List.replicate_succ, List.replicate_zero, List.cons_append, List.nil_append, List.length_cons, List.length_nil, List.getElem?_cons_zero, List.getElem?_cons_succ, List.set_cons_zero, List.set_cons_succ, Option.join_some, Nat.reduceAdd, Nat.zero_add, Nat.reduceLeDiff, reduceCtorEq, i1, i2, n1, n2, dlst2, dlst3, dtup0, dtup1, dtup2, flds_NothingToUndo (self_odd o ho) (self_odd f hf), rep0, ne_s, decide_true]
theorem step_30 {M : Mm} {x6 : Option U} : body2 [x0, some (.p o), some (.p f), some (.p (.lst (namesL.map .str))), some (.p (.lst (excL o f))), some (.p (.int 30)), x6, x7] M = some (.nx, [x0, some (.p o), some (.p f), some (.p (.lst (namesL.map .str))), some (.p (.lst (excL o f))), some (.p (.int 30)), some (.p (.tup [o, f])), x7], M) := by
  have i1 : ixU (.p (.lst (namesL.map .str))) (.p (.int 30)) M = some (.p (.str "Broken"), M) := by kernel_rfl
  have i2 : ixU (.p (.lst (excL o f))) (.p (.int 30)) M = some (.p (.exc "Broken" [("shown", f), ("index", o)]), M) := by kernel_rfl
  have n1 : inU (.p (.str "Broken")) (.p (.lst [.str "NotUndoable", .str "Broken"])) M = some (.p (.bl true), M) := by kernel_rfl
  have n2 : inU (.p (.str "Broken")) (.p (.lst [.str "DividedByZero", .str "Ended", .str "NothingToUndo"])) M = some (.p (.bl false), M) := by kernel_rfl
  unfold body2
  simp only [mDef, mSeq, mAsg, mIf, mBin, mUn, mVar, mC, mCall, mCons, mNil, mDisp, gSb, mB, gNm, gTp, gTu, seqA_tup, seqA_kt, seqA_lst, seqA_frz, gMore, gNone, mRet, mRetN, mExpr, mNot, mAnd, mOr, mIfE, mAndV, mOrV, mNotV, mPar, mFor, mMe, mCm, mTru, isB, mNext, finN, Bool.not_true, Bool.not_false, Bool.false_eq_true, Bool.true_eq_false, if_true, if_false, ite_true, ite_false, Option.bind_some, Option.bind_none, Option.map_some, Option.map_none, List.map_cons, List.map_nil, List.replicate_succ, List.replicate_zero, List.cons_append, List.nil_append, List.length_cons, List.length_nil, List.getElem?_cons_zero, List.getElem?_cons_succ, List.set_cons_zero, List.set_cons_succ, Option.join_some, Nat.reduceAdd, Nat.zero_add, Nat.reduceLeDiff, reduceCtorEq, i1, i2, n1, n2, dlst2, dlst3, dtup0, dtup1, dtup2, flds_Broken (self_odd o ho) (self_odd f hf), rep2 o ho f hf, ne_s, decide_true]
theorem step_all {M : Mm} {x6 : Option U} : ∀ k : Nat, k < 31 → ∃ x6', body2 [x0, some (.p o), some (.p f), some (.p (.lst (namesL.map .str))), some (.p (.lst (excL o f))), some (.p (.int k)), x6, x7] M = some (.nx, [x0, some (.p o), some (.p f), some (.p (.lst (namesL.map .str))), some (.p (.lst (excL o f))), some (.p (.int k)), x6', x7], M)
  | 0, _ => ⟨_, step_0 ho hf⟩
  | 1, _ => ⟨_, step_1 ho hf⟩
  | 2, _ => ⟨_, step_2 ho hf⟩
  | 3, _ => ⟨_, step_3 ho hf⟩
  | 4, _ => ⟨_, step_4 ho hf⟩
  | 5, _ => ⟨_, step_5 ho hf⟩
  | 6, _ => ⟨_, step_6 ho hf⟩
  | 7, _ => ⟨_, step_7 ho hf⟩
  | 8, _ => ⟨_, step_8 ho hf⟩
  | 9, _ => ⟨_, step_9 ho hf⟩
  | 10, _ => ⟨_, step_10 ho hf⟩
  | 11, _ => ⟨_, step_11 ho hf⟩
  | 12, _ => ⟨_, step_12 ho hf⟩
  | 13, _ => ⟨_, step_13 ho hf⟩
  | 14, _ => ⟨_, step_14 ho hf⟩
  | 15, _ => ⟨_, step_15 ho hf⟩
  | 16, _ => ⟨_, step_16 ho hf⟩
  | 17, _ => ⟨_, step_17 ho hf⟩
  | 18, _ => ⟨_, step_18 ho hf⟩
  | 19, _ => ⟨_, step_19 ho hf⟩
  | 20, _ => ⟨_, step_20 ho hf⟩
  | 21, _ => ⟨_, step_21 ho hf⟩
  | 22, _ => ⟨_, step_22 ho hf⟩
  | 23, _ => ⟨_, step_23 ho hf⟩
  | 24, _ => ⟨_, step_24 ho hf⟩
  | 25, _ => ⟨_, step_25 ho hf⟩
  | 26, _ => ⟨_, step_26 ho hf⟩
  | 27, _ => ⟨_, step_27 ho hf⟩
  | 28, _ => ⟨_, step_28 ho hf⟩
  | 29, _ => ⟨_, step_29 ho hf⟩
  | 30, _ => ⟨_, step_30 ho hf⟩
  | n + 31, h => by omega
theorem loop2 {M : Mm} : ∀ (ks : List Nat) (x5 x6 : Option U), (∀ k ∈ ks, k < 31) → ∃ x5' x6', mLoop (gNm 5) body2 (ks.map fun k => .p (.int (k : Nat))) [x0, some (.p o), some (.p f), some (.p (.lst (namesL.map .str))), some (.p (.lst (excL o f))), x5, x6, x7] M = some (.nx, [x0, some (.p o), some (.p f), some (.p (.lst (namesL.map .str))), some (.p (.lst (excL o f))), x5', x6', x7], M)
  | [], x5, x6, _ => ⟨x5, x6, rfl⟩
  | k :: ks, x5, x6, h => by
    obtain ⟨y6, e1⟩ := step_all ho hf (x0 := x0) (x7 := x7) (M := M) (x6 := x6) k (h k (List.mem_cons_self ..))
    obtain ⟨x5', x6', e2⟩ := loop2 ks (some (.p (.int (k : Nat)))) y6 fun j hj => h j (List.mem_cons_of_mem _ hj)
    refine ⟨x5', x6', ?_⟩
    rw [List.map_cons]
    unfold mLoop
    simp only [mDef, mSeq, mAsg, mIf, mBin, mUn, mVar, mC, mCall, mCons, mNil, mDisp, gSb, mB, gNm, gTp, gTu, seqA_tup, seqA_kt, seqA_lst, seqA_frz, gMore, gNone, mRet, mRetN, mExpr, mNot, mAnd, mOr, mIfE, mAndV, mOrV, mNotV, mPar, mFor, mMe, mCm, mTru, isB, mNext, finN, Bool.not_true, Bool.not_false, Bool.false_eq_true, Bool.true_eq_false, if_true, if_false, ite_true, ite_false, Option.bind_some, Option.bind_none, Option.map_some, Option.map_none, List.map_cons, List.map_nil, List.replicate_succ, List.replicate_zero, List.cons_append, List.nil_append, List.length_cons, List.length_nil, List.getElem?_cons_zero, List.getElem?_cons_succ, List.set_cons_zero, List.set_cons_succ, Option.join_some, Nat.reduceAdd, Nat.zero_add, Nat.reduceLeDiff, reduceCtorEq, e1]
    exact e2
theorem comp_words {M : Mm} {x5 x6 : Option U} : mComp (iSeq (mVar 4)) (gNm 7) mYes (mCall m_l_word (mCons (mVar 7) mNil)) [7] [x0, some (.p o), some (.p f), some (.p (.lst (namesL.map .str))), some (.p (.lst (excL o f))), x5, x6, x7] M = some (.p (.lst (namesL.map .str)), M) := by kernel_rfl
theorem comp_0 {M : Mm} {x5 x6 : Option U} : (mComp (iSeq (mVar 4)) (gNm 7) (mOr (mB (mCall (isiE excOk excKit) (mCons (mVar 7) (mCons (mC (.ty "KeyError")) mNil)))) (mB (mCall (isiE excOk excKit) (mCons (mVar 7) (mCons (mC (.ty "IndexError")) mNil))))) (mVar 7) [7]) [x0, some (.p o), some (.p f), some (.p (.lst (namesL.map .str))), some (.p (.lst (excL o f))), x5, x6, x7] M = some (.p (.lst []), M) := by kernel_rfl
theorem comp_1 {M : Mm} {x5 x6 : Option U} : (mComp (iSeq (mVar 4)) (gNm 7) (mOr (mB (mCall (isiE excOk excKit) (mCons (mVar 7) (mCons (mC (.ty "ZeroDivisionError")) mNil)))) (mB (mCall (isiE excOk excKit) (mCons (mVar 7) (mCons (mC (.ty "OverflowError")) mNil))))) (mVar 7) [7]) [x0, some (.p o), some (.p f), some (.p (.lst (namesL.map .str))), some (.p (.lst (excL o f))), x5, x6, x7] M = some (.p (.lst []), M) := by kernel_rfl
theorem e_body {M : Mm} {x5 x6 : Option U} : ∃ x5' x6', body1 [x0, some (.p o), some (.p f), some (.p (.lst (namesL.map .str))), some (.p (.lst (excL o f))), x5, x6, x7] M = some (.nx, [x0, some (.p o), some (.p f), some (.p (.lst (namesL.map .str))), some (.p (.lst (excL o f))), x5', x6', x7], M) := by
  obtain ⟨x5', x6', e⟩ := loop2 ho hf (x0 := x0) (x7 := x7) (M := M) (List.range 31) x5 x6 fun k hk => List.mem_range.mp hk
  refine ⟨x5', x6', ?_⟩
  have n1 : neU (.p (.lst (namesL.map .str))) (.p (.lst (namesL.map .str))) M = some (.p (.bl false), M) := by kernel_rfl
  have n2 : neU (.p (.lst [])) (.p (.lst [])) M = some (.p (.bl false), M) := by kernel_rfl
  have r1 : iRg1 (mCons (mCall lenU (mCons (mVar 3) mNil)) mNil) [x0, some (.p o), some (.p f), some (.p (.lst (namesL.map .str))), some (.p (.lst (excL o f))), x5, x6, x7] M = some ((List.range 31).map fun k => .p (.int (k : Nat)), M) := by kernel_rfl
  unfold body1
  simp only [mDef, mSeq, mAsg, mIf, mBin, mUn, mVar, mC, mCall, mCons, mNil, mDisp, gSb, mB, gNm, gTp, gTu, seqA_tup, seqA_kt, seqA_lst, seqA_frz, gMore, gNone, mRet, mRetN, mExpr, mNot, mAnd, mOr, mIfE, mAndV, mOrV, mNotV, mPar, mFor, mMe, mCm, mTru, isB, mNext, finN, Bool.not_true, Bool.not_false, Bool.false_eq_true, Bool.true_eq_false, if_true, if_false, ite_true, ite_false, Option.bind_some, Option.bind_none, Option.map_some, Option.map_none, List.map_cons, List.map_nil, List.replicate_succ, List.replicate_zero, List.cons_append, List.nil_append, List.length_cons, List.length_nil, List.getElem?_cons_zero, List.getElem?_cons_succ, List.set_cons_zero, List.set_cons_succ, Option.join_some, Nat.reduceAdd, Nat.zero_add, Nat.reduceLeDiff, reduceCtorEq, comp_words ho hf, n1, r1, e, comp_0 ho hf, comp_1 ho hf, dlst0, n2]
end
theorem e_odd {M : Mm} {j : Nat} (h : Src M j) : ∃ w M', m_l_odd [.m j] M = some (.p w, M') ∧ w ∈ oddL ∧ Src M' j ∧ M'.length = M.length := by
  obtain ⟨k, M2, e2, ⟨k0, k1⟩, h2, l2⟩ := e_draw h 14 (by decide)
  obtain ⟨w, hw, ew⟩ := e_pick (ws := oddL) k0 k1
  refine ⟨w, M2, ?_, hw, h2, l2⟩
  have ew' := ew M2
  unfold oddL at ew'
  unfold m_l_odd
  simp only [mDef, mSeq, mAsg, mIf, mBin, mUn, mVar, mC, mCall, mCons, mNil, mDisp, gSb, mB, gNm, gTp, gTu, seqA_tup, seqA_kt, seqA_lst, seqA_frz, gMore, gNone, mRet, mRetN, mExpr, mNot, mAnd, mOr, mIfE, mAndV, mOrV, mNotV, mPar, mFor, mMe, mCm, mTru, isB, mNext, finN, Bool.not_true, Bool.not_false, Bool.false_eq_true, Bool.true_eq_false, if_true, if_false, ite_true, ite_false, Option.bind_some, Option.bind_none, Option.map_some, Option.map_none, List.map_cons, List.map_nil, List.replicate_succ, List.replicate_zero, List.cons_append, List.nil_append, List.length_cons, List.length_nil, List.getElem?_cons_zero, List.getElem?_cons_succ, List.set_cons_zero, List.set_cons_succ, Option.join_some, Nat.reduceAdd, Nat.zero_add, Nat.reduceLeDiff, reduceCtorEq, dTup, mDic, dLst, pures, neg_i, pw_i (a := 10) (b := 39) (by decide), e2, ew']
theorem e_right {M : Mm} {j : Nat} (h : Src M j) : ∃ M', m_l_right [.m j] M = some (.p (.bl true), M') ∧ Src M' j ∧ M'.length = M.length := by
  obtain ⟨o, M1, e1, ho, h1, l1⟩ := e_odd h
  obtain ⟨f, M2, e2, hf, h2, l2⟩ := e_odd h1
  obtain ⟨a5, a6, b1⟩ := e_body ho hf (x0 := some (.m j)) (x7 := none) (M := M2) (x5 := none) (x6 := none)
  obtain ⟨c5, c6, b2⟩ := e_body ho hf (x0 := some (.m j)) (x7 := none) (M := M2) (x5 := a5) (x6 := a6)
  refine ⟨M2, ?_, h2, by omega⟩
  rw [right_eq]
  unfold rightL
  simp only [mDef, mSeq, mAsg, mIf, mBin, mUn, mVar, mC, mCall, mCons, mNil, mDisp, gSb, mB, gNm, gTp, gTu, seqA_tup, seqA_kt, seqA_lst, seqA_frz, gMore, gNone, mRet, mRetN, mExpr, mNot, mAnd, mOr, mIfE, mAndV, mOrV, mNotV, mPar, mFor, mMe, mCm, mTru, isB, mNext, finN, Bool.not_true, Bool.not_false, Bool.false_eq_true, Bool.true_eq_false, if_true, if_false, ite_true, ite_false, Option.bind_some, Option.bind_none, Option.map_some, Option.map_none, List.map_cons, List.map_nil, List.replicate_succ, List.replicate_zero, List.cons_append, List.nil_append, List.length_cons, List.length_nil, List.getElem?_cons_zero, List.getElem?_cons_succ, List.set_cons_zero, List.set_cons_succ, Option.join_some, Nat.reduceAdd, Nat.zero_add, Nat.reduceLeDiff, reduceCtorEq, e1, e2, e_names, iSeq, e_made, e_named, dlst2, mLoop, b1, b2]
abbrev M0 : Mm := TQ.map fun t => .tab t.1 t.2
theorem law_loop (cs l : W) (c : Option U) (hf : ∀ (k : Nat) M, k < 1000 → ∃ i, m_l_cell [.p cs, .p (.int k)] M = some (.p (.int i), M)) : ∀ (its : List Nat) (M : Mm) (t u : Option U), TabOk M → (∀ k ∈ its, k < 1000) → ∃ t' u' M', mLoop (gNm 2) (mSeq (mAsg (mCall m_l_source (mCons (mCall m_l_cell (mCons (mVar 0) (mCons (mVar 2) mNil))) mNil)) (gNm 3))
        (mIf (mOr (mNot (mB (mCall m_l_right (mCons (mVar 3) mNil)))) (mNot (mB (mCall m_l_right (mCons (mVar 3) mNil))))) (mRet (mC (.bl false))) mNext)) (its.map fun k => .p (.int (k : Nat))) [some (.p cs), some (.p l), t, u] M = some (.nx, [some (.p cs), some (.p l), t', u'], M')
  | [], M, t, u, _, _ => ⟨t, u, M, rfl⟩
  | k :: its, M, t, u, hT, h => by
    obtain ⟨i, ei⟩ := hf k M (h k (List.mem_cons_self ..))
    obtain ⟨s, g, es, hg⟩ := e_source i M
    have hs : Src (M ++ [.lst [.int s, .int g, .int 0]]) M.length := src_new hT hg
    obtain ⟨M1, e1, h1, l1⟩ := e_right hs
    obtain ⟨M2, e2, h2, l2⟩ := e_right h1
    obtain ⟨t', u', M', e⟩ := law_loop cs l c hf its M2 (some (.p (.int (k : Nat)))) (some (.m M.length)) h2.2 fun k hk => h k (List.mem_cons_of_mem _ hk)
    refine ⟨t', u', M', ?_⟩
    rw [List.map_cons]
    unfold mLoop
    simp only [mDef, mSeq, mAsg, mIf, mBin, mUn, mVar, mC, mCall, mCons, mNil, mDisp, gSb, mB, gNm, gTp, gTu, seqA_tup, seqA_kt, seqA_lst, seqA_frz, gMore, gNone, mRet, mRetN, mExpr, mNot, mAnd, mOr, mIfE, mAndV, mOrV, mNotV, mPar, mFor, mMe, mCm, mTru, isB, mNext, finN, Bool.not_true, Bool.not_false, Bool.false_eq_true, Bool.true_eq_false, if_true, if_false, ite_true, ite_false, Option.bind_some, Option.bind_none, Option.map_some, Option.map_none, List.map_cons, List.map_nil, List.replicate_succ, List.replicate_zero, List.cons_append, List.nil_append, List.length_cons, List.length_nil, List.getElem?_cons_zero, List.getElem?_cons_succ, List.set_cons_zero, List.set_cons_succ, Option.join_some, Nat.reduceAdd, Nat.zero_add, Nat.reduceLeDiff, reduceCtorEq, ei, es, e1, e2, e]
theorem e_law (ns : List Int) (h : ns.length ≤ 63) : ∃ M', m_law [.p (.frz (ns.map .int))] M0 = some (.p (.bl true), M') := by
  have hl : ns.length ≤ 1000000 := by omega
  have el := len_f (ws := ns.map W.int) (M := M0) (by rw [List.length_map]; exact hl)
  rw [List.length_map] at el
  obtain ⟨n, en, hn⟩ : ∃ n : Int, (if 2 < (if (6 : Int) < ns.length then (6 : Int) else ns.length) then (if (6 : Int) < ns.length then (6 : Int) else ns.length) else 2) = n ∧ (0 ≤ n ∧ n ≤ 6) := ⟨_, rfl, by split <;> split <;> omega⟩
  have hi : intsW 0 n.toNat = (List.range n.toNat).map fun k => .p (.int (k : Nat)) := by
    unfold intsW
    refine List.map_congr_left fun k _ => ?_
    rw [Int.zero_add]
  have mn : mn2 [.p (.int ns.length), .p (.int 6)] M0 = some (.p (.int (if (6 : Int) < ns.length then (6 : Int) else ns.length)), M0) := rfl
  have mx : mx2 [.p (.int 2), .p (.int (if (6 : Int) < ns.length then (6 : Int) else ns.length))] M0 = some (.p (.int n), M0) := by
    rw [← en]
    rfl
  have rg : (if (-1000000000 : Int) ≤ n ∧ n ≤ 1000000000 then some (intsW 0 n.toNat, (M0 : Mm)) else none) = some ((List.range n.toNat).map fun k => .p (.int (k : Nat)), M0) := by
    rw [if_pos (by omega), hi]
  obtain ⟨t', u', M', e⟩ := law_loop (.frz (ns.map .int)) (.lst [.int 60, .int 20, .int 8, .int 65536, .int 64, .int 8, .int 7, .int 12]) none (fun k M hk => e_cell ns k hk hl M) (List.range n.toNat) M0 none none TabsOk.start (fun k hk => by
    have := List.mem_range.mp hk
    omega)
  have lim : rp1 [.p (.lst [.int 60, .int 20, .int 8, .int 65536, .int 64, .int 8, .int 7, .int 12])] M0 = some (.p (.str "[60, 20, 8, 65536, 64, 8, 7, 12]"), M0) := by kernel_rfl
  refine ⟨M', ?_⟩
  unfold m_law
  generalize M0 = M at *
  simp only [mDef, mSeq, mAsg, mIf, mBin, mUn, mVar, mC, mCall, mCons, mNil, mDisp, gSb, mB, gNm, gTp, gTu, seqA_tup, seqA_kt, seqA_lst, seqA_frz, gMore, gNone, mRet, mRetN, mExpr, mNot, mAnd, mOr, mIfE, mAndV, mOrV, mNotV, mPar, mFor, mMe, mCm, mTru, isB, mNext, finN, Bool.not_true, Bool.not_false, Bool.false_eq_true, Bool.true_eq_false, if_true, if_false, ite_true, ite_false, Option.bind_some, Option.bind_none, Option.map_some, Option.map_none, List.map_cons, List.map_nil, List.replicate_succ, List.replicate_zero, List.cons_append, List.nil_append, List.length_cons, List.length_nil, List.getElem?_cons_zero, List.getElem?_cons_succ, List.set_cons_zero, List.set_cons_succ, Option.join_some, Nat.reduceAdd, Nat.zero_add, Nat.reduceLeDiff, reduceCtorEq, dLst, pures, lim, ne_s, decide_true, iRg1, el, mn, mx, rg, e]
end Q01
/-! ### the end -/
namespace Q01
open PySem PySem.Spec PyProof.Rows L2 He Rt Pz
theorem law_fact {P : Program} {w : World} {K : PySem.W.Frag} {mg : Str → Option Value} (T : Txt K mg) {fa : Addr} (hfa : mg ("law" : Str) = some (.ref fa)) :
    ∃ fd : FuncData, (∀ (s : Shared) (u : Value), BindsTo s fd ⟨[u], []⟩ [("_law_cells", u)]) ∧ ∀ base : Heap, (∀ p ∈ tabs, LamX.TabB base mg (He.cT K p).1 (He.cT K p).2) → FnG P w K mg base 32 fa fd ["_law_cells"] (spW K m_law) := by
  have e := hfa.symm.trans T.g_law
  cases e
  obtain ⟨fd, F⟩ := T.F_law
  exact ⟨fd, fun s v => F.bindsA (ps := ["_law_cells"]) (fun _ _ _ _ _ _ us hl => match us, hl with | [_], _ => rfl) s [v] rfl, fun base TB => by first | exact w_law T TB F | exact w_law T F⟩
end Q01
open PySem PySem.W PySem.Calls PyProof.Rows
theorem PySem.Challenge.cw_seriesforms_k01_constants_and_errors_holds : PySem.Challenge.rw_seriesforms_k01_constants_and_errors.Holds := by
  w_on; o_law
  refine HandSHeadRun.head_any (r := OpenLaw.row PySem.Challenge.rw_seriesforms_k01_constants_and_errors) (q := view (OpenLaw.row PySem.Challenge.rw_seriesforms_k01_constants_and_errors).prog [57]) (H := Q01.hk) (ob := Q01.ob) (M := 20000) (loose := Q01.loose) (d := HandSHeadRun.topDef (OpenLaw.row PySem.Challenge.rw_seriesforms_k01_constants_and_errors).prog 57) (kwd := []) Q01.ob_eq
    (by kernel_rfl) (fun s => by kernel_rfl) Q01.run (by kernel_rfl) (by kernel_rfl) (by kernel_rfl) (by rfl) (by first | assumption | decide +kernel) (by decide +kernel) ⟨rfl, rfl, rfl, rfl, rfl, by decide +kernel⟩ ?hw ?hc
  case hw => w_witness2
  case hc =>
    refine Rt.walk_ofGT (l := PySem.Challenge.rw_seriesforms_k01_constants_and_errors) (n := 63) (k := 32) (x := "_law_cells") rfl (by decide) (by kernel_rfl) ⟨rfl, by decide, by decide⟩ ?F
    intro w mg fa h Y G hmg0
    obtain ⟨K, KX, c⟩ := Y
    have hmg : mg ("law" : PySem.Str) = some (.ref fa) := by
      have e : (HandSHeadRun.topDef (OpenLaw.row PySem.Challenge.rw_seriesforms_k01_constants_and_errors).prog 57).name = ("law" : PySem.Str) := by kernel_rfl
      rw [← e]
      exact hmg0
    have T := Q01.txt_of KX G c.r
    obtain ⟨fd, hb, hF⟩ := Q01.law_fact (P := (PySem.Challenge.rw_seriesforms_k01_constants_and_errors).prog) (w := w) T hmg
    exact ⟨K, Q01.tabs, fd, Pz.spW K Q01.m_law, KX, ⟨c.hd, c.out, c.empty⟩, hb,
      fun H a ns hl hbits hT hS => Pz.law_spT Q01.TQ (by first | exact T.tnd | exact List.nodup_nil) (B := fun ns => ∀ z ∈ ns, Builtin.Int.intBits z ≤ 1048576) (fun ns hl hb => Q01.e_law ns hl) H a ns hl hbits (fun t ht => hT t.1 ((by decide : ∀ t ∈ Q01.TQ, t.1 ∈ Q01.tabs) t ht)) hS, hF⟩
