import PyProof.Rows.All
import Wide.All
import OpenK.AllK
import Wide.FinOn
import PyProof.EqAt
import PyProof.EqKinds
import PyProof.TupleCall
import KE.KStateDown
import HandS.ForMost
import HandS.Exc
import HandS.TryOnly
import HandS.TryMany
import HandS.WordsExc
import HandS.Defaults
import HandS.Property
import HandS.FStr
import HandS.Wide
import HandS.WideBits
import HandS.IsInst
import HandS.MakeKw
import HandS.MakeKwOnly
import HandS.Head0
import HandS.Head1
import HandS.Head2
import HandS.HeadEnd
import HandS.HeadHook1
import HandS.HeadHook2
import HandS.HeadNt
import HandS.OwnEq
import KE.KCallOwn
import PySem.Challenge.RW_seriesforms_k02_ratios_in_lowest_terms
set_option Elab.async false
set_option linter.all false
set_option maxRecDepth 100000
set_option maxHeartbeats 4000000
set_option Elab.async false
set_option linter.all false
set_option maxRecDepth 100000
set_option maxHeartbeats 4000000
/-! common words: contracts with the guards told -/
namespace Rt
open PySem PySem.Spec PyProof.Rows L2
/-! ### contracts: no repr runs around (guards) -/
structure FnG (P : Program) (w : World) (K : PySem.W.Frag) (mg : Str → Option Value) (base : Heap) (k : Nat) (f : Addr) (fd : FuncData) (ps : List Str) (sp : Sp) : Prop where
  len : ∀ vs H Q E, sp vs H Q E → vs.length = ps.length
  run : ∀ (A : Around) (outer : List Env) (s : Shared) (H : Hp) (args : Args) (us : List Value) (vs : List V) (Q : VK) (E : XK), A.guards = some [] → Room k A → Env0 P w K mg base A outer s H → BindsTo s fd args (ps.zip us) → Vals vs us → sp vs H Q E →
    codeAny (model P w) A (.call (.ref f) args) (CR (L2.CX P w) outer P w H s Q E) s
section
variable {P : Program} {w : World} {K : PySem.W.Frag} {mg : Str → Option Value} {base : Heap}
theorem FnG.mono {j k : Nat} {f : Addr} {fd : FuncData} {ps : List Str} {sp : Sp} (F : FnG P w K mg base j f fd ps sp) (h : j ≤ k) : FnG P w K mg base k f fd ps sp :=
  ⟨F.len, fun A outer s H args us vs Q E hg hr => F.run A outer s H args us vs Q E hg (hr.mono h)⟩
theorem FnG.imp {k : Nat} {f : Addr} {fd : FuncData} {ps : List Str} {sp sp' : Sp} (F : FnG P w K mg base k f fd ps sp) (h : ∀ vs H Q E, sp' vs H Q E → sp vs H Q E) : FnG P w K mg base k f fd ps sp' :=
  ⟨fun vs H Q E q => F.len vs H Q E (h _ _ _ _ q), fun A outer s H args us vs Q E hg hr e b r q => F.run A outer s H args us vs Q E hg hr e b r (h _ _ _ _ q)⟩
theorem FnG.of {k : Nat} {f : Addr} {fd : FuncData} {ps : List Str} {sp : Sp} (F : FnOk P w K mg base (L2.CX P w) k f fd ps sp) : FnG P w K mg base k f fd ps sp :=
  ⟨F.len, fun A outer s H args us vs Q E _ hr => F.run A outer s H args us vs Q E hr⟩
end
end Rt
namespace Rt
open PySem PySem.Spec PyProof.Rows L2
section
variable {P : Program} {w : World} {K : PySem.W.Frag} {mg : Str → Option Value} {base : Heap}
/-- a def's body keeps its promise; the guards are told -/
theorem fn_ofG {k : Nat} {f : Addr} {name qual : Str} {params : Arguments} {body : List Stmt} {scope : Scope} {dV kV doc pm cdv ct oc : Value} {an od : Option Addr}
    {osl : Array (Option Value)} {N ps : List Str} {sp : Sp} (lk : K.lookup f = some ⟨oc, od, .func (PySem.W.fnOf name qual params body scope dV kV doc pm an cdv ct), osl⟩) (hcd : PySem.W.codeIn K cdv qual = true) (S : FnScope N ps scope)
    (len : ∀ vs H Q E, sp vs H Q E → vs.length = ps.length)
    (hbody : ∀ (A : Around) (outer : List Env) (s : Shared) (H : Hp) (vs : List V) (Q : VK) (E : XK), A.guards = some [] → Room k (A.deeper (envOfC qual scope s.heap.objs.size f cdv)) → sp vs H Q E →
      ∃ t, PSs (cxOf (L2.CX P w) P w K mg base N qual scope f cdv A outer s H E) body t ∧ t { nx := fun _ H' => Q .non H', rt := Q } (start N vs) H) :
    FnG P w K mg base (k + 1) f (PySem.W.fnOf name qual params body scope dV kV doc pm an cdv ct) ps sp := by
  refine ⟨len, fun A outer s H args us vs Q E hg hr e0 hb r hsp => ?_⟩
  have hl := len _ _ _ _ hsp
  have KX : K.In s.heap := e0.mod.kin.keeps fun b o e => (e0.bs b o e).1
  have lim : s.heap.NoLimit := e0.mod.nolimit.keeps fun b o e => (e0.bs b o e).1
  have hkind : ∀ y ∈ ps.zip us, scope.names.lookup y.1 = some .local ∨ (scope.names.lookup y.1 = some .cell ∧ ((cellsFrom (s.heap.objs.size + 1) scope.names []).lookup y.1).isSome = true) := fun ⟨n, v⟩ hy => by
    rcases S.par n (List.of_mem_zip hy).1 with q | q
    · exact .inl q
    · exact .inr ⟨q, PySem.W.cellsFrom_some _ _ _ (.inl q)⟩
  refine codeAny_call_function hr.depth (KX _ _ lk) rfl S.co S.gen rfl (PySem.W.codeRec_of KX hcd) (hb _ _ _ _ ?_)
  refine wpAny_newFunctionEnv_cells S.kind hkind fun env he s1 x => ?_
  subst he
  refine ⟨lim.keeps x.toInCall.keep, codeAny_func ?_⟩
  obtain ⟨t, ht, hq⟩ := hbody A outer s H vs Q E hg (hr.deeper _) hsp
  have I : Inv (cxOf (L2.CX P w) P w K mg base N qual scope f cdv A outer s H E) [] (start N vs) H s1 := inv_start S hr.hd e0 hl r x
  refine wpAny_mono (ht.run [] s1 (start N vs) H _ I hq) (fun fl s' hs => ?_) fun e s' hs => hs
  have fin : ∀ {σ' : L2.St} {H' : Hp} {v : V} {u : Value}, Inv (cxOf (L2.CX P w) P w K mg base N qual scope f cdv A outer s H E) [] σ' H' s' → RelV v u → Q v H' → CE outer P w H s Q u s' :=
    fun {σ' H' v u} J rv q => ⟨v, H', J.os, J.bare, J.base, J.hok, rv, q⟩
  cases fl with
  | ret u =>
    obtain ⟨v, σ', H', J, rv, q⟩ := hs
    exact fin J rv q
  | next =>
    obtain ⟨σ', H', J, q⟩ := hs
    exact fin (v := V.non) (u := Value.none) J rfl q
  | brk =>
    obtain ⟨_, _, _, q⟩ := hs
    exact False.elim q
  | cont =>
    obtain ⟨_, _, _, q⟩ := hs
    exact False.elim q
end
/-! ### a def of the text, with its defaults -/
abbrev FnD (K : PySem.W.Frag) (x qual : Str) (st : Stmt) (dvs : List V) (f : Addr) (fd : FuncData) : Prop := FunD K x qual (defArgs st) (defBody st) (defScope st) dvs [] f fd
section
variable {P : Program} {w : World} {K : PySem.W.Frag} {mg : Str → Option Value} {base : Heap}
theorem okG {x qual : Str} {st : Stmt} {dvs : List V} {f : Addr} {fd : FuncData} {N ps : List Str} {k : Nat} {sp : Sp} (F : FnD K x qual st dvs f fd) (S : FnScope N ps (defScope st)) (len : ∀ vs H Q E, sp vs H Q E → vs.length = ps.length)
    (hbody : ∀ (cdv : Value) (A : Around) (outer : List Env) (s : Shared) (H : Hp) (vs : List V) (Q : VK) (E : XK), A.guards = some [] → Room k (A.deeper (envOfC qual (defScope st) s.heap.objs.size f cdv)) → sp vs H Q E →
      ∃ t, PSs (cxOf (L2.CX P w) P w K mg base N qual (defScope st) f cdv A outer s H E).nox (defBody st) t ∧ t { nx := fun _ H' => Q .non H', rt := Q } (start N vs) H) : FnG P w K mg base (k + 1) f fd ps sp := by
  obtain ⟨oc, od, dV, kV, doc, pm, an, cdv, ct, osl, rfl, lk, hcd, _, _⟩ := F.ex
  refine fn_ofG lk hcd S len fun A outer s H vs Q E hg hr hsp => ?_
  obtain ⟨t, h, q⟩ := hbody cdv A outer s H vs Q E hg hr hsp
  exact ⟨t, h.nox, q⟩
theorem okF {x qual : Str} {st : Stmt} {dvs : List V} {f : Addr} {fd : FuncData} {N ps : List Str} {k : Nat} {sp : Sp} (F : FnD K x qual st dvs f fd) (S : FnScope N ps (defScope st)) (len : ∀ vs H Q E, sp vs H Q E → vs.length = ps.length)
    (hbody : ∀ (cdv : Value) (A : Around) (outer : List Env) (s : Shared) (H : Hp) (vs : List V) (Q : VK) (E : XK), Room k (A.deeper (envOfC qual (defScope st) s.heap.objs.size f cdv)) → sp vs H Q E →
      ∃ t, PSs (cxOf (L2.CX P w) P w K mg base N qual (defScope st) f cdv A outer s H E).nox (defBody st) t ∧ t { nx := fun _ H' => Q .non H', rt := Q } (start N vs) H) : FnOk P w K mg base (L2.CX P w) (k + 1) f fd ps sp := by
  refine F.ok S len fun cdv A outer s H vs Q E hr hsp => ?_
  obtain ⟨t, h, q⟩ := hbody cdv A outer s H vs Q E hr hsp
  exact ⟨t, h.nox, q⟩
/-- a def of the module, by its name -/
structure Gd (P : Program) (w : World) (K : PySem.W.Frag) (mg : Str → Option Value) (base : Heap) (k : Nat) (x : Str) (sp : Sp) : Prop where
  ex : ∃ f fd ps, FnOk P w K mg base (L2.CX P w) k f fd ps sp ∧ mg x = some (.ref f) ∧ PySem.W.keepIn K (.ref f) = true ∧ Binds K fd ps []
/-- the same where the guards must be told -/
structure Gg (P : Program) (w : World) (K : PySem.W.Frag) (mg : Str → Option Value) (base : Heap) (k : Nat) (x : Str) (sp : Sp) : Prop where
  ex : ∃ f fd ps, FnG P w K mg base k f fd ps sp ∧ mg x = some (.ref f) ∧ PySem.W.keepIn K (.ref f) = true ∧ Binds K fd ps []
end
section
variable {X : Cx} {k j : Nat} {x : Str} {sp : Sp} {E : XK} {p pos : Pos} {e : Expr} {es : List Expr} {t : TA}
theorem pe_gd (c : Gd X.prog X.w X.K X.mg X.base k x sp) (hr : Room j X.A) (ha : PA X (e :: es) t) (hg : Gl X x := by rfl) (hk : k ≤ j := by decide)
    (hdb : (x == ("__debug__" : Str)) = false := by decide) (he : starEach (e :: es) X.env = (false, eval e X.env) :: starEach es X.env := by rfl) (hpl : (backTo pos (starEach es X.env)).any (·.1) = false := by rfl) :
    PE X (.Call (.Name x p) (e :: es) [] pos) (tCall sp [] E0 t) := by
  obtain ⟨f, fd, ps, F, m, kp, b⟩ := c.ex
  exact pe_call F (hr.mono hk) hg m kp b .nil passL ha hdb he hpl
theorem pe_gd0 (c : Gd X.prog X.w X.K X.mg X.base k x sp) (hr : Room j X.A) (hg : Gl X x := by rfl) (hk : k ≤ j := by decide)
    (hdb : (x == ("__debug__" : Str)) = false := by decide) : PE X (.Call (.Name x p) [] [] pos) (tCall sp [] E0 tNil) := by
  obtain ⟨f, fd, ps, F, m, kp, b⟩ := c.ex
  exact pe_call0 F (hr.mono hk) hg m kp b .nil passL hdb
theorem run_fnG {pins : List (Addr × Obj)} {σ : L2.St} {H : Hp} {s : Shared} {Q : VK} {f : Addr} {fd : FuncData} {ps : List Str} {us : List Value} {vs : List V} (F : FnG X.prog X.w X.K X.mg X.base k f fd ps sp) (hG : X.A.guards = some []) (hr : Room k X.A) (hb : Binds X.K fd ps [])
    (I : Inv X pins σ H s) (r : Vals vs us) (h : sp vs H Q E0) : wpAny (model X.prog X.w) X.A (call (.ref f) us) (EP X pins σ Q) X.xe s := by
  have hl : us.length = ps.length := by rw [← r.length]; exact F.len _ _ _ _ h
  refine wpAny_call (codeAny_mono (F.run X.A X.stack s H ⟨us, []⟩ us vs Q E0 hG hr I.env0 (by have := hb s us I.kIn (by simpa using hl); simpa using this) r h) fun r s' hq => ?_)
  cases r with
  | error e => exact passL pins σ H s e s' I hq
  | ok fl =>
    cases fl with
    | ret u => exact I.after hq
    | next => exact False.elim hq
    | brk => exact False.elim hq
    | cont => exact False.elim hq
theorem pe_gg (c : Gg X.prog X.w X.K X.mg X.base k x sp) (hG : X.A.guards = some []) (hr : Room j X.A) (ha : PA X (e :: es) t) (hg : Gl X x := by rfl) (hk : k ≤ j := by decide)
    (hdb : (x == ("__debug__" : Str)) = false := by decide) (he : starEach (e :: es) X.env = (false, eval e X.env) :: starEach es X.env := by rfl) (hpl : (backTo pos (starEach es X.env)).any (·.1) = false := by rfl) :
    PE X (.Call (.Name x p) (e :: es) [] pos) (tCall sp [] E0 t) := by
  obtain ⟨f, fd, ps, F, m, kp, b⟩ := c.ex
  refine ⟨fun pins s σ H Q I h => ?_⟩
  refine wpAny_Call_Name_kw (ld_glob I hg m ?_ hdb)
  refine PySem.W.callWith_K (h₀ := X.base) I.ok.mod.kin kp (thn (ha.run pos pins s σ H _ I h) fun us s1 ⟨vs, H1, I1, r, q⟩ => ⟨I1.kIn, ?_⟩) he hpl
  have q' : sp vs H1 Q E0 := by
    have q0 : sp (vs ++ []) H1 Q E0 := q
    rw [List.append_nil] at q0
    exact q0
  exact run_fnG F hG (hr.mono hk) b I1 r q'
end
end Rt
/-! ### the head's facts: any tests of the written part, and the defs -/
namespace Rt
open PySem PySem.Spec PyProof.Rows L2 He
def obsR (fx : List (PySem.W.Frag → Bool)) (fn : List He5.DefA) (K : PySem.W.Frag) : He.AlD := ((fx.all fun f => f K) && fn.all fun d => d.ok K, fn.map fun d => He5.fnA K (d.at_ K))
def SaysR (fx : List (PySem.W.Frag → Bool)) (fn : List He5.DefA) (K : PySem.W.Frag) : Prop := obsR fx fn K = He5.valA fn
def obsRG (n : Nat) (fx : List (PySem.W.Frag → Bool)) (fn : List He5.DefA) (g : Addr → Option Obj) : He.AlD := obsR fx fn (frG g (He5.asA g n))
def hookR (n : Nat) (fx : List (PySem.W.Frag → Bool)) (fn : List He5.DefA) : PySem.W.Hook where
  α := He.AlD
  obs := fun s => obsRG n fx fn s.heap.get?
  val := fun _ => He5.valA fn
  says := fun _ h => ∃ K : PySem.W.Frag, K.In h ∧ SaysR fx fn K
  of := fun _ _ e => ⟨_, frG_in, e⟩
  keeps := fun _ _ _ ⟨K, hK, c⟩ k => ⟨K, PySem.W.Frag.In.keeps hK k, c⟩
theorem obsRG_eq {n : Nat} {fx : List (PySem.W.Frag → Bool)} {fn : List He5.DefA} {g : Addr → Option Obj} {s : Shared} (h : ∀ a, g a = s.heap.get? a) : obsRG n fx fn g = (hookR n fx fn).obs s := by
  have e : g = s.heap.get? := funext h
  rw [e] <;> rfl
section
variable {fx : List (PySem.W.Frag → Bool)} {fn : List He5.DefA} {K : PySem.W.Frag}
theorem SaysR.fact (c : SaysR fx fn K) (i : Nat) {f : PySem.W.Frag → Bool} (h : fx[i]? = some f := by rfl) : f K = true := by
  have c1 := (ba (show ((fx.all fun f => f K) && fn.all fun d => d.ok K) = true from congrArg (fun z : He.AlD => z.1) c)).1
  exact List.all_eq_true.mp c1 f (List.mem_of_getElem? h)
theorem SaysR.def_ (c : SaysR fx fn K) (i : Nat) {d : He5.DefA} (h : fn[i]? = some d := by rfl) : ∃ fd, L2.FunD K d.name d.qual d.params d.body d.scope (d.dvs K) (d.kws K) (d.at_ K) fd := by
  have c2 := (ba (show ((fx.all fun f => f K) && fn.all fun d => d.ok K) = true from congrArg (fun z : He.AlD => z.1) c)).2
  have e : fn.map (fun d => He5.fnA K (d.at_ K)) = fn.map He5.DefA.val := congrArg (fun z : He.AlD => z.2) c
  have e2 : (fn.map fun d => He5.fnA K (d.at_ K))[i]? = (fn.map He5.DefA.val)[i]? := by rw [e]
  rw [List.getElem?_map, List.getElem?_map, h] at e2
  exact He5.DefA.funD (Option.some.inj e2) (List.all_eq_true.mp c2 d (List.mem_of_getElem? h))
end
/-! ### tests of the written part -/
def fGlo (x : Str) (K : PySem.W.Frag) : Bool := (Fa.glo x).ok K
def fFree (x : Str) (K : PySem.W.Frag) : Bool := (Fa.free x).ok K
def fCls (x : Str) (K : PySem.W.Frag) : Bool := (Fa.cls x).ok K
def fNo (x f : Str) (K : PySem.W.Frag) : Bool := (Fa.noat x f).ok K
def fMeth (x m : Str) (K : PySem.W.Frag) : Bool := (Fa.meth x m).ok K
def fMk (x : Str) (K : PySem.W.Frag) : Bool := (Fa.mkr x).ok K
/-- the class has the name as this built-in -/
def fBlt (x m : Str) (id : String) (K : PySem.W.Frag) : Bool := eqO (PySem.W.findIn K (.ref (ga K x)) m) (some (some (.builtin id)))
/-- a property's getter -/
def pgA (K : PySem.W.Frag) (x f : Str) : Addr := match PySem.W.recIn K (ma K (ga K x) f) "property" with
  | some (.ref g :: _) => g
  | _ => 0
def fProp (x f : Str) (K : PySem.W.Frag) : Bool := eqO (PySem.W.findIn K (.ref (ga K x)) f) (some (some (.ref (ma K (ga K x) f)))) && (eqO (PySem.W.specialIn K (.ref (ma K (ga K x) f)) "__get__") (some (some (.builtin "property.__get__"))) &&
  (decide (PySem.W.takesIn K (.ref (ma K (ga K x) f)) = some true) && (match PySem.W.recIn K (ma K (ga K x) f) "property" with
    | some (.ref _ :: _) => true
    | _ => false)))
theorem fProp_ok {K : PySem.W.Frag} {x f : Str} (h : fProp x f K = true) : PropOf K (ga K x) f (ma K (ga K x) f) (pgA K x f) := by
  obtain ⟨h1, h⟩ := ba h
  obtain ⟨h2, h⟩ := ba h
  obtain ⟨h3, h4⟩ := ba h
  refine ⟨eqO_ok h1, eqO_ok h2, of_decide_eq_true h3, ?_⟩
  unfold pgA
  split at h4
  · rename_i g r e
    exact ⟨r, by rw [e]⟩
  · cases h4
/-- instances of the class are told by isinstance -/
def fIsi (x : Str) (K : PySem.W.Frag) : Bool := eqO (PySem.W.findIn K (.ref (ga K x)) "__class__") (some (some (.builtin "object.__class__"))) && (eqO (PySem.W.specialIn K (.builtin "object.__class__") "__get__") (some (some (.builtin "getset_descriptor.__get__"))) &&
  (decide (PySem.W.takesIn K (.builtin "object.__class__") = some true) && decide (PySem.W.mroIn K (ga K x) (.type "object") = some true)))
theorem fIsi_ok {K : PySem.W.Frag} {x : Str} (h : fIsi x K = true) (c : Cls K (ga K x)) {H : Hp} {a dx : Addr} {fs : List (Str × V)} (e : H a = some (.ins (ga K x) dx fs)) : TyOf K H (.ref a) (.ref (ga K x)) := by
  obtain ⟨h1, h⟩ := ba h
  obtain ⟨h2, h⟩ := ba h
  obtain ⟨h3, h4⟩ := ba h
  exact .ins e c (eqO_ok h1) (eqO_ok h2) (of_decide_eq_true h3) (of_decide_eq_true h4)
/-- isinstance's answer: a value of the type t, the class at c -/
def fKit (t u : PySem.W.Frag → Value) (b : Bool) (K : PySem.W.Frag) : Bool := decide (PySem.W.kitOne K (t K) (u K) = some b)
theorem fKit_ok {K : PySem.W.Frag} {t u : PySem.W.Frag → Value} {b : Bool} (h : fKit t u b K = true) : PySem.W.kitOne K (t K) (u K) = some b := of_decide_eq_true h
def oC (x : Str) (K : PySem.W.Frag) : Value := .ref (ga K x)
def oT (n : String) (_ : PySem.W.Frag) : Value := .type n
end Rt
namespace Rt
open PySem PySem.Spec PyProof.Rows L2 He
def fSub (t u : PySem.W.Frag → Value) (b : Bool) (K : PySem.W.Frag) : Bool := decide (PySem.W.subIn K (t K) (u K) = some b)
def fIntC (x : Str) (i : Int) (K : PySem.W.Frag) : Bool := (Fa.int x i).ok K
def fStrC (x z : Str) (K : PySem.W.Frag) : Bool := (Fa.str x z).ok K
end Rt
/-! ### own operators of an instance: ==, !=, truth, str, repr -/
namespace Rt
open PySem PySem.Spec PyProof.Rows L2 PySem.W
open AutoSeq1 (wpAny_loadPart')
open MeetsSeq MeetsSeq2 MeetsSeq3 SeqRoads2
section
variable {prog : Program} {w : World} {A : Around} {E : Value → Shared → Prop} {s : Shared} {K : Frag} {b C : Addr} {dx : Addr}
/-- what the built-ins see of an instance of an own class -/
theorem asInt_ins {h : Heap} {g d t os} {Q : Option Int → Shared → Prop} (hb : h.get? b = some (instObj C dx)) (q : Q none ⟨h, g, d, t, os⟩) : wpAny (model prog w) A (asInt? (.ref b)) Q E ⟨h, g, d, t, os⟩ := by
  unfold asInt?
  exact wpAny_bind (wpAny_load hb (wpAny_pure q))
theorem asStr_ins {h : Heap} {g d t os} {Q : Option Str → Shared → Prop} (hb : h.get? b = some (instObj C dx)) (q : Q none ⟨h, g, d, t, os⟩) : wpAny (model prog w) A (asStr? (.ref b)) Q E ⟨h, g, d, t, os⟩ := by
  unfold asStr?
  exact wpAny_bind (wpAny_load hb (wpAny_pure q))
theorem isI_ins {h : Heap} {g d t os} {T : String} {Q : Bool → Shared → Prop} (X : K.In h) (hb : h.get? b = some (instObj C dx)) (hs : subIn K (.ref C) (.type T) = some false) (q : Q false ⟨h, g, d, t, os⟩) : wpAny (model prog w) A (isInstance (.ref b) (.type T)) Q E ⟨h, g, d, t, os⟩ := by
  unfold isInstance
  refine wpAny_bind (wpAny_typeOf_ref hb ?_)
  exact (looks_subIn X hs).here q
theorem eq_int {i : Int} {t : Tok} {Q : Value → Shared → Prop} (hb : s.heap.get? b = some (instObj C dx)) (q : Q .notImplemented s) :
    wpAny (model prog w) A (call (.builtin "int.__eq__") [.int i t, .ref b]) Q E s := by
  refine GQ.call_here PySem.F.slot_int_eq (typeIs_int _ _ _) PySem.F.entry_int_eq (PySem.F.args_int_eq_2 _ _) ?_
  obtain ⟨hp, g, d, tk, os⟩ := s
  wp_walk using asInt_ins hb
  exact q
theorem eq_bool {i : Bool} {Q : Value → Shared → Prop} (hb : s.heap.get? b = some (instObj C dx)) (q : Q .notImplemented s) :
    wpAny (model prog w) A (call (.builtin "int.__eq__") [.bool i, .ref b]) Q E s := by
  refine GQ.call_here PySem.F.slot_bool_eq rfl PySem.F.entry_int_eq (PySem.F.args_int_eq_2 _ _) ?_
  obtain ⟨hp, g, d, tk, os⟩ := s
  wp_walk using asInt_ins hb
  exact q
theorem eq_str {i : Str} {t : Tok} {Q : Value → Shared → Prop} (hb : s.heap.get? b = some (instObj C dx)) (q : Q .notImplemented s) :
    wpAny (model prog w) A (call (.builtin "str.__eq__") [.str i t, .ref b]) Q E s := by
  refine GQ.call_here PySem.F.slot_str_eq (typeIs_str _ _ _) PySem.F.entry_str_eq (PySem.F.args_str_eq_2 _ _) ?_
  obtain ⟨hp, g, d, tk, os⟩ := s
  wp_walk using asStr_ins hb
  exact q
theorem eq_none {Q : Value → Shared → Prop} (q : Q .notImplemented s) :
    wpAny (model prog w) A (call (.builtin "NoneType.__eq__") [.none, .ref b]) Q E s := by
  refine GQ.call_here PySem.F.slot_NoneType_eq rfl PySem.F.entry_NoneType_eq (PySem.F.args_NoneType_eq_2 _ _) ?_
  obtain ⟨hp, g, d, tk, os⟩ := s
  wp_walk
  exact q
theorem eq_list {l : Addr} {its : Array Value} {n : Nat} {Q : Value → Shared → Prop} (X : K.In s.heap) (hl : s.heap.get? l = some { cls := .type "list", data := .seq its n }) (hb : s.heap.get? b = some (instObj C dx)) (hs : subIn K (.ref C) (.type "list") = some false) (q : Q .notImplemented s) :
    wpAny (model prog w) A (call (.builtin "list.__eq__") [.ref l, .ref b]) Q E s := by
  refine GQ.call_here PySem.F.slot_list_eq ⟨_, hl, rfl⟩ PySem.F.entry_list_eq (PySem.F.args_list_eq_2 _ _) ?_
  obtain ⟨hp, g, d, tk, os⟩ := s
  wp_walk using isI_ins X hb hs
  exact q
theorem eq_tuple {l : Addr} {o : Obj} {Q : Value → Shared → Prop} (X : K.In s.heap) (hl : s.heap.get? l = some o) (hc : o.cls = .type "tuple") (hb : s.heap.get? b = some (instObj C dx)) (hs : subIn K (.ref C) (.type "tuple") = some false) (q : Q .notImplemented s) :
    wpAny (model prog w) A (call (.builtin "tuple.__eq__") [.ref l, .ref b]) Q E s := by
  refine GQ.call_here PySem.F.slot_tuple_eq ⟨_, hl, hc⟩ PySem.F.entry_tuple_eq (PySem.F.args_tuple_eq_2 _ _) ?_
  obtain ⟨hp, g, d, tk, os⟩ := s
  wp_walk using isI_ins X hb hs
  exact q
theorem eq_dict {l : Addr} {o : Obj} {Q : Value → Shared → Prop} (X : K.In s.heap) (hl : s.heap.get? l = some o) (hc : o.cls = .type "dict") (hb : s.heap.get? b = some (instObj C dx)) (hs : subIn K (.ref C) (.type "dict") = some false) (q : Q .notImplemented s) :
    wpAny (model prog w) A (call (.builtin "dict.__eq__") [.ref l, .ref b]) Q E s := by
  refine GQ.call_here PySem.F.slot_dict_eq ⟨_, hl, hc⟩ PySem.F.entry_dict_eq (PySem.F.args_dict_eq_2 _ _) ?_
  obtain ⟨hp, g, d, tk, os⟩ := s
  wp_walk using isI_ins X hb hs
  exact q
theorem ne_int {i : Int} {t : Tok} {Q : Value → Shared → Prop} (hb : s.heap.get? b = some (instObj C dx)) (q : Q .notImplemented s) :
    wpAny (model prog w) A (call (.builtin "int.__ne__") [.int i t, .ref b]) Q E s := by
  refine GQ.call_here PySem.F.slot_int_ne (typeIs_int _ _ _) PySem.F.entry_int_ne (PySem.F.args_int_ne_2 _ _) ?_
  obtain ⟨hp, g, d, tk, os⟩ := s
  wp_walk using asInt_ins hb
  exact q
theorem ne_bool {i : Bool} {Q : Value → Shared → Prop} (hb : s.heap.get? b = some (instObj C dx)) (q : Q .notImplemented s) :
    wpAny (model prog w) A (call (.builtin "int.__ne__") [.bool i, .ref b]) Q E s := by
  refine GQ.call_here PySem.F.slot_bool_ne rfl PySem.F.entry_int_ne (PySem.F.args_int_ne_2 _ _) ?_
  obtain ⟨hp, g, d, tk, os⟩ := s
  wp_walk using asInt_ins hb
  exact q
theorem ne_str {i : Str} {t : Tok} {Q : Value → Shared → Prop} (hb : s.heap.get? b = some (instObj C dx)) (q : Q .notImplemented s) :
    wpAny (model prog w) A (call (.builtin "str.__ne__") [.str i t, .ref b]) Q E s := by
  refine GQ.call_here PySem.F.slot_str_ne (typeIs_str _ _ _) PySem.F.entry_str_ne (PySem.F.args_str_ne_2 _ _) ?_
  obtain ⟨hp, g, d, tk, os⟩ := s
  wp_walk using asStr_ins hb
  exact q
theorem ne_none {Q : Value → Shared → Prop} (q : Q .notImplemented s) :
    wpAny (model prog w) A (call (.builtin "NoneType.__ne__") [.none, .ref b]) Q E s := by
  refine GQ.call_here PySem.F.slot_NoneType_ne rfl PySem.F.entry_NoneType_ne (PySem.F.args_NoneType_ne_2 _ _) ?_
  obtain ⟨hp, g, d, tk, os⟩ := s
  wp_walk
  exact q
theorem ne_list {l : Addr} {its : Array Value} {n : Nat} {Q : Value → Shared → Prop} (X : K.In s.heap) (hl : s.heap.get? l = some { cls := .type "list", data := .seq its n }) (hb : s.heap.get? b = some (instObj C dx)) (hs : subIn K (.ref C) (.type "list") = some false) (q : Q .notImplemented s) :
    wpAny (model prog w) A (call (.builtin "list.__ne__") [.ref l, .ref b]) Q E s := by
  refine GQ.call_here PySem.F.slot_list_ne ⟨_, hl, rfl⟩ PySem.F.entry_list_ne (PySem.F.args_list_ne_2 _ _) ?_
  obtain ⟨hp, g, d, tk, os⟩ := s
  wp_walk using isI_ins X hb hs
  exact q
theorem ne_tuple {l : Addr} {o : Obj} {Q : Value → Shared → Prop} (X : K.In s.heap) (hl : s.heap.get? l = some o) (hc : o.cls = .type "tuple") (hb : s.heap.get? b = some (instObj C dx)) (hs : subIn K (.ref C) (.type "tuple") = some false) (q : Q .notImplemented s) :
    wpAny (model prog w) A (call (.builtin "tuple.__ne__") [.ref l, .ref b]) Q E s := by
  refine GQ.call_here PySem.F.slot_tuple_ne ⟨_, hl, hc⟩ PySem.F.entry_tuple_ne (PySem.F.args_tuple_ne_2 _ _) ?_
  obtain ⟨hp, g, d, tk, os⟩ := s
  wp_walk using isI_ins X hb hs
  exact q
theorem ne_dict {l : Addr} {o : Obj} {Q : Value → Shared → Prop} (X : K.In s.heap) (hl : s.heap.get? l = some o) (hc : o.cls = .type "dict") (hb : s.heap.get? b = some (instObj C dx)) (hs : subIn K (.ref C) (.type "dict") = some false) (q : Q .notImplemented s) :
    wpAny (model prog w) A (call (.builtin "dict.__ne__") [.ref l, .ref b]) Q E s := by
  refine GQ.call_here PySem.F.slot_dict_ne ⟨_, hl, hc⟩ PySem.F.entry_dict_ne (PySem.F.args_dict_ne_2 _ _) ?_
  obtain ⟨hp, g, d, tk, os⟩ := s
  wp_walk using isI_ins X hb hs
  exact q
end
/-! ### == and != where one side is an instance of an own class -/
section
variable {prog : Program} {w : World} {A : Around} {E : Value → Shared → Prop} {s : Shared} {K : Frag} {x C f : Addr} {ox : Obj} {od : Option Obj} {name : Str} {b tb : Value}
theorem ifBound_B {B : String} {nm : Str} {id : String} {M : Model} {args : List Value} {Q : Option Value → Shared → Prop} (X : K.In s.heap) (I : InstAt s.heap x ox C od) (hs : findIn K (.ref C) name = some (some (.builtin id))) (S : Slot B nm id)
    (h : wpAny M A (call (.builtin id) (.ref x :: args)) (fun v => Q (some v)) E s) : wpAny M A (callSpecialIfBound? (.ref x) name args) Q E s := by
  simp only [callSpecialIfBound?, bindSpecialIfBound?]
  refine wpAny_holding (wpAny_bind (wpAny_bind (wpAny_bind (I.type.here ((looks_findIn X hs).here ?_)))))
  simp only [S.bind]
  refine wpAny_bind (wpAny_askSetting (wpAny_ite ?_))
  have fin : wpAny M A (call (.builtin id) ([.ref x] ++ args) >>= fun v => pure (some v)) Q E s := wpAny_bind (wpAny_mono h (fun v s' h' => wpAny_pure h') fun _ _ h' => h')
  split
  · exact wpAny_bind (wpAny_pure (wpAny_pure fin))
  · exact wpAny_tryCatch (wpAny_bind (wpAny_pure (wpAny_pure fin)))
open Builtin in
theorem call_objNe {v : Value} {Q : Value → Shared → Prop} (hu : A.in1.units < cLine) (X : K.In s.heap) (I : InstAt s.heap x ox C od) (hm : subIn K (.ref C) (.type "object") = some true) (hs : findIn K (.ref C) "__eq__" = some (some (.ref f))) (hf : isFn K (.ref f) = true)
    (h : wpAny (model prog w) A.in1 (call (.ref f) [.ref x, v]) (fun r s' => ∃ c, r = .bool c ∧ Q (.bool (!c)) s') E s) : wpAny (model prog w) A (call (.builtin "object.__ne__") [.ref x, v]) Q E s := by
  refine wpAny_call (codeAny_call_builtin PySem.F.cmp_object.ne.plain PySem.F.cmpEntry_ne (check_slot (i := "object.__ne__") (owner := "object") (n := "__ne__") PySem.F.cmpKind_ne PySem.F.cmpSplit_ne (I.type.andThen (looks_subIn X hm)) (PySem.F.cmpArgs_ne _ _) ?_))
  unfold Builtin.«object.__ne__»
  refine wpAny_bind (m := slotArgs "__ne__" 1 _) (wpAny_pure ?_)
  refine wpAny_bind (m := cRoomFor _ _) (wpAny_cRoomFor hu ?_)
  refine wpAny_bind (m := callSpecialIfBound? (.ref x) (Str.ofString "__eq__") _) (ifBound_K X I hs hf (wpAny_mono h (fun r s' hr => ?_) fun _ _ y => y))
  obtain ⟨c, rfl, q⟩ := hr
  refine wpAny_bind (m := truthy _) (wpAny_truthy_bool ?_)
  exact wpAny_pure q
theorem try_own {nm : Str} {Q : Option Value → Shared → Prop} (X : K.In s.heap) (I : InstAt s.heap x ox C od) (hs : findIn K (.ref C) nm = some (some (.ref f))) (hf : isFn K (.ref f) = true)
    (h : wpAny (model prog w) A (call (.ref f) [.ref x, b]) (fun v s' => ∃ c, v = .bool c ∧ Q (some (.bool c)) s') E s) : wpAny (model prog w) A (tryCompare (.ref x) nm b) Q E s := by
  unfold tryCompare
  refine wpAny_bind (ifBound_K X I hs hf (wpAny_mono h (fun v s' hv => ?_) fun _ _ e => e))
  obtain ⟨c, rfl, q⟩ := hv
  exact wpAny_pure q
theorem try_ne {Q : Option Value → Shared → Prop} (hu : A.in1.units < cLine) (X : K.In s.heap) (I : InstAt s.heap x ox C od) (hn : findIn K (.ref C) "__ne__" = some (some (.builtin "object.__ne__"))) (hm : subIn K (.ref C) (.type "object") = some true)
    (hs : findIn K (.ref C) "__eq__" = some (some (.ref f))) (hf : isFn K (.ref f) = true)
    (h : wpAny (model prog w) A.in1 (call (.ref f) [.ref x, b]) (fun v s' => ∃ c, v = .bool c ∧ Q (some (.bool (!c))) s') E s) : wpAny (model prog w) A (tryCompare (.ref x) "__ne__" b) Q E s := by
  unfold tryCompare
  refine wpAny_bind (ifBound_B X I hn PySem.F.cmp_object.ne (call_objNe hu X I hm hs hf (wpAny_mono h (fun v s' hv => ?_) fun _ _ e => e)))
  obtain ⟨c, rfl, q⟩ := hv
  exact ⟨c, rfl, wpAny_pure q⟩
/-- the instance stands at the left -/
theorem rc_left {op : CmpOp} {Q : Value → Shared → Prop} (hu : A.units < cLine) (X : K.In s.heap) (I : InstAt s.heap x ox C od) (hb : Looks (model prog w) s.heap (typeOf b) tb) (hn : notFirst K C tb = true)
    (one : wpAny (model prog w) A (tryCompare (.ref x) (cmpInfo op).2.1 b) (fun r s' => ∃ v, r = some v ∧ Q v s') E s) : wpAny (model prog w) A (richCompare op (.ref x) b) Q E s := by
  unfold richCompare
  simp only [oneThing_ref]
  refine wpAny_holding (wpAny_bind (wpAny_cRoomFor hu ?_))
  refine wpAny_bind (I.type.here (wpAny_bind (hb.here ?_)))
  split
  · rename_i q
    have e : subIn K tb (.ref C) = some false := by
      rcases Bool.or_eq_true_iff.mp hn with e | e
      · rw [beq_iff_eq.mp e] at q; simp at q
      · exact beq_iff_eq.mp e
    refine wpAny_bind ((looks_subIn X e).here ?_)
    simp only [Bool.false_eq_true, if_false]
    refine wpAny_bind (wpAny_mono one (fun r s' z => ?_) fun _ _ e => e)
    obtain ⟨v, rfl, hq⟩ := z
    exact wpAny_pure hq
  · refine wpAny_bind (wpAny_pure ?_)
    simp only [Bool.false_eq_true, if_false]
    refine wpAny_bind (wpAny_mono one (fun r s' z => ?_) fun _ _ e => e)
    obtain ⟨v, rfl, hq⟩ := z
    exact wpAny_pure hq
/-- the instance stands at the right of a built-in that declines -/
theorem rc_right {op : CmpOp} {T id : String} {u : Value} {Q : Value → Shared → Prop} (hu : A.units < cLine) (X : K.In s.heap) (I : InstAt s.heap x ox C od) (hT : s.TypeIs u T) (hn : subIn K (.ref C) (.type T) = some false) (S : Slot T (cmpInfo op).2.1 id)
    (dec : wpAny (model prog w) A (call (.builtin id) [u, .ref x]) (fun v s₁ => v = .notImplemented ∧ wpAny (model prog w) A (tryCompare (.ref x) (cmpInfo op).2.2 u) (fun r s' => ∃ v, r = some v ∧ Q v s') E s₁) E s) :
    wpAny (model prog w) A (richCompare op u (.ref x)) Q E s := by
  unfold richCompare
  simp only [hT.oneThing_none]
  refine wpAny_holding (wpAny_bind (wpAny_cRoomFor hu ?_))
  refine wpAny_bind (wpAny_typeOf hT (wpAny_bind (I.type.here ?_)))
  have hne : (Value.type T != Value.ref C) = true := by simp
  rw [if_pos hne]
  refine wpAny_bind ((looks_subIn X hn).here ?_)
  simp only [Bool.false_eq_true, if_false, Bool.not_false, if_true]
  refine wpAny_bind (m := tryCompare u _ _) (wpAny_tryCompare_declines hT S (wpAny_mono dec (fun v s₁ h₁ => ⟨h₁.1, ?_⟩) fun _ _ x => x))
  refine wpAny_bind (m := tryCompare (.ref x) _ _) (wpAny_mono h₁.2 (fun r s' z => ?_) fun _ _ e => e)
  obtain ⟨v, rfl, hq⟩ := z
  exact wpAny_pure hq
end
end Rt
/-! ### the same over the layer -/
namespace Rt
open PySem PySem.Spec PyProof.Rows L2
section
variable {X : Cx} {pins : List (Addr × Obj)} {σ : L2.St} {H : Hp} {s : Shared}
theorem ty_looks {M : Model} {x : V} {u t : Value} (I : Inv X pins σ H s) (rx : RelV x u) (ty : TyX X.K H x t) : PySem.W.Looks M s.heap (typeOf u) t := by
  cases ty with
  | base b =>
    cases b with
    | non => cases (show u = Value.none from rx); exact PySem.W.Looks.of_pure rfl
    | bl y => cases (show u = Value.bool y from rx); exact PySem.W.Looks.of_pure rfl
    | int i => obtain ⟨t, q⟩ := (show ∃ t, u = Value.int i t from rx); cases q; exact PySem.W.Looks.of_pure rfl
    | str y => obtain ⟨t, q⟩ := (show ∃ t, u = Value.str y t from rx); cases q; exact PySem.W.Looks.of_pure rfl
    | flt y => obtain ⟨t, q⟩ := (show ∃ t, u = Value.float y t from rx); cases q; exact PySem.W.Looks.of_pure rfl
    | @lst a xs ea =>
      cases (show u = Value.ref a from rx)
      obtain ⟨_, _, n, _, h1⟩ := (show ObjOk X.prog X.w H s.heap a (.lst xs) from I.hok a _ ea)
      exact (PySem.W.Looks.ld (part := none) h1).andThen .now
    | @frz a ob xs ea =>
      cases (show u = Value.ref a from rx)
      obtain ⟨_, _, _, n, _, h1⟩ := (show ObjOk X.prog X.w H s.heap a (.frz ob (.lst xs)) from I.hok a _ ea)
      exact (PySem.W.Looks.ld (part := none) h1).andThen .now
    | @tup a xs ea =>
      cases (show u = Value.ref a from rx)
      obtain ⟨_, _, _, o, h1, h2, _⟩ := (show ObjOk X.prog X.w H s.heap a (.tup xs) from I.hok a _ ea)
      rw [← h2]
      exact (PySem.W.Looks.ld (part := none) h1).andThen .now
    | @dK a kvs ea =>
      cases (show u = Value.ref a from rx)
      obtain ⟨_, _, vs, _, o, es, ep, h1, h2, _⟩ := (show ObjOk X.prog X.w H s.heap a (.dK kvs) from I.hok a _ ea)
      rw [← h2.1]
      exact (PySem.W.Looks.ld (part := none) h1).andThen .now
    | @dT a kvs ea =>
      cases (show u = Value.ref a from rx)
      obtain ⟨_, _, xs, _, o, es, ep, h1, h2, _⟩ := (show ObjOk X.prog X.w H s.heap a (.dT kvs) from I.hok a _ ea)
      rw [← h2.1]
      exact (PySem.W.Looks.ld (part := none) h1).andThen .now
    | @ins a C dx fs ea cl ha hn htk hm =>
      cases (show u = Value.ref a from rx)
      obtain ⟨mA, O, _⟩ := ins_get I.hok ea
      obtain ⟨od, J, _⟩ := O.look
      exact J.type
  | byt y => obtain ⟨t, q⟩ := (show ∃ t, u = Value.bytes y t from rx); cases q; exact PySem.W.Looks.of_pure rfl
  | @set a S n ea =>
    cases (show u = Value.ref a from rx)
    obtain ⟨o, _, _, _, e, ex, _⟩ := I.hok a _ ea
    rw [← ex.1]
    exact (PySem.W.Looks.ld (part := none) e).andThen .now
  | @kList a o e c =>
    cases (show u = Value.ref a from rx)
    rw [← c]
    exact (PySem.W.Looks.ld (part := none) (I.kIn a o e)).andThen .now
  | @kTuple a o e c =>
    cases (show u = Value.ref a from rx)
    rw [← c]
    exact (PySem.W.Looks.ld (part := none) (I.kIn a o e)).andThen .now
  | @kDict a o e c =>
    cases (show u = Value.ref a from rx)
    rw [← c]
    exact (PySem.W.Looks.ld (part := none) (I.kIn a o e)).andThen .now
  | @fTuple a ob xs ea =>
    cases (show u = Value.ref a from rx)
    obtain ⟨_, _, _, _, o, h1, h2, _⟩ := (show ObjOk X.prog X.w H s.heap a (.frz ob (.tup xs)) from I.hok a _ ea)
    rw [← h2]
    exact (PySem.W.Looks.ld (part := none) h1).andThen .now
  | @fDict a ob kvs ea =>
    cases (show u = Value.ref a from rx)
    obtain ⟨_, _, _, vs, _, o, es, ep, h1, h2, _⟩ := (show ObjOk X.prog X.w H s.heap a (.frz ob (.dK kvs)) from I.hok a _ ea)
    rw [← h2.1]
    exact (PySem.W.Looks.ld (part := none) h1).andThen .now
/-- a call of a def from within a built-in -/
theorem run_at {A : Around} {k : Nat} {f : Addr} {fd : FuncData} {ps : List Str} {sp : Sp} {E : XK} {Q : VK} {us : List Value} {vs : List V} (sb : Sub X k A) (F : FnOk X.prog X.w X.K X.mg X.base (L2.CX X.prog X.w) k f fd ps sp) (hb : Binds X.K fd ps []) (hx : Passes (L2.CX X.prog X.w) X E)
    (I : Inv X pins σ H s) (r : Vals vs us) (h : sp vs H Q E) : wpAny (model X.prog X.w) A (call (.ref f) us) (EP X pins σ Q) X.xe s := by
  have hl : us.length = ps.length := by rw [← r.length]; exact F.len _ _ _ _ h
  have e0 : Env0 X.prog X.w X.K X.mg X.base A X.stack s H := by
    have e := I.env0
    exact ⟨by rw [sb.fr]; exact e.frames, e.mod, e.bs, e.bsz, e.funs, e.frf, e.hok, e.bare⟩
  refine wpAny_call (codeAny_mono (F.run A X.stack s H ⟨us, []⟩ us vs Q E sb.room e0 (by have := hb s us I.kIn (by simpa using hl); simpa using this) r h) fun r s' hq => ?_)
  cases r with
  | error e => exact hx pins σ H s e s' I hq
  | ok fl =>
    cases fl with
    | ret u => exact I.after hq
    | next => exact False.elim hq
    | brk => exact False.elim hq
    | cont => exact False.elim hq
end
/-- a special method of the class at C -/
structure Sm (P : Program) (w : World) (K : PySem.W.Frag) (mg : Str → Option Value) (base : Heap) (k : Nat) (C : Addr) (m : Str) (sp : Sp) : Prop where
  ex : ∃ f fd ps, FnOk P w K mg base (L2.CX P w) k f fd ps sp ∧ PySem.W.findIn K (.ref C) m = some (some (.ref f)) ∧ PySem.W.isFn K (.ref f) = true ∧ PySem.W.keepIn K (.ref f) = true ∧ Binds K fd ps []
/-- what a built-in value is, that declines own instances -/
inductive Dec (H : Hp) : V → String → Prop where
  | non : Dec H .non "NoneType"
  | bl (b : Bool) : Dec H (.bl b) "bool"
  | int (i : Int) : Dec H (.int i) "int"
  | str (x : Str) : Dec H (.str x) "str"
  | lst {a : Addr} {xs : List V} (e : H a = some (.lst xs)) : Dec H (.ref a) "list"
  | tup {a : Addr} {xs : List V} (e : H a = some (.tup xs)) : Dec H (.ref a) "tuple"
  | dK {a : Addr} {kvs : List (Key × V)} (e : H a = some (.dK kvs)) : Dec H (.ref a) "dict"
section
variable {X : Cx} {pins : List (Addr × Obj)} {σ : L2.St} {H : Hp} {s : Shared}
theorem Sub.here {k : Nat} (hr : Room k X.A) : Sub X k X.A := ⟨hr, rfl⟩
theorem ins_at {a C dx : Addr} {fs : List (Str × V)} (I : Inv X pins σ H s) (e : H a = some (.ins C dx fs)) : ∃ od, PySem.W.InstAt s.heap a (PySem.W.instObj C dx) C (some od) := by
  obtain ⟨mA, O, _⟩ := ins_get I.hok e
  obtain ⟨od, J, _⟩ := O.look
  exact ⟨od, J⟩
/-- it declines, == and != -/
theorem Dec.run {A : Around} {E : Value → Shared → Prop} {x : V} {u : Value} {T : String} {b C dx : Addr} {fs : List (Str × V)} (d : Dec H x T) (I : Inv X pins σ H s) (rx : RelV x u) (eb : H b = some (.ins C dx fs)) (hs : PySem.W.subIn X.K (.ref C) (.type T) = some false) :
    s.TypeIs u T ∧ (∃ id, Slot T (cmpInfo .Eq).2.1 id ∧ ∀ Q : Value → Shared → Prop, Q .notImplemented s → wpAny (model X.prog X.w) A (call (.builtin id) [u, .ref b]) Q E s) ∧
      ∃ id, Slot T (cmpInfo .NotEq).2.1 id ∧ ∀ Q : Value → Shared → Prop, Q .notImplemented s → wpAny (model X.prog X.w) A (call (.builtin id) [u, .ref b]) Q E s := by
  obtain ⟨od, J⟩ := ins_at I eb
  have hb := J.at_
  cases d with
  | non =>
    cases (show u = Value.none from rx)
    exact ⟨rfl, ⟨_, PySem.F.slot_NoneType_eq, fun Q q => eq_none q⟩, ⟨_, PySem.F.slot_NoneType_ne, fun Q q => ne_none q⟩⟩
  | bl y =>
    cases (show u = Value.bool y from rx)
    exact ⟨rfl, ⟨_, PySem.F.slot_bool_eq, fun Q q => eq_bool hb q⟩, ⟨_, PySem.F.slot_bool_ne, fun Q q => ne_bool hb q⟩⟩
  | int i =>
    obtain ⟨t, q⟩ := (show ∃ t, u = Value.int i t from rx)
    cases q
    exact ⟨typeIs_int _ _ _, ⟨_, PySem.F.slot_int_eq, fun Q q => eq_int hb q⟩, ⟨_, PySem.F.slot_int_ne, fun Q q => ne_int hb q⟩⟩
  | str y =>
    obtain ⟨t, q⟩ := (show ∃ t, u = Value.str y t from rx)
    cases q
    exact ⟨typeIs_str _ _ _, ⟨_, PySem.F.slot_str_eq, fun Q q => eq_str hb q⟩, ⟨_, PySem.F.slot_str_ne, fun Q q => ne_str hb q⟩⟩
  | @lst a xs ea =>
    cases (show u = Value.ref a from rx)
    obtain ⟨_, _, n, _, h1⟩ := (show ObjOk X.prog X.w H s.heap a (.lst xs) from I.hok a _ ea)
    exact ⟨⟨_, h1, rfl⟩, ⟨_, PySem.F.slot_list_eq, fun Q q => eq_list I.kIn h1 hb hs q⟩, ⟨_, PySem.F.slot_list_ne, fun Q q => ne_list I.kIn h1 hb hs q⟩⟩
  | @tup a xs ea =>
    cases (show u = Value.ref a from rx)
    obtain ⟨_, _, _, o, h1, h2, _⟩ := (show ObjOk X.prog X.w H s.heap a (.tup xs) from I.hok a _ ea)
    exact ⟨⟨_, h1, h2⟩, ⟨_, PySem.F.slot_tuple_eq, fun Q q => eq_tuple I.kIn h1 h2 hb hs q⟩, ⟨_, PySem.F.slot_tuple_ne, fun Q q => ne_tuple I.kIn h1 h2 hb hs q⟩⟩
  | @dK a kvs ea =>
    cases (show u = Value.ref a from rx)
    obtain ⟨_, _, vs, _, o, es, ep, h1, h2, _⟩ := (show ObjOk X.prog X.w H s.heap a (.dK kvs) from I.hok a _ ea)
    exact ⟨⟨_, h1, h2.1⟩, ⟨_, PySem.F.slot_dict_eq, fun Q q => eq_dict I.kIn h1 h2.1 hb hs q⟩, ⟨_, PySem.F.slot_dict_ne, fun Q q => ne_dict I.kIn h1 h2.1 hb hs q⟩⟩
/-- x == y, one of them an instance of the class at C: its __eq__'s promise -/
def rEqO (K : PySem.W.Frag) (C : Addr) (sp : Sp) (neg : Bool) : R2 := fun x y H Q =>
  (∃ a dx fs t, x = .ref a ∧ H a = some (.ins C dx fs) ∧ TyX K H y t ∧ PySem.W.notFirst K C t = true ∧ sp [x, y] H (fun v H' => ∃ c, v = .bl c ∧ Q (.bl (if neg then !c else c)) H') E0) ∨
  (∃ b dx fs T, y = .ref b ∧ H b = some (.ins C dx fs) ∧ Dec H x T ∧ PySem.W.subIn K (.ref C) (.type T) = some false ∧ sp [y, x] H (fun v H' => ∃ c, v = .bl c ∧ Q (.bl (if neg then !c else c)) H') E0)
theorem bl_end {Q : VK} {Q2 : Value → Shared → Prop} {v : Value} {s' : Shared} {f : Bool → V} (h : EP X pins σ (fun v H' => ∃ c, v = .bl c ∧ Q (f c) H') v s') (k : ∀ c H', Inv X pins σ H' s' → Q (f c) H' → Q2 (.bool c) s') : ∃ c, v = .bool c ∧ Q2 (.bool c) s' := by
  obtain ⟨w, H', I', rw_, c, rfl, q⟩ := h
  cases (show v = Value.bool c from rw_)
  exact ⟨c, rfl, k c H' I' q⟩
theorem op_eqO {k : Nat} {C : Addr} {sp : Sp} (c : Sm X.prog X.w X.K X.mg X.base k C "__eq__" sp) (hr : Room k X.A) : OpR X (compareOp .Eq) (rEqO X.K C sp false) := by
  intro pins s σ H x y v u Q I rx ry h
  obtain ⟨f, fd, ps, F, hs, hf, kp, b⟩ := c.ex
  show wpAny (model X.prog X.w) X.A (richCompare .Eq v u) (EP X pins σ Q) X.xe s
  rcases h with ⟨a, dx, fs, t, rfl, ea, ty, hn, q⟩ | ⟨a, dx, fs, T, rfl, ea, d, hn, q⟩
  · cases (show v = Value.ref a from rx)
    obtain ⟨od, J⟩ := ins_at I ea
    refine rc_left hr.units0 I.kIn J (ty_looks I ry ty) hn (try_own I.kIn J hs hf (thn (run_at (Sub.here hr) F b passL I (.cons rx (.cons ry .nil)) q) fun w s' hw => ?_))
    obtain ⟨z, H', I', rz, c, rfl, q'⟩ := hw
    cases (show w = Value.bool c from rz)
    exact ⟨c, rfl, _, rfl, .bl c, H', I', rfl, q'⟩
  · cases (show u = Value.ref a from ry)
    obtain ⟨od, J⟩ := ins_at I ea
    obtain ⟨hT, ⟨id, S, dec⟩, _⟩ := d.run (A := X.A) (E := X.xe) I rx ea hn
    refine rc_right hr.units0 I.kIn J hT hn S (dec _ ⟨rfl, ?_⟩)
    refine try_own I.kIn J hs hf (thn (run_at (Sub.here hr) F b passL I (.cons ry (.cons rx .nil)) q) fun w s' hw => ?_)
    obtain ⟨z, H', I', rz, c, rfl, q'⟩ := hw
    cases (show w = Value.bool c from rz)
    exact ⟨c, rfl, _, rfl, .bl c, H', I', rfl, q'⟩
theorem op_neO {k : Nat} {C : Addr} {sp : Sp} (c : Sm X.prog X.w X.K X.mg X.base k C "__eq__" sp) (hn1 : PySem.W.findIn X.K (.ref C) "__ne__" = some (some (.builtin "object.__ne__"))) (hm : PySem.W.subIn X.K (.ref C) (.type "object") = some true) (hr : Room (k + 1) X.A) : OpR X (compareOp .NotEq) (rEqO X.K C sp true) := by
  intro pins s σ H x y v u Q I rx ry h
  obtain ⟨f, fd, ps, F, hs, hf, kp, b⟩ := c.ex
  show wpAny (model X.prog X.w) X.A (richCompare .NotEq v u) (EP X pins σ Q) X.xe s
  have sb : Sub X k X.A.in1 := ⟨hr.in1, rfl⟩
  rcases h with ⟨a, dx, fs, t, rfl, ea, ty, hn, q⟩ | ⟨a, dx, fs, T, rfl, ea, d, hn, q⟩
  · cases (show v = Value.ref a from rx)
    obtain ⟨od, J⟩ := ins_at I ea
    refine rc_left hr.units0 I.kIn J (ty_looks I ry ty) hn (try_ne hr.in1.units0 I.kIn J hn1 hm hs hf (thn (run_at sb F b passL I (.cons rx (.cons ry .nil)) q) fun w s' hw => ?_))
    obtain ⟨z, H', I', rz, c, rfl, q'⟩ := hw
    cases (show w = Value.bool c from rz)
    exact ⟨c, rfl, _, rfl, .bl (!c), H', I', rfl, q'⟩
  · cases (show u = Value.ref a from ry)
    obtain ⟨od, J⟩ := ins_at I ea
    obtain ⟨hT, _, ⟨id, S, dec⟩⟩ := d.run (A := X.A) (E := X.xe) I rx ea hn
    refine rc_right hr.units0 I.kIn J hT hn S (dec _ ⟨rfl, ?_⟩)
    refine try_ne hr.in1.units0 I.kIn J hn1 hm hs hf (thn (run_at sb F b passL I (.cons ry (.cons rx .nil)) q) fun w s' hw => ?_)
    obtain ⟨z, H', I', rz, c, rfl, q'⟩ := hw
    cases (show w = Value.bool c from rz)
    exact ⟨c, rfl, _, rfl, .bl (!c), H', I', rfl, q'⟩
/-- truth by an own __bool__ -/
def rTru (C : Addr) (sp : Sp) : V → Hp → (Bool → Hp → Prop) → Prop := fun x H Q => ∃ a dx fs, x = .ref a ∧ H a = some (.ins C dx fs) ∧ sp [x] H (fun v H' => ∃ c, v = .bl c ∧ Q c H') E0
theorem tru_own {k : Nat} {C : Addr} {sp : Sp} (c : Sm X.prog X.w X.K X.mg X.base k C "__bool__" sp) {A : Around} (sb : Sub X k A) {x : V} {v : Value} {Q : Bool → Hp → Prop} (I : Inv X pins σ H s) (rx : RelV x v) (h : rTru C sp x H Q) : wpAny (model X.prog X.w) A (truthy v) (TP X pins σ Q) X.xe s := by
  obtain ⟨f, fd, ps, F, hs, hf, kp, b⟩ := c.ex
  obtain ⟨a, dx, fs, rfl, ea, q⟩ := h
  cases (show v = Value.ref a from rx)
  obtain ⟨od, J⟩ := ins_at I ea
  obtain ⟨m, hF⟩ := I.fr
  refine PySem.W.truthy_K hF I.ok.mod.kin J hs hf (thn (run_at sb F b passL I (.cons rx .nil) q) fun w s' hw => ?_)
  obtain ⟨z, H', I', rz, c, rfl, q'⟩ := hw
  cases (show w = Value.bool c from rz)
  exact ⟨H', I', q'⟩
def tTruO (C : Addr) (sp : Sp) (ta : TE) : TT := fun σ H Q => ta σ H fun x H1 => rTru C sp x H1 Q
theorem pt_own {k : Nat} {C : Addr} {sp : Sp} {e : Expr} {ta : TE} (c : Sm X.prog X.w X.K X.mg X.base k C "__bool__" sp) (hr : Room k X.A) (ha : PE X e ta) (he : ∀ whole, isTrue e X.env whole = (do let v ← whole; standAt e.pos; holding [v] (truthy v)) := by intro _; rfl) : PT X e (tTruO C sp ta) := by
  refine ⟨fun pins s σ H Q I h => ?_⟩
  rw [he]
  refine wpAny_bind (thn (ha.run pins s σ H _ I h) fun v s1 ⟨x, H1, I1, r1, q1⟩ => ?_)
  exact wpAny_bind (wpAny_standAt (wpAny_holding (tru_own c (Sub.here hr) I1 r1 q1)))
/-- not x, as a value -/
def tNotO (C : Addr) (sp : Sp) (ta : TE) : TE := fun σ H Q => ta σ H fun x H1 => rTru C sp x H1 fun c H2 => Q (.bl (!c)) H2
theorem pe_notO {k : Nat} {C : Addr} {sp : Sp} {e : Expr} {ta : TE} {pos : Pos} (c : Sm X.prog X.w X.K X.mg X.base k C "__bool__" sp) (hr : Room k X.A) (ha : PE X e ta) : PE X (.UnaryOp .Not e pos) (tNotO C sp ta) := by
  refine ⟨fun pins s σ H Q I h => ?_⟩
  refine UnaryOp_ (thn (ha.run pins s σ H _ I h) fun v s1 ⟨x, H1, I1, r1, q1⟩ => ?_)
  exact not_of (thn (tru_own c (Sub.here hr) I1 r1 q1) fun c s2 ⟨H2, I2, q2⟩ => ⟨.bl (!c), H2, I2, rfl, q2⟩)
/-- repr(x), str(x), by an own def -/
def rStrO (C : Addr) (sp : Sp) : List V → Hp → VK → Prop := fun xs H Q => ∃ a dx fs, xs = [.ref a] ∧ H a = some (.ins C dx fs) ∧ sp xs H (fun v H' => ∃ y, v = .str y ∧ Q (.str y) H') E0
theorem call_reprO {k : Nat} {C : Addr} {sp : Sp} (c : Sm X.prog X.w X.K X.mg X.base k C "__repr__" sp) (hr : Room (k + 1) X.A) : CallR X (.builtin "repr") (rStrO C sp) := by
  intro pins s σ H xs us Q I r h
  obtain ⟨f, fd, ps, F, hs, hf, kp, b⟩ := c.ex
  obtain ⟨a, dx, fs, rfl, ea, q⟩ := h
  have e := Vals.ref1 r
  subst e
  obtain ⟨od, J⟩ := ins_at I ea
  obtain ⟨m, hF⟩ := I.fr
  refine PySem.W.repr_K hr.in1.units0 hF I.ok.mod.kin J hs hf (thn (run_at ⟨hr.in1, rfl⟩ F b passL I r q) fun w s' hw => ?_)
  obtain ⟨z, H', I', rz, y, rfl, q'⟩ := hw
  obtain ⟨t, rfl⟩ := (show ∃ t, w = Value.str y t from rz)
  exact ⟨.str y, H', I', ⟨t, rfl⟩, q'⟩
theorem call_strO {k : Nat} {C : Addr} {sp : Sp} (c : Sm X.prog X.w X.K X.mg X.base k C "__str__" sp) (hr : Room (k + 2) X.A) : CallR X (.type "str") (rStrO C sp) := by
  intro pins s σ H xs us Q I r h
  obtain ⟨f, fd, ps, F, hs, hf, kp, b⟩ := c.ex
  obtain ⟨a, dx, fs, rfl, ea, q⟩ := h
  have e := Vals.ref1 r
  subst e
  obtain ⟨od, J⟩ := ins_at I ea
  refine PySem.W.kso_call hr.in1.in1.units0 I.kIn J hs hf (thn (run_at ⟨hr.in1.in1, rfl⟩ F b passL I r q) fun w s' hw => ?_)
  obtain ⟨z, H', I', rz, y, rfl, q'⟩ := hw
  obtain ⟨t, rfl⟩ := (show ∃ t, w = Value.str y t from rz)
  exact ⟨.str y, H', I', ⟨t, rfl⟩, q'⟩
end
end Rt
/-! ### bool(x) by an own __bool__; repr of data -/
namespace Rt
open PySem PySem.Spec PyProof.Rows L2
section
open PySem.W
variable {prog : Program} {w : World} {A : Around} {E : Value → Shared → Prop} {s : Shared} {K : Frag} {x C f : Addr} {ox : Obj} {od : Option Obj}
theorem bool_call {Q : Value → Shared → Prop} (X : K.In s.heap) (I : W.InstAt s.heap x ox C od) (hs : findIn K (.ref C) "__bool__" = some (some (.ref f))) (hf : isFn K (.ref f) = true)
    (h : wpAny (model prog w) A.in1.in1 (call (.ref f) [.ref x]) (W.BoolBack fun b s' => Q (.bool b) s') E s) : wpAny (model prog w) A (call (.type "bool") [.ref x]) Q E s := by
  have tr : wpAny (model prog w) A.in1.in1 (truthy (.ref x)) (fun b s' => Q (.bool b) s') E s := by
    unfold truthy
    refine wpAny_bind (m := callSpecial? (.ref x) (Str.ofString "__bool__")) (special_fn X I hs (beq_iff_eq.mp hf) (wpAny_mono h (fun r s' hr => ?_) fun _ _ y => y))
    cases r <;> first | exact hr.elim | skip
    exact wpAny_pure hr
  refine callType_codes (T := "bool") (Bi := Builtin.«object.__init__») (Q₁ := fun r s₁ => ∃ b, r = .bool b ∧ Q r s₁) PySem.F.called_bool (PySem.F.typeCall_bool_1 _) PySem.F.entry_object_init ?_ ?_
  · refine codeAny_of_tree ?_
    show wpAny _ A.in1.in1 (do checkBuiltinCall "bool.__new__" ⟨[.type "bool", .ref x], []⟩; again (.builtin "bool.__new__" ⟨[.type "bool", .ref x], []⟩)) _ _ s
    refine wpAny_bind (wpAny_of_eq (PySem.F.newCall_bool_1 _) (wpAny_pure ⟨plainId_quiet (by decide +kernel) _, codeAny_builtin PySem.F.entry_bool_new ?_⟩))
    rw [Around.under_plainId (by decide +kernel) _]
    have f1 := PySem.F.conv_sub_bool
    obtain ⟨hp, g, d, tk, os⟩ := s
    repeat (any_goals (first | assumption | (with_reducible refine wpAny_mono tr (fun b s' q => ?_) fun _ _ y => y) | wp_step))
    all_goals exact ⟨b, rfl, q⟩
  · rintro obj s₁ ⟨y, rfl, hq⟩
    exact ⟨rfl, PySem.F.args_object_init_2 _ _, object_init_meets PySem.F.called_bool.init.lookup PySem.F.called_bool.made (by decide) prog w A.in1 _ s₁ ⟨rfl, rfl, hq⟩⟩
end
mutual
/-- the datum that a value is, by the abstract heap -/
inductive DatV (H : Hp) : V → PyData → Prop
  | non : DatV H .non .none
  | bl (b : Bool) : DatV H (.bl b) (.bool b)
  | int (i : Int) : DatV H (.int i) (.int i)
  | str (x : Str) : DatV H (.str x) (.str x)
  | lst {a : Addr} {xs : List V} {ds : List PyData} (e : H a = some (.lst xs)) (r : DatVs H xs ds) : DatV H (.ref a) (.list ds)
  | tup {a : Addr} {xs : List V} {ds : List PyData} (e : H a = some (.tup xs)) (r : DatVs H xs ds) : DatV H (.ref a) (.tuple ds)
inductive DatVs (H : Hp) : List V → List PyData → Prop
  | nil : DatVs H [] []
  | cons {x : V} {d : PyData} {xs : List V} {ds : List PyData} (h : DatV H x d) (t : DatVs H xs ds) : DatVs H (x :: xs) (d :: ds)
end
section
variable {X : Cx} {pins : List (Addr × Obj)} {σ : L2.St} {H : Hp} {s : Shared}
mutual
theorem reads_of (I : Inv X pins σ H s) : ∀ {x : V} {d : PyData} {u : Value}, DatV H x d → RelV x u → ∃ as, Reads s.heap u d as
  | _, _, u, .non, r => by cases (show u = Value.none from r); exact ⟨_, .none⟩
  | _, _, u, .bl b, r => by cases (show u = Value.bool b from r); exact ⟨_, .bool b⟩
  | _, _, u, .int i, r => by obtain ⟨t, rfl⟩ := (show ∃ t, u = Value.int i t from r); exact ⟨_, .int i t⟩
  | _, _, u, .str x, r => by obtain ⟨t, rfl⟩ := (show ∃ t, u = Value.str x t from r); exact ⟨_, .str x t⟩
  | _, _, u, .lst (a := a) (xs := xs) e r0, r => by
    cases (show u = Value.ref a from r)
    obtain ⟨_, its, n, rv, h1⟩ := (show ObjOk X.prog X.w H s.heap a (.lst xs) from I.hok a _ e)
    obtain ⟨as, q⟩ := readsAll_of I r0 rv
    exact ⟨_, .list h1 rfl rfl (by simpa using q)⟩
  | _, _, u, .tup (a := a) (xs := xs) e r0, r => by
    cases (show u = Value.ref a from r)
    obtain ⟨_, its, rv, o, h1, h2, n, h3⟩ := (show ObjOk X.prog X.w H s.heap a (.tup xs) from I.hok a _ e)
    obtain ⟨as, q⟩ := readsAll_of I r0 rv
    exact ⟨_, .tuple h1 h2 h3 (by simpa using q)⟩
theorem readsAll_of (I : Inv X pins σ H s) : ∀ {xs : List V} {ds : List PyData} {us : List Value}, DatVs H xs ds → Vals xs us → ∃ as, ReadsAll s.heap us ds as
  | _, _, _, .nil, .nil => ⟨_, .nil⟩
  | _, _, _, .cons h t, .cons r rs => by
    obtain ⟨as, q⟩ := reads_of I h r
    obtain ⟨bs, qs⟩ := readsAll_of I t rs
    exact ⟨_, .cons q qs⟩
end
/-- repr(x) of a list or a tuple of data -/
def rReprD : List V → Hp → VK → Prop := fun xs H Q => ∃ a d, xs = [.ref a] ∧ DatV H (.ref a) d ∧ d.showable = true ∧ d.hasDict = false ∧ d.depth ≤ 20 ∧ d.shown.length ≤ sizeLine ∧ Q (.str d.shown) H
theorem call_reprD (hG : X.A.guards = some []) {k : Nat} (hr : Room k X.A) : CallR X (.builtin "repr") rReprD := by
  intro pins s σ H xs us Q I r h
  obtain ⟨a, d, rfl, hd, h1, h2, h3, h4, q⟩ := h
  have e := Vals.ref1 r
  subst e
  obtain ⟨as, R⟩ := reads_of I hd rfl
  refine repr_of_reads' (h₀ := s.heap) R h1 (PyData.noDict_hsm h2) hG (by have := hr.un; omega) (fun _ _ e => e) (fun h' u tk k => ?_) h4
  exact ⟨.str d.shown, H, I.kept k, ⟨u, rfl⟩, q⟩
def rBoolO (C : Addr) (sp : Sp) : List V → Hp → VK → Prop := fun xs H Q => ∃ a dx fs, xs = [.ref a] ∧ H a = some (.ins C dx fs) ∧ sp xs H (fun v H' => ∃ c, v = .bl c ∧ Q (.bl c) H') E0
theorem call_boolO {k : Nat} {C : Addr} {sp : Sp} (c : Sm X.prog X.w X.K X.mg X.base k C "__bool__" sp) (hr : Room (k + 2) X.A) : CallR X (.type "bool") (rBoolO C sp) := by
  intro pins s σ H xs us Q I r h
  obtain ⟨f, fd, ps, F, hs, hf, kp, b⟩ := c.ex
  obtain ⟨a, dx, fs, rfl, ea, q⟩ := h
  have e := Vals.ref1 r
  subst e
  obtain ⟨od, J⟩ := ins_at I ea
  refine bool_call I.kIn J hs hf (thn (run_at ⟨hr.in1.in1, rfl⟩ F b passL I r q) fun w s' hw => ?_)
  obtain ⟨z, H', I', rz, y, rfl, q'⟩ := hw
  cases (show w = Value.bool y from rz)
  exact ⟨.bl y, H', I', rfl, q'⟩
/-! ### numbers -/
theorem op_mulA : OpR X (binaryOp .Mult) (rI IntMulOk fun i j => .int (i * j)) := opI fun _ _ _ _ _ _ _ hc q => mul_int q hc
def CFd (_ j : Int) : Prop := j ≠ 0 ∧ j.natAbs.log2 < 9000
theorem op_fdA : OpR X (binaryOp .FloorDiv) (rI CFd fun i j => .int (i.fdiv j)) := opI fun _ _ _ _ _ _ _ hc q => floordiv_int hc.1 q (.inl (PyProof.noPylong_of_log2 hc.2))
def CDm (_ j : Int) : Prop := 0 < j ∧ j.natAbs.log2 < 9000
theorem call_divmodA : CallR X (.builtin "divmod") (fun xs H Q => ∃ i j, xs = [.int i, .int j] ∧ CDm i j ∧ ∀ p, H p = none → Q (.ref p) (upd H p (.tup [.int (i / j), .int (i % j)]))) := by
  intro pins s σ H xs us Q I r h
  obtain ⟨i, j, e, ⟨h1, h2⟩, q⟩ := h
  exact call_divmodW pins s σ H xs us Q I r ⟨i, j, e, ⟨h1, PyProof.noPylong_of_log2 h2⟩, q⟩
end
end Rt
/-! ### short forms of rules, for readings by machine -/
namespace Rt
open PySem PySem.Spec PyProof.Rows L2
section
variable {X : Cx}
def rInt : List V → Hp → VK → Prop := fun xs H Q => ∃ i, xs = [.int i] ∧ Q (.int i) H
theorem call_intI : CallR X (.type "int") rInt := by
  intro pins s σ H xs us Q I r h
  obtain ⟨i, e, q⟩ := h
  exact call_int1 pins s σ H xs us Q I r (.inl ⟨i, e, q⟩)
def rBoolI : List V → Hp → VK → Prop := fun xs H Q => ∃ i, xs = [.int i] ∧ Q (.bl (i != 0)) H
theorem call_boolI : CallR X (.type "bool") rBoolI := by
  intro pins s σ H xs us Q I r h
  obtain ⟨i, e, q⟩ := h
  exact call_bool1 pins s σ H xs us Q I r (.inl ⟨i, e, q⟩)
def rAbs : List V → Hp → VK → Prop := fun xs H Q => ∃ i, xs = [.int i] ∧ Q (.int (i.natAbs : Int)) H
theorem call_absI : CallR X (.builtin "abs") rAbs := by
  intro pins s σ H xs us Q I r h
  obtain ⟨i, e, q⟩ := h
  refine call_abs pins s σ H xs us Q I r ⟨i, e, ?_⟩
  have e2 : (if i < 0 then -i else i) = (i.natAbs : Int) := by split <;> omega
  rw [e2]
  exact q
theorem ne_n {H : Hp} {a b : Addr} {o : HO} (h' : H b = none) (h : H a = some o) : a ≠ b := ne_of_none h h'
theorem ne_n' {H : Hp} {a b : Addr} {o : HO} (h' : H b = none) (h : H a = some o) : b ≠ a := (ne_of_none h h').symm
theorem iteD {p A B : Prop} [Decidable p] (h1 : p → A) (h2 : ¬ p → B) : if decide p = true then A else B := by
  by_cases h : p
  · rw [if_pos (decide_eq_true h)]
    exact h1 h
  · rw [if_neg (by rw [decide_eq_false h]; exact Bool.false_ne_true)]
    exact h2 h
theorem iteN {p A B : Prop} [Decidable p] (h1 : ¬ p → A) (h2 : p → B) : if (!decide p) = true then A else B := by
  by_cases h : p
  · rw [if_neg (by rw [decide_eq_true h]; exact Bool.false_ne_true)]
    exact h2 h
  · rw [if_pos (by rw [decide_eq_false h] <;> rfl)]
    exact h1 h
/-- all but a is kept -/
def Kp (a : Addr) (H H' : Hp) : Prop := ∀ b o, b ≠ a → H b = some o → H' b = some o
theorem Kp.refl {a : Addr} {H : Hp} : Kp a H H := fun _ _ _ e => e
theorem Kp.trans {a : Addr} {H H1 H2 : Hp} (x : Kp a H H1) (y : Kp a H1 H2) : Kp a H H2 := fun b o n e => y b o n (x b o n e)
theorem Kp.of {a : Addr} {H H' : Hp} (x : Same H H') : Kp a H H' := fun b o _ e => x b o e
theorem Kp.new {a p : Addr} {H H1 : Hp} {o : HO} (x : Kp a H H1) (hp : H1 p = none) : Kp a H (upd H1 p o) := fun b u n e => by
  have e1 := x b u n e
  rw [upd_ne (ne_of_none e1 hp)]
  exact e1
theorem Kp.at {a : Addr} {H H1 : Hp} {o : HO} (x : Kp a H H1) : Kp a H (upd H1 a o) := fun b u n e => by
  rw [upd_ne n]
  exact x b u n e
theorem Same.new {p : Addr} {H H1 : Hp} {o : HO} (x : Same H H1) (hp : H1 p = none) : Same H (upd H1 p o) := fun b u e => by
  have e1 := x b u e
  rw [upd_ne (ne_of_none e1 hp)]
  exact e1
theorem Same.newp {p : Addr} {H : Hp} {o : HO} (hp : H p = none) : Same H (upd H p o) := Same.new (Same.refl H) hp
end
end Rt
/-! ### promises by arguments; makers; properties -/
namespace Rt
open PySem PySem.Spec PyProof.Rows L2
def Sp1 (f : V → Hp → VK → XK → Prop) : Sp := fun vs H Q E => ∃ a, vs = [a] ∧ f a H Q E
def Sp2 (f : V → V → Hp → VK → XK → Prop) : Sp := fun vs H Q E => ∃ a b, vs = [a, b] ∧ f a b H Q E
def Sp3 (f : V → V → V → Hp → VK → XK → Prop) : Sp := fun vs H Q E => ∃ a b c, vs = [a, b, c] ∧ f a b c H Q E
theorem Sp1.len {f : V → Hp → VK → XK → Prop} {vs : List V} {H : Hp} {Q : VK} {E : XK} (h : Sp1 f vs H Q E) : vs.length = 1 := by
  obtain ⟨a, rfl, _⟩ := h
  rfl
theorem Sp2.len {f : V → V → Hp → VK → XK → Prop} {vs : List V} {H : Hp} {Q : VK} {E : XK} (h : Sp2 f vs H Q E) : vs.length = 2 := by
  obtain ⟨a, b, rfl, _⟩ := h
  rfl
theorem Sp3.len {f : V → V → V → Hp → VK → XK → Prop} {vs : List V} {H : Hp} {Q : VK} {E : XK} (h : Sp3 f vs H Q E) : vs.length = 3 := by
  obtain ⟨a, b, c, rfl, _⟩ := h
  rfl
/-- a class, made by its __init__ -/
structure Mkr (P : Program) (w : World) (K : PySem.W.Frag) (mg : Str → Option Value) (base : Heap) (k : Nat) (x : Str) (C : Addr) (sp : Sp) (dvs : List V) : Prop where
  ex : ∃ f fd ps ds, Mk K C f ∧ FnOk P w K mg base (L2.CX P w) k f fd ps sp ∧ mg x = some (.ref C) ∧ Binds K fd ps ds ∧ Vals dvs ds
structure MkrK (P : Program) (w : World) (K : PySem.W.Frag) (mg : Str → Option Value) (base : Heap) (k : Nat) (x : Str) (C : Addr) (sp : Sp) (ks : List Str) (gV : List V → List V → List V) : Prop where
  ex : ∃ f fd ps g, Mk K C f ∧ FnOk P w K mg base (L2.CX P w) k f fd ps sp ∧ mg x = some (.ref C) ∧ KBn K fd ps 1 ks g gV
/-- a property -/
structure Prp (P : Program) (w : World) (K : PySem.W.Frag) (mg : Str → Option Value) (base : Heap) (k : Nat) (C : Addr) (f : Str) (sp : Sp) : Prop where
  ex : Cls K C ∧ ∃ p g fd ps, PropOf K C f p g ∧ FnOk P w K mg base (L2.CX P w) k g fd ps sp ∧ Binds K fd ps []
section
variable {X : Cx} {k j : Nat} {x f : Str} {C : Addr} {sp : Sp} {p pos : Pos} {e : Expr} {es : List Expr} {t : TA} {ta : TE} {dvs : List V}
theorem pe_mkr (c : Mkr X.prog X.w X.K X.mg X.base k x C sp dvs) (hr : Room j X.A) (ha : PA X (e :: es) t) (hg : Gl X x := by rfl) (hk : k + 1 ≤ j := by decide)
    (hdb : (x == ("__debug__" : Str)) = false := by decide) (he : starEach (e :: es) X.env = (false, eval e X.env) :: starEach es X.env := by rfl) (hpl : (backTo pos (starEach es X.env)).any (·.1) = false := by rfl) :
    PE X (.Call (.Name x p) (e :: es) [] pos) (tMake C sp dvs E0 t) := by
  obtain ⟨f, fd, ps, ds, M, F, m, b, v⟩ := c.ex
  exact pe_make M F (hr.mono hk) hg m b v passL ha hdb he hpl
theorem pe_mkrK {kws : List Keyword} {tk : TA} {ks : List Str} {gV : List V → List V → List V} (c : MkrK X.prog X.w X.K X.mg X.base k x C sp ks gV) (hr : Room j X.A) (hkw : PK X kws tk) (hg : Gl X x := by rfl) (hk : k + 1 ≤ j := by decide)
    (hall : (backToKw pos (keywordEach kws X.env)).all (·.1.isSome) = true := by rfl) (hks : (backToKw pos (keywordEach kws X.env)).filterMap (·.1) = ks := by rfl) (hdb : (x == ("__debug__" : Str)) = false := by decide)
    (hpl : ((backTo pos (starEach [] X.env)).any (·.1) || (backToKw pos (keywordEach kws X.env)).any (·.1.isNone)) = false := by rfl) : PE X (.Call (.Name x p) [] kws pos) (tMakeK C 0 ks.length sp gV E0 tNil tk) := by
  obtain ⟨f, fd, ps, g, M, F, m, b⟩ := c.ex
  exact pe_makeK0 M F (hr.mono hk) hg m b passL hkw hall hks hdb hpl
theorem pe_prp (c : Prp X.prog X.w X.K X.mg X.base k C f sp) (hr : Room j X.A) (he : PE X e ta) (hab : attributeBase e f X.env (eval e X.env) = eval e X.env := by rfl) (hk : k + 1 ≤ j := by decide) : PE X (.Attribute e f pos) (tProp C sp [] E0 ta) := by
  obtain ⟨cl, p, g, fd, ps, hp, F, b⟩ := c.ex
  exact pe_prop he cl hp F (hr.mono hk) b .nil passL hab
end
/-- keywords over a def with defaults, no keyword-only ones: n positional values, keywords ks -/
theorem kbindsD {K : PySem.W.Frag} {x qual : Str} {params : Arguments} {body : List Stmt} {scope : Scope} {dvs : List V} {f : Addr} {fd : FuncData} {ps : List Str} (F : FunD K x qual params body scope dvs [] f fd) (n : Nat) (ks : List Str)
    (g : {α : Type} → List α → List α → List α → List α) (hd : dvs ≠ []) (hrel : ∀ {vs ds zs : List V} {us its ws : List Value}, Vals vs us → Vals ds its → Vals zs ws → Vals (g vs ds zs) (g us its ws))
    (h : ∀ (T : Addr) (kV doc pm : Value) (an : Option Addr) (cdv ct : Value) (us its ws : List Value), us.length = n → its.length = dvs.length → ws.length = ks.length →
      ∃ k, bindArgs (PySem.W.fnOf x qual params body scope (.ref T) kV doc pm an cdv ct) ⟨us, ks.zip ws⟩ = seqItems? (.ref T) >>= k ∧ k (some its.toArray) = pure (ps.zip (g us its ws))) :
    ∃ its : List Value, KBn K fd ps n ks (fun us ws => g us its ws) (fun vs zs => g vs dvs zs) := by
  obtain ⟨oc, od, dV, kV, doc, pm, an, cdv, ct, osl, rfl, lk, hcd, hD, hK⟩ := F.ex
  rcases hD with ⟨e, _⟩ | ⟨_, T, o, its, m, rfl, lT, oT, rT⟩
  · exact absurd e hd
  · refine ⟨its, ⟨fun s us ws X l1 l2 => ?_, fun r1 r2 => hrel r1 rT r2⟩⟩
    obtain ⟨k, e1, e2⟩ := h T kV doc pm an cdv ct us its ws l1 rT.length.symm l2
    refine BindsTo.of_looks fun M => ?_
    rw [e1]
    exact looks_items X lT oT (.of_pure e2)
/-! ### whether a value is an integer -/
/-- the value's type, and whether it is an int and no bool -/
structure IsI (K : PySem.W.Frag) (H : Hp) (v : V) (t : Value) (b : Bool) : Prop where
  ty : TyX K H v t
  ex : ∃ b1 b2, PySem.W.kitOne K t (.type "int") = some b1 ∧ PySem.W.kitOne K t (.type "bool") = some b2 ∧ b = (b1 && !b2)
section
variable {K : PySem.W.Frag} {H : Hp}
theorem IsI.int (i : Int) : IsI K H (.int i) (.type "int") true := ⟨.base (.int i), true, false, kit_ty (by decide +kernel), kit_ty (by decide +kernel), rfl⟩
theorem IsI.bl (b : Bool) : IsI K H (.bl b) (.type "bool") false := ⟨.base (.bl b), true, true, kit_ty (by decide +kernel), kit_ty (by decide +kernel), rfl⟩
theorem IsI.non : IsI K H .non (.type "NoneType") false := ⟨.base .non, false, false, kit_ty (by decide +kernel), kit_ty (by decide +kernel), rfl⟩
theorem IsI.str (x : Str) : IsI K H (.str x) (.type "str") false := ⟨.base (.str x), false, false, kit_ty (by decide +kernel), kit_ty (by decide +kernel), rfl⟩
theorem IsI.lst {a : Addr} {xs : List V} (e : H a = some (.lst xs)) : IsI K H (.ref a) (.type "list") false := ⟨.base (.lst e), false, false, kit_ty (by decide +kernel), kit_ty (by decide +kernel), rfl⟩
theorem IsI.tup {a : Addr} {xs : List V} (e : H a = some (.tup xs)) : IsI K H (.ref a) (.type "tuple") false := ⟨.base (.tup e), false, false, kit_ty (by decide +kernel), kit_ty (by decide +kernel), rfl⟩
theorem IsI.dK {a : Addr} {kvs : List (Key × V)} (e : H a = some (.dK kvs)) : IsI K H (.ref a) (.type "dict") false := ⟨.base (.dK e), false, false, kit_ty (by decide +kernel), kit_ty (by decide +kernel), rfl⟩
end
end Rt
/-! ### plain laws: data that is shown -/
namespace Rt
open PySem PySem.Spec PyProof.Rows L2
/-- a leaf of a shown list, short -/
inductive Leaf : PyData → Prop
  | non : Leaf .none
  | bl (b : Bool) : Leaf (.bool b)
  | int {i : Int} (h : i.natAbs.log2 < 1920) : Leaf (.int i)
  | str {x : Str} (h : ∀ c ∈ x.cps.toList, c < 16 ^ 8) (n : x.length ≤ 10000) : Leaf (.str x)
theorem Leaf.show {d : PyData} (h : Leaf d) : d.showable = true := by
  cases h with
  | non => rfl
  | bl b => rfl
  | int h => simp only [PyData.showable, h, decide_true]
  | str h n => rfl
theorem Leaf.nod {d : PyData} (h : Leaf d) : d.hasDict = false := by
  cases h <;> rfl
theorem Leaf.dep {d : PyData} (h : Leaf d) : d.depth = 0 := by
  cases h <;> rfl
theorem Leaf.len {d : PyData} (h : Leaf d) : d.shown.length ≤ 100002 := by
  cases h with
  | non => decide
  | bl b => cases b <;> decide
  | @int i h =>
    have := int_text_len_1921 h
    simp only [PyData.shown]
    omega
  | @str x h n =>
    have := StrLaws.reprText_len x h
    simp only [PyData.shown]
    omega
theorem leafs_all : ∀ {ds : List PyData}, (∀ d ∈ ds, Leaf d) → PyData.showableAll ds = true ∧ PyData.hasDictAll ds = false ∧ PyData.depthAll ds = 0 ∧ ((PyData.shownAll ds).map (·.length)).sum ≤ 100002 * ds.length ∧ (PyData.shownAll ds).length = ds.length
  | [], _ => ⟨rfl, rfl, rfl, by simp [PyData.shownAll], rfl⟩
  | d :: ds, h => by
    obtain ⟨h1, h2, h3, h4, h5⟩ := leafs_all (fun x hx => h x (List.mem_cons_of_mem _ hx))
    have l := h d List.mem_cons_self
    refine ⟨by simp [PyData.showableAll, l.show, h1], by simp [PyData.hasDictAll, l.nod, h2], by simp [PyData.depthAll, l.dep, h3], ?_, by simp [PyData.shownAll, h5]⟩
    have := l.len
    simp only [PyData.shownAll, List.map_cons, List.sum_cons, List.length_cons]
    omega
theorem leafs_list {ds : List PyData} (h : ∀ d ∈ ds, Leaf d) (n : ds.length ≤ 100) : (PyData.list ds).showable = true ∧ (PyData.list ds).hasDict = false ∧ (PyData.list ds).depth ≤ 20 ∧ (PyData.list ds).shown.length ≤ sizeLine := by
  obtain ⟨h1, h2, h3, h4, h5⟩ := leafs_all h
  refine ⟨by simp [PyData.showable, h1], by simp [PyData.hasDict, h2], by simp [PyData.depth, h3], ?_⟩
  have := textFrom_len_le (PyData.shownAll ds) 0 "["
  have e : (("[" : String) : Str).length = 1 := rfl
  have e2 : (("]" : String) : Str).length = 1 := rfl
  simp only [PyData.shown, listText, Str.length_append]
  have z : sizeLine = 16777216 := by decide
  omega
def rReprL : List V → Hp → VK → Prop := fun xs H Q => ∃ a ys ds, xs = [.ref a] ∧ H a = some (.lst ys) ∧ DatVs H ys ds ∧ (∀ d ∈ ds, Leaf d) ∧ ds.length ≤ 100 ∧ Q (.str (PyData.list ds).shown) H
section
variable {X : Cx}
theorem call_reprL (hG : X.A.guards = some []) {k : Nat} (hr : Room k X.A) : CallR X (.builtin "repr") rReprL := by
  intro pins s σ H xs us Q I r h
  obtain ⟨a, ys, ds, e, ea, hd, hl, hn, q⟩ := h
  obtain ⟨h1, h2, h3, h4⟩ := leafs_list hl hn
  exact call_reprD hG hr pins s σ H xs us Q I r ⟨a, _, e, .lst ea hd, h1, h2, h3, h4, q⟩
end
/-- a heap that no goal names: a goal that unifies with it has no heap yet -/
@[irreducible] def Hbad : Hp := fun _ => some (.own 0)
theorem hp_probe {a : Addr} {o : HO} (h : Hbad a = some o) : Hbad a = some o := h
@[irreducible] def Abad : Addr := 0
theorem ne_probe {b : Addr} (h : Abad ≠ b) : Abad ≠ b := h
theorem ne_probe2 {b : Addr} (h : b ≠ Abad) : b ≠ Abad := h
theorem kp_at {H H' : Hp} {a b : Addr} {o : HO} (s : Kp a H H') (n : b ≠ a) (h : H b = some o) : H' b = some o := s b o n h
theorem sz_line : sizeLine = 16777216 := by decide
theorem same_at {H H' : Hp} {a : Addr} {o : HO} (s : Same H H') (h : H a = some o) : H' a = some o := s a o h
section
variable {X : Cx}
theorem op_eqI : OpR X (compareOp .Eq) (rI0 fun i j => .bl (decide (i = j))) := by
  intro pins s σ H x y v u Q I rx ry h
  obtain ⟨i, j, rfl, rfl, q⟩ := h
  refine op_eq pins s σ H _ _ v u Q I rx ry ⟨rfl, ?_⟩
  rw [dec_int]
  exact q
theorem op_neI : OpR X (compareOp .NotEq) (rI0 fun i j => .bl (!decide (i = j))) := by
  intro pins s σ H x y v u Q I rx ry h
  obtain ⟨i, j, rfl, rfl, q⟩ := h
  refine op_ne pins s σ H _ _ v u Q I rx ry ⟨rfl, ?_⟩
  rw [dec_int]
  exact q
end
section
variable {X : Cx}
def rS0 (g : Str → Str → V) : R2 := fun x y H Q => ∃ i j, x = .str i ∧ y = .str j ∧ Q (g i j) H
theorem op_eqS : OpR X (compareOp .Eq) (rS0 fun i j => .bl (decide (i = j))) := by
  intro pins s σ H x y v u Q I rx ry h
  obtain ⟨i, j, rfl, rfl, q⟩ := h
  refine op_eq pins s σ H _ _ v u Q I rx ry ⟨rfl, ?_⟩
  have e : decide (V.str i = V.str j) = decide (i = j) := by
    by_cases h : i = j
    · rw [decide_eq_true h, decide_eq_true (congrArg V.str h)]
    · rw [decide_eq_false h, decide_eq_false fun z => h (V.str.inj z)]
  rw [e]
  exact q
theorem op_neS : OpR X (compareOp .NotEq) (rS0 fun i j => .bl (!decide (i = j))) := by
  intro pins s σ H x y v u Q I rx ry h
  obtain ⟨i, j, rfl, rfl, q⟩ := h
  refine op_ne pins s σ H _ _ v u Q I rx ry ⟨rfl, ?_⟩
  have e : decide (V.str i = V.str j) = decide (i = j) := by
    by_cases h : i = j
    · rw [decide_eq_true h, decide_eq_true (congrArg V.str h)]
    · rw [decide_eq_false h, decide_eq_false fun z => h (V.str.inj z)]
  rw [e]
  exact q
def rPowL (b e c : Int) : R2 := fun x y H Q => (x = .int b ∧ y = .int e) ∧ Q (.int c) H
theorem op_powL (b e c : Int) (hc : CPow b e) (h : b ^ e.toNat = c) : OpR X (binaryOp .Pow) (rPowL b e c) := by
  intro pins s σ H x y v u Q I rx ry q
  obtain ⟨⟨rfl, rfl⟩, q⟩ := q
  exact op_pow pins s σ H _ _ v u Q I rx ry ⟨b, e, rfl, rfl, hc, by
    show Q (.int (b ^ e.toNat)) H
    rw [h]
    exact q⟩
end
theorem kp_snoc {a : Addr} {H H1 H2 : Hp} (y : Kp a H1 H2) (x : Kp a H H1) : Kp a H H2 := x.trans y
theorem kp_new {a p : Addr} {H H1 : Hp} {o : HO} (hp : H1 p = none) (x : Kp a H H1) : Kp a H (upd H1 p o) := x.new hp
theorem same_snoc {H H1 H2 : Hp} (y : Same H1 H2) (x : Same H H1) : Same H H2 := x.trans y
theorem same_new {p : Addr} {H H1 : Hp} {o : HO} (hp : H1 p = none) (x : Same H H1) : Same H (upd H1 p o) := Rt.Same.new x hp
theorem kp_same {a : Addr} {H H1 H2 : Hp} (y : Same H1 H2) (x : Kp a H H1) : Kp a H H2 := x.trans (.of y)
theorem datv_bls {H : Hp} : ∀ bs : List Bool, DatVs H (bs.map V.bl) (bs.map PyData.bool)
  | [] => .nil
  | b :: bs => .cons (.bl b) (datv_bls bs)
theorem leaf_bls (bs : List Bool) : ∀ d ∈ bs.map PyData.bool, Leaf d := by
  intro d hd
  obtain ⟨b, _, rfl⟩ := List.mem_map.mp hd
  exact .bl b
/-- repr of a list of bools -/
theorem reprL_bls {H : Hp} {Q : VK} {a : Addr} {ys : List V} (bs : List Bool) (e : H a = some (.lst ys)) (h : ys = bs.map V.bl) (n : bs.length ≤ 100) (q : Q (.str (PyData.list (bs.map PyData.bool)).shown) H) : rReprL [.ref a] H Q := by
  subst h
  exact ⟨a, _, _, rfl, e, datv_bls bs, leaf_bls bs, by simpa using n, q⟩
theorem kp_done {H H' : Hp} {D : Addr} (h : Kp D H H') (hD : H D = none) : Same H H' := fun b o e => h b o (ne_of_none e hD) e
/-! ### ints as texts -/
theorem cps_int (i : Int) : ∀ c ∈ ((toString i : String) : Str).cps.toList, c < 16 ^ 8 := by
  intro c hc
  have e : ((toString i : String) : Str).cps.toList = (toString i).toList.map Char.toNat := by
    exact signs_ofString _
  rw [e] at hc
  obtain ⟨ch, _, rfl⟩ := List.mem_map.mp hc
  have := ch.valid
  have h2 : ch.toNat < 1114112 := by
    have := ch.valid
    unfold UInt32.isValidChar Nat.isValidChar at this
    show ch.val.toNat < _
    omega
  omega
theorem cps_app {a b : Str} (ha : ∀ c ∈ a.cps.toList, c < 16 ^ 8) (hb : ∀ c ∈ b.cps.toList, c < 16 ^ 8) : ∀ c ∈ (a ++ b).cps.toList, c < 16 ^ 8 := by
  intro c hc
  rw [Str.cps_append] at hc
  simp only [Array.toList_append, List.mem_append] at hc
  exact hc.elim (ha c) (hb c)
theorem mul_bd {x y : Int} (A B : Nat) {C : Nat} (hx : x.natAbs ≤ A) (hy : y.natAbs ≤ B) (h : A * B < C) : (x * y).natAbs < C := by
  rw [Int.natAbs_mul]
  exact Nat.lt_of_le_of_lt (Nat.mul_le_mul hx hy) h
/-! ### ratios in lowest terms -/
/-- the divisor that __init__ takes -/
def rby (n d : Int) : Int := if 0 < d then (Int.gcd n d : Int) else -(Int.gcd n d : Int)
def rtop (n d : Int) : Int := n.fdiv (rby n d)
def rbot (n d : Int) : Int := d.fdiv (rby n d)
theorem gcd_pos {n d : Int} (h : d ≠ 0) : 0 < Int.gcd n d := Int.gcd_pos_of_ne_zero_right n h
theorem rby_ne {n d : Int} (h : d ≠ 0) : rby n d ≠ 0 := by
  have := gcd_pos (n := n) h
  unfold rby
  split <;> omega
theorem rby_dvd (n d : Int) : rby n d ∣ n ∧ rby n d ∣ d := by
  unfold rby
  split
  · exact ⟨Int.gcd_dvd_left .., Int.gcd_dvd_right ..⟩
  · exact ⟨Int.neg_dvd.mpr (Int.gcd_dvd_left ..), Int.neg_dvd.mpr (Int.gcd_dvd_right ..)⟩
theorem rtop_mul (n d : Int) : rtop n d * rby n d = n := Int.fdiv_mul_cancel (rby_dvd n d).1
theorem rbot_mul (n d : Int) : rbot n d * rby n d = d := Int.fdiv_mul_cancel (rby_dvd n d).2
theorem rbot_pos {n d : Int} (h : d ≠ 0) : 0 < rbot n d := by
  have e := rbot_mul n d
  have g := gcd_pos (n := n) h
  unfold rby at e
  split at e
  · rename_i hd
    have h1 : 0 < rbot n d * (Int.gcd n d : Int) := by omega
    have h2 : (0 : Int) < (Int.gcd n d : Int) := by omega
    exact Int.pos_of_mul_pos_left h1 h2
  · rename_i hd
    have h1 : 0 < rbot n d * (Int.gcd n d : Int) := by
      have : rbot n d * -(Int.gcd n d : Int) = -(rbot n d * (Int.gcd n d : Int)) := Int.mul_neg _ _
      omega
    have h2 : (0 : Int) < (Int.gcd n d : Int) := by omega
    exact Int.pos_of_mul_pos_left h1 h2
theorem r_cross (n d : Int) : n * rbot n d = d * rtop n d := by
  have e1 := rtop_mul n d
  have e2 := rbot_mul n d
  generalize rtop n d = p at *
  generalize rbot n d = q at *
  rw [← e1, ← e2]
  grind
theorem r_gcd {n d : Int} (h : d ≠ 0) : Int.gcd (rtop n d) (rbot n d) = 1 := by
  have g := gcd_pos (n := n) h
  have e : Int.gcd (rtop n d * rby n d) (rbot n d * rby n d) = Int.gcd (rtop n d) (rbot n d) * (rby n d).natAbs := Int.gcd_mul_right ..
  rw [rtop_mul, rbot_mul] at e
  have e2 : (rby n d).natAbs = Int.gcd n d := by
    unfold rby
    split <;> omega
  rw [e2] at e
  have : 1 * Int.gcd n d = Int.gcd (rtop n d) (rbot n d) * Int.gcd n d := by omega
  exact (Nat.eq_of_mul_eq_mul_right g this).symm
theorem dvd_cop {a b c : Int} (h : a ∣ b * c) (g : Int.gcd a b = 1) : a ∣ c := by
  have h1 : a.natAbs ∣ b.natAbs * c.natAbs := by
    have := Int.natAbs_dvd_natAbs.mpr h
    rwa [Int.natAbs_mul] at this
  exact Int.natAbs_dvd_natAbs.mp (Nat.Coprime.dvd_of_dvd_mul_left g h1)
/-- lowest terms are told by the cross product -/
theorem r_uniq {p q p' q' : Int} (hq : 0 < q) (hq' : 0 < q') (g : Int.gcd p q = 1) (g' : Int.gcd p' q' = 1) (e : p * q' = p' * q) : p = p' ∧ q = q' := by
  have d1 : q ∣ q' := by
    have : q ∣ p * q' := e ▸ Int.dvd_mul_left ..
    exact dvd_cop this (by rw [Int.gcd_comm]; exact g)
  have d2 : q' ∣ q := by
    have : q' ∣ p' * q := e ▸ Int.dvd_mul_left ..
    exact dvd_cop this (by rw [Int.gcd_comm]; exact g')
  have eq : q = q' := Int.dvd_antisymm (by omega) (by omega) d1 d2
  subst eq
  exact ⟨Int.eq_of_mul_eq_mul_right (by omega) e, rfl⟩
theorem r_eq {n d p q : Int} (h : d ≠ 0) (hq : 0 < q) (g : Int.gcd p q = 1) (e : n * q = p * d) : rtop n d = p ∧ rbot n d = q := by
  refine r_uniq (rbot_pos h) hq (r_gcd h) g ?_
  have e1 := rtop_mul n d
  have e2 := rbot_mul n d
  have hb := rby_ne (n := n) h
  refine Int.eq_of_mul_eq_mul_right hb ?_
  calc rtop n d * q * rby n d = n * q := by rw [← e1]; grind
    _ = p * d := e
    _ = p * rbot n d * rby n d := by rw [← e2]; grind
theorem r_self {p q : Int} (hq : 0 < q) (g : Int.gcd p q = 1) : rtop p q = p ∧ rbot p q = q := r_eq (by omega) hq g rfl
theorem r_neg {n d : Int} (h : d ≠ 0) : rtop (-n) (-d) = rtop n d ∧ rbot (-n) (-d) = rbot n d := by
  refine r_eq (by omega) (rbot_pos h) (r_gcd h) ?_
  have := r_cross n d
  grind
theorem r_one (n : Int) : rtop n 1 = n ∧ rbot n 1 = 1 := r_eq (by decide) (by decide) (by simp) (by omega)
theorem rtop_abs {n d : Int} (h : d ≠ 0) : (rtop n d).natAbs ≤ n.natAbs := by
  have e := rtop_mul n d
  have e2 : (rtop n d).natAbs * (rby n d).natAbs = n.natAbs := by rw [← Int.natAbs_mul, e]
  have := rby_ne (n := n) h
  have : 1 ≤ (rby n d).natAbs := by omega
  have := Nat.le_mul_of_pos_right (rtop n d).natAbs this
  omega
theorem rbot_abs {n d : Int} (h : d ≠ 0) : (rbot n d).natAbs ≤ d.natAbs := by
  have e := rbot_mul n d
  have e2 : (rbot n d).natAbs * (rby n d).natAbs = d.natAbs := by rw [← Int.natAbs_mul, e]
  have := rby_ne (n := n) h
  have : 1 ≤ (rby n d).natAbs := by omega
  have := Nat.le_mul_of_pos_right (rbot n d).natAbs this
  omega
/-- the text of a ratio -/
def rstr (p q : Int) : Str := if q = 1 then ((toString p : String) : Str) else ((toString p : String) : Str) ++ ("/" : Str) ++ ((toString q : String) : Str)
def rrep (p q : Int) : Str := ("Ratio(" : Str) ++ ((toString p : String) : Str) ++ (", " : Str) ++ ((toString q : String) : Str) ++ (")" : Str)
theorem log_lt {i : Int} {k : Nat} (h : i.natAbs < 2 ^ k) (hk : 0 < k) : i.natAbs.log2 < k := by
  by_cases z : i.natAbs = 0
  · rw [z]
    simpa using hk
  · exact (Nat.log2_lt z).mpr h
theorem log_le {a b k : Nat} (h : a ≤ b) (hb : b.log2 < k) : a.log2 < k := by
  by_cases z : a = 0
  · rw [z]
    have : (0 : Nat).log2 = 0 := by decide
    omega
  · exact (Nat.log2_lt z).mpr (Nat.lt_of_le_of_lt h ((Nat.log2_lt (by omega)).mp hb))
theorem gcd_le {n d : Int} (h : d ≠ 0) : Int.gcd n d ≤ d.natAbs := Nat.le_of_dvd (by omega) (Nat.gcd_dvd_right ..)
theorem cfd_gcd {m n d : Int} (h : d ≠ 0) (hl : d.natAbs.log2 < 9000) : CFd m (Int.gcd n d : Int) ∧ CFd m (-(Int.gcd n d : Int)) := by
  have g := gcd_pos (n := n) h
  have l := log_le (gcd_le (n := n) h) hl
  refine ⟨⟨by omega, ?_⟩, ⟨by omega, ?_⟩⟩
  · rw [Int.natAbs_natCast]
    exact l
  · rw [Int.natAbs_neg, Int.natAbs_natCast]
    exact l
theorem rby_p {n d : Int} (h : 0 < d) : rby n d = (Int.gcd n d : Int) := if_pos h
theorem rby_n {n d : Int} (h : ¬ 0 < d) : rby n d = -(Int.gcd n d : Int) := if_neg h
theorem leaf_rstr {p q : Int} (hp : p.natAbs.log2 < 1920) (hq : q.natAbs.log2 < 1920) : Leaf (.str (rstr p q)) := by
  have h1 := int_text_len_1921 hp
  have h2 := int_text_len_1921 hq
  unfold rstr
  split
  · exact .str (cps_int p) (by omega)
  · refine .str (cps_app (cps_app (cps_int p) (by decide)) (cps_int q)) ?_
    have e : ("/" : Str).length = 1 := rfl
    rw [Str.length_append, Str.length_append]
    omega
theorem leaf_rrep {p q : Int} (hp : p.natAbs.log2 < 1920) (hq : q.natAbs.log2 < 1920) : Leaf (.str (rrep p q)) := by
  have h1 := int_text_len_1921 hp
  have h2 := int_text_len_1921 hq
  unfold rrep
  refine .str (cps_app (cps_app (cps_app (cps_app (by decide) (cps_int p)) (by decide)) (cps_int q)) (by decide)) ?_
  have e : ("Ratio(" : Str).length = 6 := rfl
  have e2 : (", " : Str).length = 2 := rfl
  have e3 : (")" : Str).length = 1 := rfl
  rw [Str.length_append, Str.length_append, Str.length_append, Str.length_append]
  omega
end Rt
/-! ### forms that name K -/
namespace Rt
open PySem PySem.Spec PyProof.Rows L2
theorem near1 {p q : Int} (hq : 0 < q) : (decide (p = rtop (p + 1) q) && decide (q = rbot (p + 1) q)) = false := by
  have := r_cross (p + 1) q
  rw [Bool.and_eq_false_iff]
  by_cases z : p = rtop (p + 1) q
  · right
    refine decide_eq_false fun z2 => ?_
    rw [← z, ← z2] at this
    have z3 : (p + 1) * q = p * q + q := by rw [Int.add_mul, Int.one_mul]
    have z4 : q * p = p * q := Int.mul_comm ..
    omega
  · left
    exact decide_eq_false z
theorem near2 {p q : Int} (hq : 0 < q) : (decide (rtop (p + 1) q = p) && decide (rbot (p + 1) q = q)) = false := by
  have e := near1 (p := p) hq
  have c1 : decide (rtop (p + 1) q = p) = decide (p = rtop (p + 1) q) := decide_eq_decide.mpr eq_comm
  have c2 : decide (rbot (p + 1) q = q) = decide (q = rbot (p + 1) q) := decide_eq_decide.mpr eq_comm
  rw [c1, c2]
  exact e
def toB : V → Bool
  | .bl b => b
  | _ => false
theorem reprL_tb {H : Hp} {Q : VK} {a : Addr} {ys : List V} (e : H a = some (.lst ys)) (h : ys = (ys.map toB).map V.bl) (n : (ys.map toB).length ≤ 100) (q : Q (.str (PyData.list ((ys.map toB).map PyData.bool)).shown) H) : rReprL [.ref a] H Q := reprL_bls _ e h n q
theorem fin_eq {bs1 bs2 : List Bool} {Q : VK} {H : Hp} (e : bs1 = bs2) (q : Q (.bl true) H) : Q (.bl (decide ((PyData.list (bs1.map PyData.bool)).shown = (PyData.list (bs2.map PyData.bool)).shown))) H := by
  rw [decide_eq_true (congrArg (fun bs => (PyData.list (List.map PyData.bool bs)).shown) e)]
  exact q
end Rt
namespace Rt
open PySem PySem.Spec PyProof.Rows L2
section
variable {X : Cx}
theorem op_eqK {K0 : PySem.W.Frag} {k : Nat} {C : Addr} {sp : Sp} (c : Sm X.prog X.w X.K X.mg X.base k C "__eq__" sp) (hr : Room k X.A) (hK : X.K = K0 := by rfl) : OpR X (compareOp .Eq) (rEqO K0 C sp false) := by
  subst hK
  exact op_eqO c hr
theorem op_neK {K0 : PySem.W.Frag} {k : Nat} {C : Addr} {sp : Sp} (c : Sm X.prog X.w X.K X.mg X.base k C "__eq__" sp) (hn1 : PySem.W.findIn K0 (.ref C) "__ne__" = some (some (.builtin "object.__ne__"))) (hm : PySem.W.subIn K0 (.ref C) (.type "object") = some true) (hr : Room (k + 1) X.A) (hK : X.K = K0 := by rfl) : OpR X (compareOp .NotEq) (rEqO K0 C sp true) := by
  subst hK
  exact op_neO c hn1 hm hr
end
/-- [e for x in xs], each value told by its element; the values may lay new records -/
theorem lc_map {K : PySem.W.Frag} {a : Addr} {xs : List V} {g : TG} {tt : TT} {te : TE} {vs : List Nat} {σ : L2.St} {H1 : Hp} {D : Addr} {Qd : Hp → Prop} (f : V → V) (hD : H1 D = none) (ha : H1 a = some (.lst xs)) (hn : xs.length < sizeLine)
    (hs : ∀ x H, x ∈ xs → Same H1 H → ∀ (R : V → Hp → Prop) (N : Hp → Prop), (∀ y H4, Same H H4 → y = f x → R y H4) → g x (wipe σ vs) H fun σ2 H2 => wipe σ2 vs = wipe σ vs ∧ tt σ2 H2 fun b H3 => if b = true then te σ2 H3 R else N H3)
    (hd : ∀ H, Same H1 H → H D = some (.lst (xs.map f)) → Qd H) :
    ∃ W : Nat → Nat → Hp → Prop, (∃ m, W 0 m (upd H1 D (.lst []))) ∧ ∀ i m H, W i m H →
      ((Itl K a).stop i H ∧ Qd H) ∨ ((Itl K a).go i H ∧ ∃ Nx : Hp → Prop, (∀ H', Nx H' → ∃ m', m' < m ∧ W (i + 1) m' H') ∧ ∀ x H', (Itl K a).yld i H x H' → g x (wipe σ vs) H' fun σ2 H2 => wipe σ2 vs = wipe σ vs ∧ tt σ2 H2 fun b H3 =>
        if b = true then te σ2 H3 fun y H4 => ∃ acc, H4 D = some (.lst acc) ∧ acc.length < sizeLine ∧ Nx (upd H4 D (.lst (acc ++ [y]))) else Nx H3) := by
  have ne : ∀ {b : Addr} {o : HO}, H1 b = some o → b ≠ D := fun e => ne_of_none e hD
  refine lc_list (xs := xs) (fun i H => Same H1 H ∧ H D = some (.lst ((xs.take i).map f))) ⟨Same.newp hD, upd_same⟩ (fun i H _ h => SqL.of (h.1 _ _ ha)) (fun i x H hx h => ?_) (fun H h => hd H h.1 (by simpa using h.2))
  obtain ⟨s, hl⟩ := h
  refine hs x H (List.mem_of_getElem? hx) s _ _ fun y H4 s4 e => ⟨_, s4 _ _ hl, ?_, fun b o e1 => ?_, ?_⟩
  · have : i < xs.length := by
      rcases Nat.lt_or_ge i xs.length with h | h
      · exact h
      · rw [List.getElem?_eq_none h] at hx
        cases hx
    simp only [List.length_map, List.length_take]
    omega
  · rw [upd_ne (ne e1)]
    exact s4 _ _ (s _ _ e1)
  · rw [upd_same, e, List.take_succ, hx]
    simp
inductive AllV (P : V → Prop) : List V → Prop where
  | nil : AllV P []
  | cons {x : V} {xs : List V} (h : P x) (t : AllV P xs) : AllV P (x :: xs)
theorem AllV.mem {P : V → Prop} {xs : List V} {x : V} (h : AllV P xs) (m : x ∈ xs) : P x := by
  induction h with
  | nil => cases m
  | cons h _ ih =>
    cases m with
    | head => exact h
    | tail _ m => exact ih m
/-- the same by one name, with no test -/
theorem lc_mapN {K : PySem.W.Frag} {a : Addr} {xs : List V} {te : TE} {vs : List Nat} {σ : L2.St} {H1 : Hp} {D : Addr} {Qd : Hp → Prop} {n : Nat} (P : Hp → V → Prop) (f : V → V) (hD : H1 D = none) (ha : H1 a = some (.lst xs)) (hn : xs.length < sizeLine) (hall : AllV (P H1) xs)
    (hs : ∀ x H, P H1 x → Same H1 H → ∀ R : V → Hp → Prop, (∀ y H4, Same H H4 → y = f x → R y H4) → te (σ.set n (some x)) H R)
    (hd : ∀ H, Same H1 H → H D = some (.lst (xs.map f)) → Qd H) (hv : vs = [n] := by rfl) :
    ∃ W : Nat → Nat → Hp → Prop, (∃ m, W 0 m (upd H1 D (.lst []))) ∧ ∀ i m H, W i m H →
      ((Itl K a).stop i H ∧ Qd H) ∨ ((Itl K a).go i H ∧ ∃ Nx : Hp → Prop, (∀ H', Nx H' → ∃ m', m' < m ∧ W (i + 1) m' H') ∧ ∀ x H', (Itl K a).yld i H x H' → gName n x (wipe σ vs) H' fun σ2 H2 => wipe σ2 vs = wipe σ vs ∧ tYes σ2 H2 fun b H3 =>
        if b = true then te σ2 H3 fun y H4 => ∃ acc, H4 D = some (.lst acc) ∧ acc.length < sizeLine ∧ Nx (upd H4 D (.lst (acc ++ [y]))) else Nx H3) := by
  subst hv
  refine lc_map f hD ha hn (fun x H hx s R N hR => ?_) hd
  have e : (wipe σ [n]).set n (some x) = σ.set n (some x) := by
    show (σ.set n none).set n (some x) = _
    rw [List.set_set]
  show wipe ((wipe σ [n]).set n (some x)) [n] = wipe σ [n] ∧ (if true = true then te ((wipe σ [n]).set n (some x)) H R else N H)
  rw [e]
  refine ⟨?_, iteT (hs x H (hall.mem hx) s R hR)⟩
  show (σ.set n (some x)).set n none = σ.set n none
  rw [List.set_set]
theorem tnil_i {σ : L2.St} {H : Hp} {Q : List V → Hp → Prop} (h : Q [] H) : tNil σ H Q := h
end Rt
/-! ### loops whose heap grows; rows that are shown -/
namespace Rt
open PySem PySem.Spec PyProof.Rows L2
theorem at_new {H : Hp} {p a : Addr} {o w : HO} (hn : H p = none) (h : H a = some w) : upd H p o a = some w := Same.newp hn _ _ h
theorem at_ne {H : Hp} {p a : Addr} {o w : HO} (hn : a ≠ p) (h : H a = some w) : upd H p o a = some w := (upd_ne hn).trans h
theorem kp_probe {a : Addr} {H : Hp} (h : Kp a H Hbad) : Kp a H Hbad := h
theorem sm_probe {H : Hp} (h : Same H Hbad) : Same H Hbad := h
theorem tc_i {v : V} {σ : L2.St} {H : Hp} {Q : VK} (h : Q v H) : tC v σ H Q := h
theorem np {H : Hp} {p a : Addr} {o w : HO} (hn : H p = none) (h : upd H p o a = some w) : upd H p o a = some w := h
theorem hu64 {k : Nat} {A : Around} (hr : Room k A) : A.units + 64 < cLine := by
  have := hr.un
  omega
/-- for x in xs, the heap only growing -/
theorem for_same {K : PySem.W.Frag} {a : Addr} {xs : List V} {tb : TS} {D : Ends} {σ : L2.St} {H1 : Hp} {n : Nat} (P : Hp → V → Prop) (ha : H1 a = some (.lst xs)) (hne : xs ≠ []) (hall : AllV (P H1) xs)
    (hs : ∀ x H, P H1 x → Same H1 H → ∀ N : L2.St → Hp → Prop, (∀ H4, Same H H4 → N (σ.set n (some x)) H4) → tb { D with nx := N, ct := N, bk := D.nx } (σ.set n (some x)) H) (hd : ∀ x H, Same H1 H → D.nx (σ.set n (some x)) H) :
    ∃ W : Nat → Nat → L2.St → Hp → Prop, (∃ m, W 0 m σ H1) ∧ ∀ i m σ H, W i m σ H →
      ((Itl K a).stop i H ∧ D.nx σ H) ∨ ((Itl K a).go i H ∧ ∃ N : L2.St → Hp → Prop, (∀ σ' H', N σ' H' → ∃ m', m' < m ∧ W (i + 1) m' σ' H') ∧ ∀ x H', (Itl K a).yld i H x H' → gName n x σ H' fun σ2 H2 => tb { D with nx := N, ct := N, bk := D.nx } σ2 H2) := by
  refine for_list (xs := xs) (fun i σ' H => Same H1 H ∧ ((i = 0 ∧ σ' = σ) ∨ (0 < i ∧ ∃ x, σ' = σ.set n (some x)))) ⟨Same.refl _, .inl ⟨rfl, rfl⟩⟩ (fun i σ' H _ h => SqL.of (h.1 _ _ ha)) (fun i x σ' H hx h => ?_) (fun σ' H h => ?_)
  · obtain ⟨s, h⟩ := h
    have e : σ'.set n (some x) = σ.set n (some x) := by
      rcases h with ⟨_, rfl⟩ | ⟨_, y, rfl⟩
      · rfl
      · rw [List.set_set]
    show tb _ (σ'.set n (some x)) H
    rw [e]
    exact hs x H (hall.mem (List.mem_of_getElem? hx)) s _ fun H4 s4 => ⟨s.trans s4, .inr ⟨by omega, x, rfl⟩⟩
  · obtain ⟨s, h⟩ := h
    rcases h with ⟨e, _⟩ | ⟨_, x, rfl⟩
    · exact absurd (List.length_eq_zero_iff.mp e) hne
    · exact hd x H s
/-- the shown row of a ratio -/
def ratShown (p q : Int) : Str := (PyData.list [.int p, .int q, .str (rstr p q), .str (rrep p q), .int p, .int q]).shown
theorem reprL_rat {H : Hp} {Q : VK} {a : Addr} {p q : Int} {x y : Str} (e : H a = some (.lst [.int p, .int q, .str x, .str y, .int p, .int q])) (hx : x = rstr p q) (hy : y = rrep p q) (l : p.natAbs.log2 < 1920 ∧ q.natAbs.log2 < 1920) (k : Q (.str (ratShown p q)) H) : rReprL [.ref a] H Q := by
  subst hx hy
  refine ⟨a, _, [.int p, .int q, .str (rstr p q), .str (rrep p q), .int p, .int q], rfl, e, .cons (.int _) (.cons (.int _) (.cons (.str _) (.cons (.str _) (.cons (.int _) (.cons (.int _) .nil))))), ?_, Nat.le_of_ble_eq_true rfl, k⟩
  intro d hd
  simp only [List.mem_cons, List.not_mem_nil, or_false] at hd
  rcases hd with rfl | rfl | rfl | rfl | rfl | rfl
  · exact .int l.1
  · exact .int l.2
  · exact leaf_rstr l.1 l.2
  · exact leaf_rrep l.1 l.2
  · exact .int l.1
  · exact .int l.2
theorem ne_same {K : PySem.W.Frag} {H : Hp} {Q : VK} {a b : Addr} {xs ys : List V} {ds : List PyData} (ea : H a = some (.lst xs)) (eb : H b = some (.lst ys)) (h1 : DpAll K H xs ds) (h2 : DpAll K H ys ds) (hs : SeqAt.shaped (.list ds) = true) (k : Q (.bl false) H) : rNeD K (.ref a) (.ref b) H Q :=
  ⟨_, _, .lst (SqL.of ea) h1, .lst (SqL.of eb) h2, hs, hs, by rw [PySem.SeqAt.eqv_refl _ (SeqAt.canLay_of_shaped hs)]; exact k⟩
end Rt
/-! ### the law's call, where the guards are told -/
namespace Rt
open PySem PySem.Spec PyProof.Rows L2
section
variable {P : Program} {w : World} {K : PySem.W.Frag} {mg mb : Str → Option Value} {k : Nat} {fa a : Addr} {fd : FuncData} {x : Str} {sp : Sp} {s : Shared} {vs : List Value} {ns : List Int}
/-- the law's def at a heap of which at most the script is tracked -/
theorem top_run {H : Hp} (KX : K.In s.heap) (hns : s.heap.Ns mainGlobals mg) (hb : s.heap.Ns builtinsNs mb) (hbb : ∀ y : Str, y ≠ "__name__" → mb y = bootBuiltins y) (hlim : s.heap.NoLimit) (hg : s.gens = #[])
    (ha : s.heap.get? a = some { cls := .type "list", data := .seq vs.toArray }) (hr : Room k callerA) (tr : ∀ b u, H b = some u → b = a ∧ K.lookup b = none ∧ ∃ o xs, u = .frz o (.lst xs)) (hok : HOk P w H s.heap)
    (F : ∀ base : Heap, FnG P w K mg base k fa fd [x] sp) (hbind : ∀ (s : Shared) (u : Value), BindsTo s fd ⟨[u], []⟩ [(x, u)]) (h : sp [.ref a] H (fun v _ => v = .bl true) fun _ _ _ => False) :
    codeAny (model P w) callerA (.call (.ref fa) ⟨[.ref a], []⟩) (fun r s' => r = .ok (.ret (.bool true)) ∧ OldK s.heap s'.heap ∧ s'.os = s.os ∧ AllBare s'.gens) s := by
  have free : ∀ {b : Addr}, (∀ u, H b = some u → False) → H b = none := fun {b} q => by
    cases e : H b with
    | none => rfl
    | some u => exact (q u e).elim
  have names : ∀ {b : Addr} {m : Str → Option Value}, s.heap.Ns b m → (hidT s.heap H).Ns b m := fun {b m} ⟨o, es, ep, e, d, r⟩ => by
    refine ⟨o, es, ep, hidT_get e (free fun u q => ?_), d, r⟩
    have z := (tr b u q).1
    rw [z, ha] at e
    cases e
    cases d
  have written : K.In (hidT s.heap H) := fun b o e => by
    refine hidT_get (KX b o e) (free fun u q => ?_)
    rw [(tr b u q).2.1] at e
    cases e
  obtain ⟨mc, c1, c2⟩ := hlim
  have env : Env0 P w K mg (hidT s.heap H) callerA [] s H := ⟨rfl, ⟨written, names hns, ⟨mb, names hb, hbb⟩, ⟨mc, names c1, c2⟩⟩, fun b o e => of_hidT e, Nat.le_of_eq (hidT_size _ _), trivial, fun b z => (List.not_mem_nil (show b ∈ ([] : List Addr) from z)).elim, hok, .of_eq hg⟩
  refine codeAny_mono ((F _).run callerA [] s H ⟨[.ref a], []⟩ [.ref a] [.ref a] _ _ rfl hr env (hbind s (.ref a)) (.cons rfl .nil) h) fun r s' q => ?_
  cases r with
  | error e =>
    obtain ⟨_, _, _, _, _, _, _, _, _, _, _, _, z⟩ := q
    exact z.elim
  | ok fl =>
    cases fl with
    | next => exact q.elim
    | brk => exact q.elim
    | cont => exact q.elim
    | ret u =>
      obtain ⟨v, H', os, bare, un, hok', rv, e⟩ := q
      cases (show v = V.bl true from e)
      cases (show u = Value.bool true from rv)
      refine ⟨rfl, OldK.of_keep fun b o e => ?_, os, bare⟩
      cases q : H b with
      | none => exact un.keep b o e q (fun z => (List.not_mem_nil (show b ∈ ([] : List Addr) from z)).elim) (by simp)
      | some t =>
        obtain ⟨_, _, ob, xs, rfl⟩ := tr b t q
        have o1 := (hok b _ q).1
        have o2 := (hok' b _ (un.frzs b ob _ q)).1
        rw [o1] at e
        cases e
        exact o2
end
/-- the script alone is told, as the object that stands there -/
def scriptH (a : Addr) (ob : Obj) (xs : List V) : Hp := fun b => if b = a then some (.frz ob (.lst xs)) else none
theorem walk_ofG {l : PySem.W.OpenLaw} {n k : Nat} {q : Program} {loose : List Str} {XP : (Str → Option Value) → Heap → Prop} {YP : World → Heap → Prop} {d : DefRec} {x : Str} (hn : l.most = some n) (hn2 : n ≤ sizeLine) (hdf : d.params.defaults = []) (hr : Room k callerA)
    (F : ∀ (w : World) (mg : Str → Option Value) (fa : Addr) (h : Heap), YP w h → h.Ns mainGlobals mg → mg d.name = some (.ref fa) → ∃ (K : PySem.W.Frag) (fd : FuncData) (sp : Sp), K.In h ∧ (∀ (s : Shared) (u : Value), BindsTo s fd ⟨[u], []⟩ [(x, u)]) ∧
      (∀ (H : Hp) (a : Addr) (ns : List Int), ns.length ≤ n → SqL K H a (ns.map V.int) → sp [.ref a] H (fun v _ => v = .bl true) fun _ _ _ => False) ∧ ∀ base : Heap, FnG l.prog w K mg base k fa fd [x] sp) :
    PySem.W.WalkO q loose XP YP l.row.toRowW d [] (fun f vs => PySem.call f vs) := by
  refine Att.attach_call hn hdf fun w s₀ s₁ mg mb fa o pm cd doc a vs ns G Y ho hd hcd hmg hobj hints hlen hg => ?_
  obtain ⟨K, fd, sp, KX, hb, hsp, hF⟩ := F w mg fa _ Y G.T.g hmg
  have rv := vals_ints hints
  have lv := hints.length
  have lz : ns.length ≤ sizeLine := Nat.le_trans hlen hn2
  cases hk : K.lookup a with
  | some ob =>
    have e := KX a ob hk
    rw [hobj] at e
    cases e
    exact top_run (H := fun _ => none) KX G.T.g G.T.b G.T.builtins G.T.nolimit hg hobj hr (fun b u z => by cases z) (fun b u z => by cases z) hF hb
      (hsp _ a ns hlen (.inr ⟨_, vs.toArray, _, hk, rfl, rfl, rfl, by rw [List.size_toArray, lv]; exact lz, by simpa using rv⟩))
  | none =>
    have at_ : ∀ b u, scriptH a { cls := .type "list", data := .seq vs.toArray } (ns.map V.int) b = some u → b = a ∧ u = .frz { cls := .type "list", data := .seq vs.toArray } (.lst (ns.map V.int)) := fun b u z => by
      unfold scriptH at z
      split at z
      · rename_i e
        cases z
        exact ⟨e, rfl⟩
      · cases z
    refine top_run (H := scriptH a { cls := .type "list", data := .seq vs.toArray } (ns.map V.int)) KX G.T.g G.T.b G.T.builtins G.T.nolimit hg hobj hr (fun b u z => ?_) (fun b u z => ?_) hF hb (hsp _ a ns hlen (.inl (.inr ⟨_, if_pos rfl⟩)))
    · obtain ⟨rfl, rfl⟩ := at_ b u z
      exact ⟨rfl, hk, _, _, rfl⟩
    · obtain ⟨rfl, rfl⟩ := at_ b u z
      exact ⟨hobj, by rw [List.length_map]; exact lz, vs, _, rv, hobj⟩
end Rt
set_option Elab.async false
set_option linter.all false
set_option maxRecDepth 100000
set_option maxHeartbeats 4000000
namespace K02
open PySem PySem.Spec PyProof.Rows L2 He Rt
/-! ### the text by places -/
def top (i : Nat) : Stmt := PySem.Challenge.pw_seriesforms_k02_ratios_in_lowest_terms.main.body.getD i (.Pass ⟨0, 0, 0, 0⟩)
abbrev s_InvalidNumber_DinitD : Stmt := inClass (top 2) 0
abbrev s_InvalidText_DinitD : Stmt := inClass (top 3) 0
abbrev s_InvalidCount_DinitD : Stmt := inClass (top 4) 0
abbrev s_is_integer : Stmt := top 10
abbrev s_shared_factor : Stmt := top 11
abbrev s_Ratio_DinitD : Stmt := inClass (top 12) 0
abbrev s_Ratio_top : Stmt := inClass (top 12) 1
abbrev s_Ratio_bottom : Stmt := inClass (top 12) 2
abbrev s_Ratio_read : Stmt := inClass (top 12) 3
abbrev s_Ratio_over : Stmt := inClass (top 12) 4
abbrev s_Ratio_power : Stmt := inClass (top 12) 5
abbrev s_Ratio_DaddD : Stmt := inClass (top 12) 6
abbrev s_Ratio_DraddD : Stmt := inClass (top 12) 7
abbrev s_Ratio_DiaddD : Stmt := inClass (top 12) 8
abbrev s_Ratio_DsubD : Stmt := inClass (top 12) 9
abbrev s_Ratio_DrsubD : Stmt := inClass (top 12) 10
abbrev s_Ratio_DmulD : Stmt := inClass (top 12) 11
abbrev s_Ratio_DrmulD : Stmt := inClass (top 12) 12
abbrev s_Ratio_DfloordivD : Stmt := inClass (top 12) 13
abbrev s_Ratio_DrfloordivD : Stmt := inClass (top 12) 14
abbrev s_Ratio_DmodD : Stmt := inClass (top 12) 15
abbrev s_Ratio_DrmodD : Stmt := inClass (top 12) 16
abbrev s_Ratio_DpowD : Stmt := inClass (top 12) 17
abbrev s_Ratio_DnegD : Stmt := inClass (top 12) 18
abbrev s_Ratio_DabsD : Stmt := inClass (top 12) 19
abbrev s_Ratio_DeqD : Stmt := inClass (top 12) 20
abbrev s_Ratio_DboolD : Stmt := inClass (top 12) 21
abbrev s_Ratio_DstrD : Stmt := inClass (top 12) 22
abbrev s_Ratio_DreprD : Stmt := inClass (top 12) 23
abbrev s_is_number : Stmt := top 13
abbrev s_as_ratio : Stmt := top 14
abbrev s_is_decimal : Stmt := top 15
abbrev s_pair_of : Stmt := top 16
abbrev s_l_cell : Stmt := top 18
abbrev s_l_source : Stmt := top 19
abbrev s_l_draw : Stmt := top 20
abbrev s_l_common : Stmt := top 21
abbrev s_l_lowest : Stmt := top 22
abbrev s_l_whole : Stmt := top 23
abbrev s_l_parts : Stmt := top 24
abbrev s_l_equal_right : Stmt := top 25
abbrev s_l_right : Stmt := top 26
abbrev s_law : Stmt := top 27
/-! ### the defs as the top leaves them -/
abbrev d_is_integer : He5.DefA := { at_ := fun K => ga K "is_integer", name := "is_integer", qual := "is_integer", params := defArgs s_is_integer, body := defBody s_is_integer, scope := defScope s_is_integer, dfl := [] }
abbrev d_shared_factor : He5.DefA := { at_ := fun K => ga K "shared_factor", name := "shared_factor", qual := "shared_factor", params := defArgs s_shared_factor, body := defBody s_shared_factor, scope := defScope s_shared_factor, dfl := [] }
abbrev d_Ratio_DinitD : He5.DefA := { at_ := fun K => ma K (ga K "Ratio") "__init__", name := "__init__", qual := "Ratio.__init__", params := defArgs s_Ratio_DinitD, body := defBody s_Ratio_DinitD, scope := defScope s_Ratio_DinitD, dfl := [.int 1] }
abbrev d_Ratio_top : He5.DefA := { at_ := fun K => pgA K "Ratio" "top", name := "top", qual := "Ratio.top", params := defArgs s_Ratio_top, body := defBody s_Ratio_top, scope := defScope s_Ratio_top, dfl := [] }
abbrev d_Ratio_bottom : He5.DefA := { at_ := fun K => pgA K "Ratio" "bottom", name := "bottom", qual := "Ratio.bottom", params := defArgs s_Ratio_bottom, body := defBody s_Ratio_bottom, scope := defScope s_Ratio_bottom, dfl := [] }
abbrev d_Ratio_DeqD : He5.DefA := { at_ := fun K => ma K (ga K "Ratio") "__eq__", name := "__eq__", qual := "Ratio.__eq__", params := defArgs s_Ratio_DeqD, body := defBody s_Ratio_DeqD, scope := defScope s_Ratio_DeqD, dfl := [] }
abbrev d_Ratio_DboolD : He5.DefA := { at_ := fun K => ma K (ga K "Ratio") "__bool__", name := "__bool__", qual := "Ratio.__bool__", params := defArgs s_Ratio_DboolD, body := defBody s_Ratio_DboolD, scope := defScope s_Ratio_DboolD, dfl := [] }
abbrev d_Ratio_DstrD : He5.DefA := { at_ := fun K => ma K (ga K "Ratio") "__str__", name := "__str__", qual := "Ratio.__str__", params := defArgs s_Ratio_DstrD, body := defBody s_Ratio_DstrD, scope := defScope s_Ratio_DstrD, dfl := [] }
abbrev d_Ratio_DreprD : He5.DefA := { at_ := fun K => ma K (ga K "Ratio") "__repr__", name := "__repr__", qual := "Ratio.__repr__", params := defArgs s_Ratio_DreprD, body := defBody s_Ratio_DreprD, scope := defScope s_Ratio_DreprD, dfl := [] }
abbrev d_is_number : He5.DefA := { at_ := fun K => ga K "is_number", name := "is_number", qual := "is_number", params := defArgs s_is_number, body := defBody s_is_number, scope := defScope s_is_number, dfl := [] }
abbrev d_as_ratio : He5.DefA := { at_ := fun K => ga K "as_ratio", name := "as_ratio", qual := "as_ratio", params := defArgs s_as_ratio, body := defBody s_as_ratio, scope := defScope s_as_ratio, dfl := [] }
abbrev d_l_cell : He5.DefA := { at_ := fun K => ga K "_law_cell", name := "_law_cell", qual := "_law_cell", params := defArgs s_l_cell, body := defBody s_l_cell, scope := defScope s_l_cell, dfl := [] }
abbrev d_l_source : He5.DefA := { at_ := fun K => ga K "_law_source", name := "_law_source", qual := "_law_source", params := defArgs s_l_source, body := defBody s_l_source, scope := defScope s_l_source, dfl := [] }
abbrev d_l_draw : He5.DefA := { at_ := fun K => ga K "_law_draw", name := "_law_draw", qual := "_law_draw", params := defArgs s_l_draw, body := defBody s_l_draw, scope := defScope s_l_draw, dfl := [] }
abbrev d_l_common : He5.DefA := { at_ := fun K => ga K "_law_common", name := "_law_common", qual := "_law_common", params := defArgs s_l_common, body := defBody s_l_common, scope := defScope s_l_common, dfl := [] }
abbrev d_l_lowest : He5.DefA := { at_ := fun K => ga K "_law_lowest", name := "_law_lowest", qual := "_law_lowest", params := defArgs s_l_lowest, body := defBody s_l_lowest, scope := defScope s_l_lowest, dfl := [] }
abbrev d_l_whole : He5.DefA := { at_ := fun K => ga K "_law_whole", name := "_law_whole", qual := "_law_whole", params := defArgs s_l_whole, body := defBody s_l_whole, scope := defScope s_l_whole, dfl := [] }
abbrev d_l_parts : He5.DefA := { at_ := fun K => ga K "_law_parts", name := "_law_parts", qual := "_law_parts", params := defArgs s_l_parts, body := defBody s_l_parts, scope := defScope s_l_parts, dfl := [] }
abbrev d_l_equal_right : He5.DefA := { at_ := fun K => ga K "_law_equal_right", name := "_law_equal_right", qual := "_law_equal_right", params := defArgs s_l_equal_right, body := defBody s_l_equal_right, scope := defScope s_l_equal_right, dfl := [] }
abbrev d_l_right : He5.DefA := { at_ := fun K => ga K "_law_right", name := "_law_right", qual := "_law_right", params := defArgs s_l_right, body := defBody s_l_right, scope := defScope s_l_right, dfl := [] }
abbrev d_law : He5.DefA := { at_ := fun K => ga K "law", name := "law", qual := "law", params := defArgs s_law, body := defBody s_law, scope := defScope s_law, dfl := [] }
abbrev fns : List He5.DefA := [d_is_integer, d_shared_factor, d_Ratio_DinitD, d_Ratio_top, d_Ratio_bottom, d_Ratio_DeqD, d_Ratio_DboolD, d_Ratio_DstrD, d_Ratio_DreprD, d_is_number, d_as_ratio, d_l_cell, d_l_source, d_l_draw, d_l_common, d_l_lowest, d_l_whole, d_l_parts, d_l_equal_right, d_l_right, d_law]
abbrev fx0 : List (PySem.W.Frag → Bool) := [fGlo "is_integer", fGlo "shared_factor", fGlo "is_number", fGlo "as_ratio", fGlo "_law_cell", fGlo "_law_source", fGlo "_law_draw", fGlo "_law_common", fGlo "_law_lowest", fGlo "_law_whole", fGlo "_law_parts", fGlo "_law_equal_right", fGlo "_law_right", fGlo "law", fFree "isinstance", fFree "int", fFree "bool", fFree "abs", fFree "len", fFree "repr", fFree "str", fFree "range", fFree "max", fFree "min", fFree "all", fFree "divmod", fGlo "Ratio", fCls "Ratio", fNo "Ratio" "upper_part", fNo "Ratio" "lower_part"]
abbrev fx1 : List (PySem.W.Frag → Bool) := [fMk "Ratio", fProp "Ratio" "top", fProp "Ratio" "bottom", fIsi "Ratio", fMeth "Ratio" "__eq__", fMeth "Ratio" "__bool__", fMeth "Ratio" "__str__", fMeth "Ratio" "__repr__", fBlt "Ratio" "__ne__" "object.__ne__", fSub (oC "Ratio") (oT "object") true, fKit (oC "Ratio") (oC "Ratio") true, fKit (oC "Ratio") (oT "int") false, fKit (oC "Ratio") (oT "bool") false, fKit (oT "NoneType") (oC "Ratio") false, fKit (oT "bool") (oC "Ratio") false, fKit (oT "int") (oC "Ratio") false, fKit (oT "str") (oC "Ratio") false, fKit (oT "list") (oC "Ratio") false, fKit (oT "tuple") (oC "Ratio") false, fKit (oT "dict") (oC "Ratio") false, fSub (oC "Ratio") (oT "NoneType") false, fSub (oC "Ratio") (oT "bool") false, fSub (oC "Ratio") (oT "int") false, fSub (oC "Ratio") (oT "str") false, fSub (oC "Ratio") (oT "list") false, fSub (oC "Ratio") (oT "tuple") false, fSub (oC "Ratio") (oT "dict") false]
abbrev fxs : List (PySem.W.Frag → Bool) := fx0 ++ fx1
def loose0 : List PySem.Str := ["GivenError", "InvalidNumber", "InvalidText", "InvalidCount", "AnswerError", "DividedByZero", "DIGITS", "MOST_POWER", "is_integer", "shared_factor", "Ratio", "is_number", "as_ratio", "is_decimal", "pair_of", "_law_cell", "_law_source", "_law_draw", "_law_common", "_law_lowest", "_law_whole", "_law_parts", "_law_equal_right", "_law_right"]
abbrev loose : List PySem.Str := loose0
abbrev R : PySem.W.OpenRow := PySem.W.OpenLaw.row PySem.Challenge.rw_seriesforms_k02_ratios_in_lowest_terms
abbrev hk : PySem.W.Hook := hookR 5 fxs fns
def ob (s : PySem.W.SharedT) : He.AlD := obsRG 5 fxs fns (HandSHeadRun.getT s)
theorem ob_eq (s : PySem.W.SharedT) : ob s = hk.obs s.abs := obsRG_eq (HandSHeadRun.getT_eq s)
set_option maxHeartbeats 0 in
theorem run (w : World) : HandSHeadRun.RunEq R (PySem.W.view R.prog [27]) hk ob 4000 loose w := by
  intro os
  kernel_rfl
end K02
set_option Elab.async false
set_option linter.all false
set_option maxRecDepth 100000
set_option maxHeartbeats 4000000
namespace K02
open PySem PySem.Spec PyProof.Rows L2 He Rt
/-- what the top has written -/
structure Txt (K : PySem.W.Frag) (mg : Str → Option Value) : Prop where
  F_is_integer : ∃ fd, FnD K "is_integer" "is_integer" s_is_integer [] (ga K "is_integer") fd
  F_shared_factor : ∃ fd, FnD K "shared_factor" "shared_factor" s_shared_factor [] (ga K "shared_factor") fd
  F_Ratio_DinitD : ∃ fd, FnD K "__init__" "Ratio.__init__" s_Ratio_DinitD [.int 1] (ma K (ga K "Ratio") "__init__") fd
  F_Ratio_top : ∃ fd, FnD K "top" "Ratio.top" s_Ratio_top [] (pgA K "Ratio" "top") fd
  F_Ratio_bottom : ∃ fd, FnD K "bottom" "Ratio.bottom" s_Ratio_bottom [] (pgA K "Ratio" "bottom") fd
  F_Ratio_DeqD : ∃ fd, FnD K "__eq__" "Ratio.__eq__" s_Ratio_DeqD [] (ma K (ga K "Ratio") "__eq__") fd
  F_Ratio_DboolD : ∃ fd, FnD K "__bool__" "Ratio.__bool__" s_Ratio_DboolD [] (ma K (ga K "Ratio") "__bool__") fd
  F_Ratio_DstrD : ∃ fd, FnD K "__str__" "Ratio.__str__" s_Ratio_DstrD [] (ma K (ga K "Ratio") "__str__") fd
  F_Ratio_DreprD : ∃ fd, FnD K "__repr__" "Ratio.__repr__" s_Ratio_DreprD [] (ma K (ga K "Ratio") "__repr__") fd
  F_is_number : ∃ fd, FnD K "is_number" "is_number" s_is_number [] (ga K "is_number") fd
  F_as_ratio : ∃ fd, FnD K "as_ratio" "as_ratio" s_as_ratio [] (ga K "as_ratio") fd
  F_l_cell : ∃ fd, FnD K "_law_cell" "_law_cell" s_l_cell [] (ga K "_law_cell") fd
  F_l_source : ∃ fd, FnD K "_law_source" "_law_source" s_l_source [] (ga K "_law_source") fd
  F_l_draw : ∃ fd, FnD K "_law_draw" "_law_draw" s_l_draw [] (ga K "_law_draw") fd
  F_l_common : ∃ fd, FnD K "_law_common" "_law_common" s_l_common [] (ga K "_law_common") fd
  F_l_lowest : ∃ fd, FnD K "_law_lowest" "_law_lowest" s_l_lowest [] (ga K "_law_lowest") fd
  F_l_whole : ∃ fd, FnD K "_law_whole" "_law_whole" s_l_whole [] (ga K "_law_whole") fd
  F_l_parts : ∃ fd, FnD K "_law_parts" "_law_parts" s_l_parts [] (ga K "_law_parts") fd
  F_l_equal_right : ∃ fd, FnD K "_law_equal_right" "_law_equal_right" s_l_equal_right [] (ga K "_law_equal_right") fd
  F_l_right : ∃ fd, FnD K "_law_right" "_law_right" s_l_right [] (ga K "_law_right") fd
  F_law : ∃ fd, FnD K "law" "law" s_law [] (ga K "law") fd
  g_is_integer : mg "is_integer" = some (.ref (ga K "is_integer"))
  g_shared_factor : mg "shared_factor" = some (.ref (ga K "shared_factor"))
  g_is_number : mg "is_number" = some (.ref (ga K "is_number"))
  g_as_ratio : mg "as_ratio" = some (.ref (ga K "as_ratio"))
  g_l_cell : mg "_law_cell" = some (.ref (ga K "_law_cell"))
  g_l_source : mg "_law_source" = some (.ref (ga K "_law_source"))
  g_l_draw : mg "_law_draw" = some (.ref (ga K "_law_draw"))
  g_l_common : mg "_law_common" = some (.ref (ga K "_law_common"))
  g_l_lowest : mg "_law_lowest" = some (.ref (ga K "_law_lowest"))
  g_l_whole : mg "_law_whole" = some (.ref (ga K "_law_whole"))
  g_l_parts : mg "_law_parts" = some (.ref (ga K "_law_parts"))
  g_l_equal_right : mg "_law_equal_right" = some (.ref (ga K "_law_equal_right"))
  g_l_right : mg "_law_right" = some (.ref (ga K "_law_right"))
  g_law : mg "law" = some (.ref (ga K "law"))
  f_isinstance : mg "isinstance" = none
  f_int : mg "int" = none
  f_bool : mg "bool" = none
  f_abs : mg "abs" = none
  f_len : mg "len" = none
  f_repr : mg "repr" = none
  f_str : mg "str" = none
  f_range : mg "range" = none
  f_max : mg "max" = none
  f_min : mg "min" = none
  f_all : mg "all" = none
  f_divmod : mg "divmod" = none
  g_Ratio : mg "Ratio" = some (.ref (ga K "Ratio"))
  c_Ratio : Cls K (ga K "Ratio")
  n_up : NoAttr K (ga K "Ratio") "upper_part"
  n_lo : NoAttr K (ga K "Ratio") "lower_part"
  k_Ratio : Mk K (ga K "Ratio") (ma K (ga K "Ratio") "__init__")
  p_top : PropOf K (ga K "Ratio") "top" (ma K (ga K "Ratio") "top") (pgA K "Ratio" "top")
  p_bottom : PropOf K (ga K "Ratio") "bottom" (ma K (ga K "Ratio") "bottom") (pgA K "Ratio" "bottom")
  i_Ratio : fIsi "Ratio" K = true
  m_eq : Meth K (ga K "Ratio") "__eq__" (ma K (ga K "Ratio") "__eq__")
  m_bool : Meth K (ga K "Ratio") "__bool__" (ma K (ga K "Ratio") "__bool__")
  m_str : Meth K (ga K "Ratio") "__str__" (ma K (ga K "Ratio") "__str__")
  m_repr : Meth K (ga K "Ratio") "__repr__" (ma K (ga K "Ratio") "__repr__")
  b_ne : PySem.W.findIn K (.ref (ga K "Ratio")) "__ne__" = some (some (.builtin "object.__ne__"))
  u_obj : PySem.W.subIn K ((oC "Ratio") K) ((oT "object") K) = some true
  y_RR : PySem.W.kitOne K ((oC "Ratio") K) ((oC "Ratio") K) = some true
  y_Ri : PySem.W.kitOne K ((oC "Ratio") K) ((oT "int") K) = some false
  y_Rb : PySem.W.kitOne K ((oC "Ratio") K) ((oT "bool") K) = some false
  y_NoneTypeR : PySem.W.kitOne K ((oT "NoneType") K) ((oC "Ratio") K) = some false
  y_boolR : PySem.W.kitOne K ((oT "bool") K) ((oC "Ratio") K) = some false
  y_intR : PySem.W.kitOne K ((oT "int") K) ((oC "Ratio") K) = some false
  y_strR : PySem.W.kitOne K ((oT "str") K) ((oC "Ratio") K) = some false
  y_listR : PySem.W.kitOne K ((oT "list") K) ((oC "Ratio") K) = some false
  y_tupleR : PySem.W.kitOne K ((oT "tuple") K) ((oC "Ratio") K) = some false
  y_dictR : PySem.W.kitOne K ((oT "dict") K) ((oC "Ratio") K) = some false
  u_RNoneType : PySem.W.subIn K ((oC "Ratio") K) ((oT "NoneType") K) = some false
  u_Rbool : PySem.W.subIn K ((oC "Ratio") K) ((oT "bool") K) = some false
  u_Rint : PySem.W.subIn K ((oC "Ratio") K) ((oT "int") K) = some false
  u_Rstr : PySem.W.subIn K ((oC "Ratio") K) ((oT "str") K) = some false
  u_Rlist : PySem.W.subIn K ((oC "Ratio") K) ((oT "list") K) = some false
  u_Rtuple : PySem.W.subIn K ((oC "Ratio") K) ((oT "tuple") K) = some false
  u_Rdict : PySem.W.subIn K ((oC "Ratio") K) ((oT "dict") K) = some false
theorem txt_of {K : PySem.W.Frag} {h : Heap} {mg : Str → Option Value} (X : K.In h) (G : h.Ns mainGlobals mg) (c : SaysR fxs fns K) : Txt K mg where
  F_is_integer := c.def_ 0 (d := d_is_integer) rfl
  F_shared_factor := c.def_ 1 (d := d_shared_factor) rfl
  F_Ratio_DinitD := c.def_ 2 (d := d_Ratio_DinitD) rfl
  F_Ratio_top := c.def_ 3 (d := d_Ratio_top) rfl
  F_Ratio_bottom := c.def_ 4 (d := d_Ratio_bottom) rfl
  F_Ratio_DeqD := c.def_ 5 (d := d_Ratio_DeqD) rfl
  F_Ratio_DboolD := c.def_ 6 (d := d_Ratio_DboolD) rfl
  F_Ratio_DstrD := c.def_ 7 (d := d_Ratio_DstrD) rfl
  F_Ratio_DreprD := c.def_ 8 (d := d_Ratio_DreprD) rfl
  F_is_number := c.def_ 9 (d := d_is_number) rfl
  F_as_ratio := c.def_ 10 (d := d_as_ratio) rfl
  F_l_cell := c.def_ 11 (d := d_l_cell) rfl
  F_l_source := c.def_ 12 (d := d_l_source) rfl
  F_l_draw := c.def_ 13 (d := d_l_draw) rfl
  F_l_common := c.def_ 14 (d := d_l_common) rfl
  F_l_lowest := c.def_ 15 (d := d_l_lowest) rfl
  F_l_whole := c.def_ 16 (d := d_l_whole) rfl
  F_l_parts := c.def_ 17 (d := d_l_parts) rfl
  F_l_equal_right := c.def_ 18 (d := d_l_equal_right) rfl
  F_l_right := c.def_ 19 (d := d_l_right) rfl
  F_law := c.def_ 20 (d := d_law) rfl
  g_is_integer := He.glo_ok X G (c.fact 0 rfl)
  g_shared_factor := He.glo_ok X G (c.fact 1 rfl)
  g_is_number := He.glo_ok X G (c.fact 2 rfl)
  g_as_ratio := He.glo_ok X G (c.fact 3 rfl)
  g_l_cell := He.glo_ok X G (c.fact 4 rfl)
  g_l_source := He.glo_ok X G (c.fact 5 rfl)
  g_l_draw := He.glo_ok X G (c.fact 6 rfl)
  g_l_common := He.glo_ok X G (c.fact 7 rfl)
  g_l_lowest := He.glo_ok X G (c.fact 8 rfl)
  g_l_whole := He.glo_ok X G (c.fact 9 rfl)
  g_l_parts := He.glo_ok X G (c.fact 10 rfl)
  g_l_equal_right := He.glo_ok X G (c.fact 11 rfl)
  g_l_right := He.glo_ok X G (c.fact 12 rfl)
  g_law := He.glo_ok X G (c.fact 13 rfl)
  f_isinstance := He.free_ok X G (c.fact 14 rfl)
  f_int := He.free_ok X G (c.fact 15 rfl)
  f_bool := He.free_ok X G (c.fact 16 rfl)
  f_abs := He.free_ok X G (c.fact 17 rfl)
  f_len := He.free_ok X G (c.fact 18 rfl)
  f_repr := He.free_ok X G (c.fact 19 rfl)
  f_str := He.free_ok X G (c.fact 20 rfl)
  f_range := He.free_ok X G (c.fact 21 rfl)
  f_max := He.free_ok X G (c.fact 22 rfl)
  f_min := He.free_ok X G (c.fact 23 rfl)
  f_all := He.free_ok X G (c.fact 24 rfl)
  f_divmod := He.free_ok X G (c.fact 25 rfl)
  g_Ratio := He.glo_ok X G (c.fact 26 rfl)
  c_Ratio := He.cls_ok (c.fact 27 rfl)
  n_up := He.noat_ok (c.fact 28 rfl)
  n_lo := He.noat_ok (c.fact 29 rfl)
  k_Ratio := He.mkr_ok (c.fact 30 rfl)
  p_top := fProp_ok (c.fact 31 rfl)
  p_bottom := fProp_ok (c.fact 32 rfl)
  i_Ratio := c.fact 33 rfl
  m_eq := He.meth_ok (c.fact 34 rfl)
  m_bool := He.meth_ok (c.fact 35 rfl)
  m_str := He.meth_ok (c.fact 36 rfl)
  m_repr := He.meth_ok (c.fact 37 rfl)
  b_ne := He.eqO_ok (c.fact 38 rfl)
  u_obj := of_decide_eq_true (c.fact 39 rfl)
  y_RR := fKit_ok (c.fact 40 rfl)
  y_Ri := fKit_ok (c.fact 41 rfl)
  y_Rb := fKit_ok (c.fact 42 rfl)
  y_NoneTypeR := fKit_ok (c.fact 43 rfl)
  y_boolR := fKit_ok (c.fact 44 rfl)
  y_intR := fKit_ok (c.fact 45 rfl)
  y_strR := fKit_ok (c.fact 46 rfl)
  y_listR := fKit_ok (c.fact 47 rfl)
  y_tupleR := fKit_ok (c.fact 48 rfl)
  y_dictR := fKit_ok (c.fact 49 rfl)
  u_RNoneType := of_decide_eq_true (c.fact 50 rfl)
  u_Rbool := of_decide_eq_true (c.fact 51 rfl)
  u_Rint := of_decide_eq_true (c.fact 52 rfl)
  u_Rstr := of_decide_eq_true (c.fact 53 rfl)
  u_Rlist := of_decide_eq_true (c.fact 54 rfl)
  u_Rtuple := of_decide_eq_true (c.fact 55 rfl)
  u_Rdict := of_decide_eq_true (c.fact 56 rfl)
end K02
set_option Elab.async false
set_option linter.all false
set_option maxRecDepth 100000
set_option maxHeartbeats 400000

namespace K02
open PySem PySem.Spec PyProof.Rows L2 He Rt
local macro_rules | `(tactic| walk_at "nx") => `(tactic| fail)
local macro_rules | `(tactic| walk_at "ne") => `(tactic| ((fail_if_success apply ne_probe); (fail_if_success apply ne_probe2); first
  | assumption
  | walk_at "nx"
  | (apply ne_n; assumption; walk_at "hp")
  | (apply ne_n'; assumption; walk_at "hp")
  | (intro z; cases z; done)))
local macro_rules | `(tactic| walk_at "hp") => `(tactic| ((fail_if_success apply hp_probe); first
  | assumption
  | exact upd_same
  | (apply at_new; assumption; walk_at "hp")
  | (apply same_at; assumption; walk_at "hp")
  | ((fail_if_success (apply np; assumption)); apply at_ne; walk_at "ne"; walk_at "hp")
  | (apply kp_at; assumption; walk_at "ne"; walk_at "hp")))
local macro_rules | `(tactic| walk_at "sd") => `(tactic| (first
  | decide
  | rfl
  | omega
  | assumption
  | exact Nat.le_of_ble_eq_true rfl
  | exact CMul.ok (.inl ⟨by omega, by omega⟩)
  | exact CMul.ok (.inr ⟨by omega, by omega⟩)
  | (refine ⟨?_, ?_⟩ <;> (first | decide | omega | assumption | (decide +kernel)))
  | (rw [sz_line]; (try simp only [Str.length_append]); omega)))
local macro_rules | `(tactic| walk_at "kp") => `(tactic| ((fail_if_success apply kp_probe); first
  | exact Kp.refl
  | (apply kp_snoc; assumption; walk_at "kp")
  | (apply kp_new; assumption; walk_at "kp")
  | (apply kp_same; assumption; walk_at "kp")
  | (apply Kp.at; walk_at "kp")))
local macro_rules | `(tactic| walk_at "sm") => `(tactic| ((fail_if_success apply sm_probe); first
  | exact Same.refl _
  | (apply same_new; assumption; walk_at "sm")
  | (apply same_snoc; assumption; walk_at "sm")))
local macro_rules | `(tactic| walk_at "sp") => `(tactic| fail)
local macro_rules | `(tactic| walk_at "fl") => `(tactic| (first
  | refine Exists.intro _ (Exists.intro _ (Exists.intro _ (Exists.intro _ (And.intro rfl (And.intro (by walk_at "hp") (And.intro (by assumption) (And.intro (by assumption) (And.intro (Nat.le_of_ble_eq_true rfl) ?_))))))))
  | refine Exists.intro _ (Exists.intro _ (Exists.intro _ (Exists.intro _ (Exists.intro _ (And.intro rfl (And.intro (by walk_at "hp") (And.intro (by assumption) (And.intro (by assumption) (And.intro rfl ?_)))))))))
  | refine Or.inr (Exists.intro _ (And.intro rfl (And.intro (by assumption) ?_)))))
local macro_rules | `(tactic| walk_at "pre") => `(tactic| fail)
local macro_rules | `(tactic| walk_at "rd1") => `(tactic| (first
  | refine Exists.intro _ (And.intro rfl ?_)
  | refine Exists.intro _ (Exists.intro _ (And.intro rfl (And.intro rfl ?_)))
  | refine Exists.intro _ (Exists.intro _ (And.intro rfl (And.intro (SqT.of (by walk_at "hp")) (And.intro rfl ?_))))
  | refine Exists.intro _ (Exists.intro _ (And.intro rfl ?_))
  | refine And.intro (by walk_at "sd") ?_
  | (with_reducible refine tnil_i ?_)
  | walk_at "pre"
  | (intro p hp)
  | refine Exists.intro _ (Exists.intro _ (Exists.intro _ (Exists.intro _ (And.intro rfl (And.intro rfl (And.intro (SqL.of (by walk_at "hp")) (And.intro rfl ?_)))))))
  | refine Exists.intro _ (Exists.intro _ (Exists.intro _ (Exists.intro _ (And.intro rfl (And.intro rfl (And.intro (by walk_at "hp") (And.intro rfl ?_)))))))
  | refine Exists.intro _ (Exists.intro _ (Exists.intro _ (Exists.intro _ (And.intro rfl (And.intro rfl (And.intro (by walk_at "hp") (And.intro (by walk_at "hp") ?_)))))))
  | refine Exists.intro _ (Exists.intro _ (Exists.intro _ (And.intro rfl (And.intro rfl (And.intro (by walk_at "hp") ?_)))))
  | refine Exists.intro _ (Exists.intro _ (And.intro rfl (And.intro (SqL.of (by walk_at "hp")) ?_)))
  | refine And.intro (Exists.intro _ (SqL.of (by walk_at "hp"))) ?_
  | refine iteT ?_
  | refine iteF ?_
  | walk_at "sp"))
local macro_rules | `(tactic| walk_at "rd") => `(tactic| repeat walk_at "rd1")

local macro_rules | `(tactic| walk_at "sp") => `(tactic| walk_at "fl")
section
variable {P : Program} {w : World} {K : PySem.W.Frag} {mg : Str → Option Value} {base : Heap}
abbrev CRa (K : PySem.W.Frag) : Addr := ga K "Ratio"
@[irreducible] def sp_isint (K : PySem.W.Frag) : Sp := Sp1 fun v H Q _ => ∃ t b, IsI K H v t b ∧ Q (.bl b) H
theorem sc_is_integer : FnScope ["value"] ["value"] (defScope s_is_integer) := ⟨rfl, rfl, rfl, by decide +kernel, rfl, by decide +kernel, by decide +kernel⟩
theorem ok_isint (T : Txt K mg) : Gd P w K mg base 1 "is_integer" (sp_isint K) := by
  obtain ⟨fd, F⟩ := T.F_is_integer
  refine ⟨_, fd, ["value"], okF F sc_is_integer (fun vs H Q E h => ?_) (fun cdv A outer s H vs Q E hr h => ?_), T.g_is_integer, F.kp, F.bindsN fun _ _ _ _ _ _ us hl => match us, hl with | [_], _ => rfl⟩
  · unfold sp_isint at h
    exact h.len
  · unfold sp_isint at h
    obtain ⟨v, rfl, t, b, ⟨ty, b1, b2, e1, e2, rfl⟩, q⟩ := h
    refine ⟨_, (pss_one (ps_ret (pe_and (pe_callB call_isi rfl T.f_isinstance (by decide +kernel) (pa_cons (pv 0) (pa_cons (pe_bltn (v := .ty "int") rfl T.f_int (by decide +kernel) rfl) pa_nil))) (pe_one (pe_not (pe_callB call_isi rfl T.f_isinstance (by decide +kernel) (pa_cons (pv 0) (pa_cons (pe_bltn (v := .ty "bool") rfl T.f_bool (by decide +kernel) rfl) pa_nil)))))))), ?_⟩
    refine ⟨_, rfl, v, .ty "int", t, _, b1, rfl, .ty _, ty, e1, b1, rfl, ?_⟩
    cases b1 with
    | false => exact iteF q
    | true => exact iteT ⟨_, rfl, v, .ty "bool", t, _, b2, rfl, .ty _, ty, e2, b2, rfl, q⟩
theorem isint_int {i : Int} {H : Hp} {Q : VK} {E : XK} (q : Q (.bl true) H) : sp_isint K [.int i] H Q E := by
  unfold sp_isint
  exact ⟨_, rfl, _, _, .int i, q⟩
theorem isint_of {v : V} {t : Value} {b : Bool} {H : Hp} {Q : VK} {E : XK} (h : IsI K H v t b) (q : Q (.bl b) H) : sp_isint K [v] H Q E := by
  unfold sp_isint
  exact ⟨_, rfl, _, _, h, q⟩
local macro_rules | `(tactic| walk_at "sp") => `(tactic| refine isint_int ?_)
@[irreducible] def sp_gcd : Sp := Sp2 fun x y H Q _ => ∃ n d : Int, x = .int n ∧ y = .int d ∧ Q (.int (Int.gcd n d)) H
theorem sc_shared_factor : FnScope ["one", "two", "high", "low"] ["one", "two"] (defScope s_shared_factor) := ⟨rfl, rfl, rfl, by decide +kernel, rfl, by decide +kernel, by decide +kernel⟩
theorem ok_gcd (T : Txt K mg) : Gd P w K mg base 1 "shared_factor" sp_gcd := by
  obtain ⟨fd, F⟩ := T.F_shared_factor
  refine ⟨_, fd, ["one", "two"], okF F sc_shared_factor (fun vs H Q E h => ?_) (fun cdv A outer s H vs Q E hr h => ?_), T.g_shared_factor, F.kp, F.bindsN fun _ _ _ _ _ _ us hl => match us, hl with | [_, _], _ => rfl⟩
  · unfold sp_gcd at h
    exact h.len
  · unfold sp_gcd at h
    obtain ⟨x, y, rfl, n, d, rfl, rfl, q⟩ := h
    refine ⟨_, (pss_cons (ps_par (i := 2) (j := 3) (by rfl) sc_shared_factor.nd rfl rfl (by decide) rfl rfl (pa_cons (pe_callB call_absI rfl T.f_abs (by decide +kernel) (pa_cons (pv 0) pa_nil)) (pa_cons (pe_callB call_absI rfl T.f_abs (by decide +kernel) (pa_cons (pv 1) pa_nil)) pa_nil)) (by rfl))
      (pss_cons (ps_while PassesOwn.never (pt_cmpR op_gt (pv 3) pe_int (nomark _)) (pss_one (ps_par (i := 2) (j := 3) (by rfl) sc_shared_factor.nd rfl rfl (by decide) rfl rfl (pa_cons (pv 3) (pa_cons (pe_op op_mod (pv 2) (pv 3)) pa_nil)) (by rfl))))
      (pss_one (ps_ret (pv 2))))), ?_⟩
    walk_at "rd"
    refine while_by (fun σ H' => H' = H ∧ ∃ u v : Nat, σ = [some (.int n), some (.int d), some (.int u), some (.int v)] ∧ Nat.gcd u v = Int.gcd n d) (fun σ _ => match σ with | [_, _, _, some (.int v)] => v.toNat | _ => 0) ⟨rfl, _, _, rfl, rfl⟩ ?_ ?_
    · rintro σ H' ⟨rfl, u, v, rfl, e⟩
      walk_at "rd"
      refine iteD (fun c => ?_) (fun c => ?_)
      · walk_at "rd"
        refine ⟨⟨rfl, v, u % v, rfl, ?_⟩, ?_⟩
        · rw [← e, Nat.gcd_comm u v, Nat.gcd_rec v u, Nat.gcd_comm]
        · have := Nat.mod_lt u (show 0 < v by omega)
          show ((u : Int) % (v : Int)).toNat < (v : Int).toNat
          omega
      · walk_at "rd"
        have hv : v = 0 := by omega
        subst hv
        rw [Nat.gcd_zero_right] at e
        rw [← e] at q
        exact q
    · rintro σ H1 Q1 Q2 f ⟨x, h1, i, j, h2, h3, b, h4, q1⟩
      exact ⟨x, h1, i, j, h2, h3, b, h4, f _ _ q1⟩
theorem gcd_i {n d : Int} {H : Hp} {Q : VK} {E : XK} (q : Q (.int (Int.gcd n d)) H) : sp_gcd [.int n, .int d] H Q E := by
  unfold sp_gcd
  exact ⟨_, _, rfl, n, d, rfl, rfl, q⟩
local macro_rules | `(tactic| walk_at "sp") => `(tactic| refine gcd_i ?_)
/-- a ratio stands at a -/
def RatAt (K : PySem.W.Frag) (H : Hp) (a : Addr) (p q : Int) : Prop := ∃ dx, H a = some (.ins (CRa K) dx [("upper_part", .int p), ("lower_part", .int q)])
theorem RatAt.same {H H' : Hp} {a : Addr} {p q : Int} (h : RatAt K H a p q) (s : Same H H') : RatAt K H' a p q := by
  obtain ⟨dx, e⟩ := h
  exact ⟨dx, s _ _ e⟩
@[irreducible] def sp_init (K : PySem.W.Frag) : Sp := Sp3 fun z x y H Q _ => ∃ a dx, ∃ n d : Int, z = .ref a ∧ H a = some (.ins (CRa K) dx []) ∧ x = .int n ∧ y = .int d ∧ d ≠ 0 ∧ d.natAbs.log2 < 9000 ∧
  ∀ H', RatAt K H' a (rtop n d) (rbot n d) → (∀ b, b ≠ a → H' b = H b) → Q .non H'
theorem mk_rat {H : Hp} {n d : Int} {Q : Addr → Hp → Prop} (hd : d ≠ 0) (hl : d.natAbs.log2 < 9000) (h : ∀ x H', H x = none → RatAt K H' x (rtop n d) (rbot n d) → Same H H' → Q x H') :
    ∀ x dx, H x = none → H dx = none → dx ≠ x → sp_init K [.ref x, .int n, .int d] (upd (upd H dx (.own x)) x (.ins (CRa K) dx [])) (fun v H2 => v = .non ∧ Q x H2) E0 := by
  intro x dx hx hdx hne
  unfold sp_init
  refine ⟨_, _, _, rfl, x, dx, n, d, rfl, upd_same, rfl, rfl, hd, hl, fun H' hr hs => ⟨rfl, h x H' hx hr fun b o e => ?_⟩⟩
  have n1 : b ≠ x := ne_of_none e hx
  have n2 : b ≠ dx := ne_of_none e hdx
  rw [hs b n1, upd_ne n1, upd_ne n2]
  exact e
theorem sc_Ratio_DinitD : FnScope ["self", "top", "bottom", "factor"] ["self", "top", "bottom"] (defScope s_Ratio_DinitD) := ⟨rfl, rfl, rfl, by decide +kernel, rfl, by decide +kernel, by decide +kernel⟩
theorem fn_init (T : Txt K mg) : ∃ fd, FnOk P w K mg base (L2.CX P w) 2 (ma K (ga K "Ratio") "__init__") fd ["self", "top", "bottom"] (sp_init K) ∧ Binds K fd ["self", "top", "bottom"] [] ∧ (∃ its, Binds K fd ["self", "top", "bottom"] its ∧ Vals [.int 1] its) ∧
    (∃ its : List Value, KBn K fd ["self", "top", "bottom"] 1 ["bottom", "top"] (fun us ws => us ++ ws.reverse) (fun vs zs => vs ++ zs.reverse)) ∧ (∃ its : List Value, KBn K fd ["self", "top", "bottom"] 1 ["top"] (fun us ws => us ++ ws ++ its) (fun vs zs => vs ++ zs ++ [.int 1])) := by
  obtain ⟨fd, F⟩ := T.F_Ratio_DinitD
  have G_is_integer := ok_isint (P := P) (w := w) (base := base) T
  have G_shared_factor := ok_gcd (P := P) (w := w) (base := base) T
  refine ⟨fd, okF F sc_Ratio_DinitD (fun vs H Q E h => ?_) (fun cdv A outer s H vs Q E hr h => ?_), ?_, ?_, ?_, ?_⟩
  · unfold sp_init at h
    exact h.len
  · unfold sp_init at h
    obtain ⟨z, x, y, rfl, a, dx, n, d, rfl, ea, rfl, rfl, hd, hl, q⟩ := h
    refine ⟨_, (pss_cons (ps_if (pt_not (pt_val (pe_gd G_is_integer hr (pa_cons (pv 1) pa_nil)))) (pss_one ps_never) pss_nil)
      (pss_cons (ps_if (pt_not (pt_val (pe_gd G_is_integer hr (pa_cons (pv 2) pa_nil)))) (pss_one ps_never) pss_nil)
      (pss_cons (ps_if (pt_cmpR op_eqI (pv 2) pe_int (nomark _)) (pss_one ps_never) pss_nil)
      (pss_cons (ps_set (i := 3) sc_Ratio_DinitD.nd rfl (Or.inl rfl) (pe_ifExp (pt_cmpR op_gt (pv 2) pe_int (nomark _)) (pe_gd G_shared_factor hr (pa_cons (pv 1) (pa_cons (pv 2) pa_nil))) (pe_un un_neg (pe_gd G_shared_factor hr (pa_cons (pv 1) (pa_cons (pv 2) pa_nil))))))
      (pss_cons (ps_fld (pv 0) (pe_op op_fdA (pv 1) (pv 3)) rfl)
      (pss_one (ps_fld (pv 0) (pe_op op_fdA (pv 2) (pv 3)) rfl))))))), ?_⟩
    have cR := T.c_Ratio
    have nU := T.n_up
    have nL := T.n_lo
    walk_at "rd"
    refine iteD (fun c => absurd c hd) (fun c => ?_)
    walk_at "rd"
    obtain ⟨g1, g2⟩ := cfd_gcd (m := n) (n := n) hd hl
    obtain ⟨g3, g4⟩ := cfd_gcd (m := d) (n := n) hd hl
    refine iteD (fun c => ?_) (fun c => ?_)
    · walk_at "rd"
      refine q _ ⟨dx, ?_⟩ (fun b hb => ?_)
      · unfold rtop rbot
        rw [rby_p c]
        exact upd_same
      · rw [upd_ne hb, upd_ne hb]
    · walk_at "rd"
      refine q _ ⟨dx, ?_⟩ (fun b hb => ?_)
      · unfold rtop rbot
        rw [rby_n c]
        exact upd_same
      · rw [upd_ne hb, upd_ne hb]
  · obtain ⟨ds, v, b⟩ := F.binds1 (ps := ["self", "top", "bottom"]) 3 1 (by simp) rfl fun T kV doc pm an cdv ct us its h1 h2 => match us, h1, its, h2 with | [_, _, _], _, [_], _ => ⟨_, rfl, by kernel_rfl⟩
    cases v
    exact b
  · obtain ⟨ds, v, b⟩ := F.binds1 (ps := ["self", "top", "bottom"]) 2 0 (by simp) rfl fun T kV doc pm an cdv ct us its h1 h2 => match us, h1, its, h2 with | [_, _], _, [_], _ => ⟨_, rfl, by kernel_rfl⟩
    exact ⟨ds, b, v⟩
  · exact kbindsD F 1 ["bottom", "top"] (fun us _ ws => us ++ ws.reverse) (by simp) (fun r1 _ r3 => r1.append r3.reverse) fun T kV doc pm an cdv ct us its ws h1 h2 h3 => match us, h1, its, h2, ws, h3 with | [_], _, [_], _, [_, _], _ => ⟨_, rfl, by kernel_rfl⟩
  · exact kbindsD F 1 ["top"] (fun us ds ws => us ++ ws ++ ds) (by simp) (fun r1 r2 r3 => (r1.append r3).append r2) fun T kV doc pm an cdv ct us its ws h1 h2 h3 => match us, h1, its, h2, ws, h3 with | [_], _, [_], _, [_], _ => ⟨_, rfl, by kernel_rfl⟩
theorem mr2 (T : Txt K mg) : Mkr P w K mg base 2 "Ratio" (CRa K) (sp_init K) [] := by
  obtain ⟨fd, F, b, _⟩ := fn_init (P := P) (w := w) (base := base) T
  exact ⟨_, fd, _, [], T.k_Ratio, F, T.g_Ratio, b, .nil⟩
theorem mr1 (T : Txt K mg) : Mkr P w K mg base 2 "Ratio" (CRa K) (sp_init K) [.int 1] := by
  obtain ⟨fd, F, _, ⟨ds, b, v⟩, _⟩ := fn_init (P := P) (w := w) (base := base) T
  exact ⟨_, fd, _, ds, T.k_Ratio, F, T.g_Ratio, b, v⟩
theorem mrk2 (T : Txt K mg) : MkrK P w K mg base 2 "Ratio" (CRa K) (sp_init K) ["bottom", "top"] (fun vs zs => vs ++ zs.reverse) := by
  obtain ⟨fd, F, _, _, ⟨its, b⟩, _⟩ := fn_init (P := P) (w := w) (base := base) T
  exact ⟨_, fd, _, _, T.k_Ratio, F, T.g_Ratio, b⟩
theorem mrk1 (T : Txt K mg) : MkrK P w K mg base 2 "Ratio" (CRa K) (sp_init K) ["top"] (fun vs zs => vs ++ zs ++ [.int 1]) := by
  obtain ⟨fd, F, _, _, _, ⟨its, b⟩⟩ := fn_init (P := P) (w := w) (base := base) T
  exact ⟨_, fd, _, _, T.k_Ratio, F, T.g_Ratio, b⟩
/-! ### the two properties -/
@[irreducible] def sp_top (K : PySem.W.Frag) : Sp := Sp1 fun z H Q _ => ∃ a, ∃ p q : Int, z = .ref a ∧ RatAt K H a p q ∧ Q (.int p) H
@[irreducible] def sp_bottom (K : PySem.W.Frag) : Sp := Sp1 fun z H Q _ => ∃ a, ∃ p q : Int, z = .ref a ∧ RatAt K H a p q ∧ Q (.int q) H
theorem sc_Ratio_top : FnScope ["self"] ["self"] (defScope s_Ratio_top) := ⟨rfl, rfl, rfl, by decide +kernel, rfl, by decide +kernel, by decide +kernel⟩
theorem sc_Ratio_bottom : FnScope ["self"] ["self"] (defScope s_Ratio_bottom) := ⟨rfl, rfl, rfl, by decide +kernel, rfl, by decide +kernel, by decide +kernel⟩
theorem ok_top (T : Txt K mg) : Prp P w K mg base 1 (CRa K) "top" (sp_top K) := by
  obtain ⟨fd, F⟩ := T.F_Ratio_top
  refine ⟨T.c_Ratio, _, _, fd, ["self"], T.p_top, okF F sc_Ratio_top (fun vs H Q E h => ?_) (fun cdv A outer s H vs Q E hr h => ?_), F.bindsN fun _ _ _ _ _ _ us hl => match us, hl with | [_], _ => rfl⟩
  · unfold sp_top at h
    exact h.len
  · unfold sp_top at h
    obtain ⟨z, rfl, a, p, q, rfl, ⟨dx, ea⟩, k⟩ := h
    have cR := T.c_Ratio
    have nU := T.n_up
    refine ⟨_, (pss_one (ps_ret (pe_fld (pv 0) rfl))), ?_⟩
    walk_at "rd"
    exact k
theorem ok_bottom (T : Txt K mg) : Prp P w K mg base 1 (CRa K) "bottom" (sp_bottom K) := by
  obtain ⟨fd, F⟩ := T.F_Ratio_bottom
  refine ⟨T.c_Ratio, _, _, fd, ["self"], T.p_bottom, okF F sc_Ratio_bottom (fun vs H Q E h => ?_) (fun cdv A outer s H vs Q E hr h => ?_), F.bindsN fun _ _ _ _ _ _ us hl => match us, hl with | [_], _ => rfl⟩
  · unfold sp_bottom at h
    exact h.len
  · unfold sp_bottom at h
    obtain ⟨z, rfl, a, p, q, rfl, ⟨dx, ea⟩, k⟩ := h
    have cR := T.c_Ratio
    have nL := T.n_lo
    refine ⟨_, (pss_one (ps_ret (pe_fld (pv 0) rfl))), ?_⟩
    walk_at "rd"
    exact k
theorem rtop_r {a : Addr} {p q : Int} {H : Hp} {Q : VK} {E : XK} (h : RatAt K H a p q) (k : Q (.int p) H) : sp_top K [.ref a] H Q E := by
  unfold sp_top
  exact ⟨_, rfl, a, p, q, rfl, h, k⟩
theorem rbot_r {a : Addr} {p q : Int} {H : Hp} {Q : VK} {E : XK} (h : RatAt K H a p q) (k : Q (.int q) H) : sp_bottom K [.ref a] H Q E := by
  unfold sp_bottom
  exact ⟨_, rfl, a, p, q, rfl, h, k⟩
/-- reading e.top -/
theorem p_top {a : Addr} {p q : Int} {H : Hp} {Q : VK} (h : RatAt K H a p q) (k : Q (.int p) H) : ∃ b dx fs, V.ref a = .ref b ∧ H b = some (.ins (CRa K) dx fs) ∧ sp_top K (.ref b :: []) H Q E0 := by
  obtain ⟨dx, e⟩ := h
  exact ⟨a, dx, _, rfl, e, rtop_r ⟨dx, e⟩ k⟩
theorem p_bot {a : Addr} {p q : Int} {H : Hp} {Q : VK} (h : RatAt K H a p q) (k : Q (.int q) H) : ∃ b dx fs, V.ref a = .ref b ∧ H b = some (.ins (CRa K) dx fs) ∧ sp_bottom K (.ref b :: []) H Q E0 := by
  obtain ⟨dx, e⟩ := h
  exact ⟨a, dx, _, rfl, e, rbot_r ⟨dx, e⟩ k⟩
theorem RatAt.new {H : Hp} {a p : Addr} {o : HO} {u v : Int} (h : RatAt K H a u v) (hp : H p = none) : RatAt K (upd H p o) a u v := h.same (Same.newp hp)
theorem RatAt.same' {H H' : Hp} {a : Addr} {p q : Int} (s : Same H H') (h : RatAt K H a p q) : RatAt K H' a p q := h.same s
theorem RatAt.new' {H : Hp} {a p : Addr} {o : HO} {u v : Int} (hp : H p = none) (h : RatAt K H a u v) : RatAt K (upd H p o) a u v := h.same (Same.newp hp)
theorem ra_probe {a : Addr} {p q : Int} (h : RatAt K Hbad a p q) : RatAt K Hbad a p q := h
local macro_rules | `(tactic| walk_at "ra") => `(tactic| ((fail_if_success apply ra_probe); first
  | assumption
  | (apply RatAt.new'; assumption; walk_at "ra")
  | (apply RatAt.same'; assumption; walk_at "ra")
  | (refine ⟨_, ?_⟩; walk_at "hp")))
local macro_rules | `(tactic| walk_at "sp") => `(tactic| (first | refine p_top (by walk_at "ra") ?_ | refine p_bot (by walk_at "ra") ?_))
/-! ### numbers -/
theorem isi_rat (T : Txt K mg) {H : Hp} {a : Addr} {p q : Int} (h : RatAt K H a p q) : IsI K H (.ref a) (.ref (CRa K)) false := by
  obtain ⟨dx, e⟩ := h
  exact ⟨.base (fIsi_ok T.i_Ratio T.c_Ratio e), false, false, T.y_Ri, T.y_Rb, rfl⟩
@[irreducible] def sp_isnum (K : PySem.W.Frag) : Sp := Sp1 fun v H Q _ => (∃ a, ∃ p q : Int, v = .ref a ∧ RatAt K H a p q ∧ Q (.bl true) H) ∨ ∃ t b, IsI K H v t b ∧ PySem.W.kitOne K t (.ref (CRa K)) = some false ∧ Q (.bl b) H
theorem sc_is_number : FnScope ["value"] ["value"] (defScope s_is_number) := ⟨rfl, rfl, rfl, by decide +kernel, rfl, by decide +kernel, by decide +kernel⟩
theorem ok_isnum (T : Txt K mg) : Gd P w K mg base 2 "is_number" (sp_isnum K) := by
  obtain ⟨fd, F⟩ := T.F_is_number
  have G_is_integer := ok_isint (P := P) (w := w) (base := base) T
  refine ⟨_, fd, ["value"], okF F sc_is_number (fun vs H Q E h => ?_) (fun cdv A outer s H vs Q E hr h => ?_), T.g_is_number, F.kp, F.bindsN fun _ _ _ _ _ _ us hl => match us, hl with | [_], _ => rfl⟩
  · unfold sp_isnum at h
    exact h.len
  · unfold sp_isnum at h
    obtain ⟨v, rfl, h⟩ := h
    refine ⟨_, (pss_one (ps_ret (pe_or (pe_gd G_is_integer hr (pa_cons (pv 0) pa_nil)) (pe_one (pe_callB call_isi rfl T.f_isinstance (by decide +kernel) (pa_cons (pv 0) (pa_cons (pe_glob (v := .ref (ga K "Ratio")) rfl T.g_Ratio rfl) pa_nil))))))), ?_⟩
    refine ⟨_, rfl, ?_⟩
    rcases h with ⟨a, p, q, rfl, h, k⟩ | ⟨t, b, h, hk, k⟩
    · have i1 := isi_rat T h
      refine isint_of i1 ⟨_, rfl, iteF ?_⟩
      exact ⟨_, rfl, _, _, _, _, _, rfl, .own _, i1.ty, T.y_RR, k⟩
    · refine isint_of h ⟨_, rfl, ?_⟩
      cases b with
      | true => exact iteT k
      | false => exact iteF ⟨_, rfl, _, _, _, _, _, rfl, .own _, h.ty, hk, k⟩
theorem isnum_r {a : Addr} {p q : Int} {H : Hp} {Q : VK} {E : XK} (h : RatAt K H a p q) (k : Q (.bl true) H) : sp_isnum K [.ref a] H Q E := by
  unfold sp_isnum
  exact ⟨_, rfl, .inl ⟨a, p, q, rfl, h, k⟩⟩
theorem isnum_o {v : V} {t : Value} {b : Bool} {H : Hp} {Q : VK} {E : XK} (h : IsI K H v t b) (hk : PySem.W.kitOne K t (.ref (CRa K)) = some false) (k : Q (.bl b) H) : sp_isnum K [v] H Q E := by
  unfold sp_isnum
  exact ⟨_, rfl, .inr ⟨t, b, h, hk, k⟩⟩
theorem isnum_i (T : Txt K mg) {i : Int} {H : Hp} {Q : VK} {E : XK} (k : Q (.bl true) H) : sp_isnum K [.int i] H Q E := isnum_o (.int i) T.y_intR k
@[irreducible] def sp_as (K : PySem.W.Frag) : Sp := Sp1 fun v H Q _ => (∃ a, ∃ p q : Int, v = .ref a ∧ RatAt K H a p q ∧ Q v H) ∨ ∃ i : Int, v = .int i ∧ ∀ x H', RatAt K H' x i 1 → Same H H' → Q (.ref x) H'
theorem sc_as_ratio : FnScope ["number"] ["number"] (defScope s_as_ratio) := ⟨rfl, rfl, rfl, by decide +kernel, rfl, by decide +kernel, by decide +kernel⟩
theorem ok_as (T : Txt K mg) : Gd P w K mg base 4 "as_ratio" (sp_as K) := by
  obtain ⟨fd, F⟩ := T.F_as_ratio
  have M_Ratio1 := mr1 (P := P) (w := w) (base := base) T
  refine ⟨_, fd, ["number"], okF F sc_as_ratio (fun vs H Q E h => ?_) (fun cdv A outer s H vs Q E hr h => ?_), T.g_as_ratio, F.kp, F.bindsN fun _ _ _ _ _ _ us hl => match us, hl with | [_], _ => rfl⟩
  · unfold sp_as at h
    exact h.len
  · unfold sp_as at h
    obtain ⟨v, rfl, h⟩ := h
    refine ⟨_, (pss_one (ps_ret (pe_ifExp (pt_val (pe_callB call_isi rfl T.f_isinstance (by decide +kernel) (pa_cons (pv 0) (pa_cons (pe_glob (v := .ref (ga K "Ratio")) rfl T.g_Ratio rfl) pa_nil)))) (pv 0) (pe_mkr M_Ratio1 hr (pa_cons (pv 0) pa_nil))))), ?_⟩
    refine ⟨_, rfl, ?_⟩
    rcases h with ⟨a, p, q, rfl, h, k⟩ | ⟨i, rfl, k⟩
    · exact ⟨_, _, _, _, _, rfl, .own _, (isi_rat T h).ty, T.y_RR, _, rfl, iteT ⟨_, rfl, k⟩⟩
    · refine ⟨_, _, _, _, _, rfl, .own _, .base (.int i), T.y_intR, _, rfl, iteF ⟨_, rfl, ?_⟩⟩
      obtain ⟨e1, e2⟩ := r_one i
      exact mk_rat (by decide) (by decide) fun x H' _ hr hs => k x H' (by rw [e1, e2] at hr; exact hr) hs
theorem as_r {a : Addr} {p q : Int} {H : Hp} {Q : VK} {E : XK} (h : RatAt K H a p q) (k : Q (.ref a) H) : sp_as K [.ref a] H Q E := by
  unfold sp_as
  exact ⟨_, rfl, .inl ⟨a, p, q, rfl, h, k⟩⟩
theorem as_i {i : Int} {H : Hp} {Q : VK} {E : XK} (k : ∀ x H', RatAt K H' x i 1 → Same H H' → Q (.ref x) H') : sp_as K [.int i] H Q E := by
  unfold sp_as
  exact ⟨_, rfl, .inr ⟨i, rfl, k⟩⟩
/-! ### == -/
/-- self == v: the answer -/
@[irreducible] def sp_eq (K : PySem.W.Frag) : Sp := Sp2 fun z v H Q _ => ∃ a, ∃ p q : Int, z = .ref a ∧ RatAt K H a p q ∧
  ((∃ b, ∃ p' q' : Int, v = .ref b ∧ RatAt K H b p' q' ∧ Q (.bl (decide (p = p') && decide (q = q'))) H) ∨ (∃ i : Int, v = .int i ∧ ∀ H', Same H H' → Q (.bl (decide (p = i) && decide (q = 1))) H') ∨
    ∃ t, IsI K H v t false ∧ PySem.W.kitOne K t (.ref (CRa K)) = some false ∧ Q (.bl false) H)
theorem sc_Ratio_DeqD : FnScope ["self", "other", "by"] ["self", "other"] (defScope s_Ratio_DeqD) := ⟨rfl, rfl, rfl, by decide +kernel, rfl, by decide +kernel, by decide +kernel⟩
theorem ok_eq (T : Txt K mg) : Sm P w K mg base 5 (CRa K) "__eq__" (sp_eq K) := by
  obtain ⟨fd, F⟩ := T.F_Ratio_DeqD
  have G_is_number := ok_isnum (P := P) (w := w) (base := base) T
  have G_as_ratio := ok_as (P := P) (w := w) (base := base) T
  have Y_top := ok_top (P := P) (w := w) (base := base) T
  have Y_bottom := ok_bottom (P := P) (w := w) (base := base) T
  refine ⟨_, fd, ["self", "other"], okF F sc_Ratio_DeqD (fun vs H Q E h => ?_) (fun cdv A outer s H vs Q E hr h => ?_), T.m_eq.at_, T.m_eq.fn, T.m_eq.kp, F.bindsN fun _ _ _ _ _ _ us hl => match us, hl with | [_, _], _ => rfl⟩
  · unfold sp_eq at h
    exact h.len
  · unfold sp_eq at h
    obtain ⟨z, v, rfl, a, p, q, rfl, h, k⟩ := h
    refine ⟨_, (pss_cons (ps_if (pt_not (pt_val (pe_gd G_is_number hr (pa_cons (pv 1) pa_nil)))) (pss_one (ps_ret pe_bl)) pss_nil)
      (pss_cons (ps_set (i := 2) sc_Ratio_DeqD.nd rfl (Or.inl rfl) (pe_gd G_as_ratio hr (pa_cons (pv 1) pa_nil)))
      (pss_one (ps_ret (pe_and (pe_cmpR op_eqI (pe_prp Y_top hr (pv 0)) (pe_prp Y_top hr (pv 2)) (nomark _)) (pe_one (pe_cmpR op_eqI (pe_prp Y_bottom hr (pv 0)) (pe_prp Y_bottom hr (pv 2)) (nomark _)))))))), ?_⟩
    refine ⟨_, rfl, ?_⟩
    rcases k with ⟨b, p', q', rfl, h', k⟩ | ⟨i, rfl, k⟩ | ⟨t, h', hk, k⟩
    · refine isnum_r h' ⟨_, rfl, iteF ⟨_, rfl, as_r h' ?_⟩⟩
      walk_at "rd"
      refine iteD (fun c => ?_) (fun c => ?_)
      · walk_at "rd"
        rw [decide_eq_true c, Bool.true_and] at k
        exact k
      · walk_at "rd"
        rw [decide_eq_false c, Bool.false_and] at k
        exact k
    · refine isnum_i T ⟨_, rfl, iteF ⟨_, rfl, as_i fun x H' hr hs => ?_⟩⟩
      walk_at "rd"
      have k := k H' hs
      refine iteD (fun c => ?_) (fun c => ?_)
      · walk_at "rd"
        rw [decide_eq_true c, Bool.true_and] at k
        exact k
      · walk_at "rd"
        rw [decide_eq_false c, Bool.false_and] at k
        exact k
    · exact isnum_o h' hk ⟨_, rfl, iteT k⟩
end
end K02
set_option Elab.async false
set_option linter.all false
set_option maxRecDepth 100000
set_option maxHeartbeats 400000

namespace K02
open PySem PySem.Spec PyProof.Rows L2 He Rt
local macro_rules | `(tactic| walk_at "nx") => `(tactic| fail)
local macro_rules | `(tactic| walk_at "ne") => `(tactic| ((fail_if_success apply ne_probe); (fail_if_success apply ne_probe2); first
  | assumption
  | walk_at "nx"
  | (apply ne_n; assumption; walk_at "hp")
  | (apply ne_n'; assumption; walk_at "hp")
  | (intro z; cases z; done)))
local macro_rules | `(tactic| walk_at "hp") => `(tactic| ((fail_if_success apply hp_probe); first
  | assumption
  | exact upd_same
  | (apply at_new; assumption; walk_at "hp")
  | (apply same_at; assumption; walk_at "hp")
  | ((fail_if_success (apply np; assumption)); apply at_ne; walk_at "ne"; walk_at "hp")
  | (apply kp_at; assumption; walk_at "ne"; walk_at "hp")))
local macro_rules | `(tactic| walk_at "sd") => `(tactic| (first
  | decide
  | rfl
  | omega
  | assumption
  | exact Nat.le_of_ble_eq_true rfl
  | exact CMul.ok (.inl ⟨by omega, by omega⟩)
  | exact CMul.ok (.inr ⟨by omega, by omega⟩)
  | (refine ⟨?_, ?_⟩ <;> (first | decide | omega | assumption | (decide +kernel)))
  | (rw [sz_line]; (try simp only [Str.length_append]); omega)))
local macro_rules | `(tactic| walk_at "kp") => `(tactic| ((fail_if_success apply kp_probe); first
  | exact Kp.refl
  | (apply kp_snoc; assumption; walk_at "kp")
  | (apply kp_new; assumption; walk_at "kp")
  | (apply kp_same; assumption; walk_at "kp")
  | (apply Kp.at; walk_at "kp")))
local macro_rules | `(tactic| walk_at "sm") => `(tactic| ((fail_if_success apply sm_probe); first
  | exact Same.refl _
  | (apply same_new; assumption; walk_at "sm")
  | (apply same_snoc; assumption; walk_at "sm")))
local macro_rules | `(tactic| walk_at "sp") => `(tactic| fail)
local macro_rules | `(tactic| walk_at "fl") => `(tactic| (first
  | refine Exists.intro _ (Exists.intro _ (Exists.intro _ (Exists.intro _ (And.intro rfl (And.intro (by walk_at "hp") (And.intro (by assumption) (And.intro (by assumption) (And.intro (Nat.le_of_ble_eq_true rfl) ?_))))))))
  | refine Exists.intro _ (Exists.intro _ (Exists.intro _ (Exists.intro _ (Exists.intro _ (And.intro rfl (And.intro (by walk_at "hp") (And.intro (by assumption) (And.intro (by assumption) (And.intro rfl ?_)))))))))
  | refine Or.inr (Exists.intro _ (And.intro rfl (And.intro (by assumption) ?_)))))
local macro_rules | `(tactic| walk_at "pre") => `(tactic| fail)
local macro_rules | `(tactic| walk_at "rd1") => `(tactic| (first
  | refine Exists.intro _ (And.intro rfl ?_)
  | refine Exists.intro _ (Exists.intro _ (And.intro rfl (And.intro rfl ?_)))
  | refine Exists.intro _ (Exists.intro _ (And.intro rfl (And.intro (SqT.of (by walk_at "hp")) (And.intro rfl ?_))))
  | refine Exists.intro _ (Exists.intro _ (And.intro rfl ?_))
  | refine And.intro (by walk_at "sd") ?_
  | (with_reducible refine tnil_i ?_)
  | walk_at "pre"
  | (intro p hp)
  | refine Exists.intro _ (Exists.intro _ (Exists.intro _ (Exists.intro _ (And.intro rfl (And.intro rfl (And.intro (SqL.of (by walk_at "hp")) (And.intro rfl ?_)))))))
  | refine Exists.intro _ (Exists.intro _ (Exists.intro _ (Exists.intro _ (And.intro rfl (And.intro rfl (And.intro (by walk_at "hp") (And.intro rfl ?_)))))))
  | refine Exists.intro _ (Exists.intro _ (Exists.intro _ (Exists.intro _ (And.intro rfl (And.intro rfl (And.intro (by walk_at "hp") (And.intro (by walk_at "hp") ?_)))))))
  | refine Exists.intro _ (Exists.intro _ (Exists.intro _ (And.intro rfl (And.intro rfl (And.intro (by walk_at "hp") ?_)))))
  | refine Exists.intro _ (Exists.intro _ (And.intro rfl (And.intro (SqL.of (by walk_at "hp")) ?_)))
  | refine And.intro (Exists.intro _ (SqL.of (by walk_at "hp"))) ?_
  | refine iteT ?_
  | refine iteF ?_
  | walk_at "sp"))
local macro_rules | `(tactic| walk_at "rd") => `(tactic| repeat walk_at "rd1")

local macro_rules | `(tactic| walk_at "ra") => `(tactic| ((fail_if_success apply ra_probe); first
  | assumption
  | (apply RatAt.new'; assumption; walk_at "ra")
  | (apply RatAt.same'; assumption; walk_at "ra")
  | (refine ⟨_, ?_⟩; walk_at "hp")))
local macro_rules | `(tactic| walk_at "sp") => `(tactic| (first | refine isint_int ?_ | refine gcd_i ?_ | refine p_top (by walk_at "ra") ?_ | refine p_bot (by walk_at "ra") ?_))

local macro_rules | `(tactic| walk_at "sp") => `(tactic| walk_at "fl")
section
variable {P : Program} {w : World} {K : PySem.W.Frag} {mg : Str → Option Value} {base : Heap}
@[irreducible] def sp_bool (K : PySem.W.Frag) : Sp := Sp1 fun z H Q _ => ∃ a, ∃ p q : Int, z = .ref a ∧ RatAt K H a p q ∧ Q (.bl (p != 0)) H
@[irreducible] def sp_str (K : PySem.W.Frag) : Sp := Sp1 fun z H Q _ => ∃ a, ∃ p q : Int, z = .ref a ∧ RatAt K H a p q ∧ (p.natAbs.log2 < 1920 ∧ q.natAbs.log2 < 1920) ∧ Q (.str (rstr p q)) H
@[irreducible] def sp_repr (K : PySem.W.Frag) : Sp := Sp1 fun z H Q _ => ∃ a, ∃ p q : Int, z = .ref a ∧ RatAt K H a p q ∧ (p.natAbs.log2 < 1920 ∧ q.natAbs.log2 < 1920) ∧ Q (.str (rrep p q)) H
theorem sc_Ratio_DboolD : FnScope ["self"] ["self"] (defScope s_Ratio_DboolD) := ⟨rfl, rfl, rfl, by decide +kernel, rfl, by decide +kernel, by decide +kernel⟩
theorem sc_Ratio_DstrD : FnScope ["self"] ["self"] (defScope s_Ratio_DstrD) := ⟨rfl, rfl, rfl, by decide +kernel, rfl, by decide +kernel, by decide +kernel⟩
theorem sc_Ratio_DreprD : FnScope ["self"] ["self"] (defScope s_Ratio_DreprD) := ⟨rfl, rfl, rfl, by decide +kernel, rfl, by decide +kernel, by decide +kernel⟩
theorem ok_bool (T : Txt K mg) : Sm P w K mg base 3 (CRa K) "__bool__" (sp_bool K) := by
  obtain ⟨fd, F⟩ := T.F_Ratio_DboolD
  have Y_top := ok_top (P := P) (w := w) (base := base) T
  refine ⟨_, fd, ["self"], okF F sc_Ratio_DboolD (fun vs H Q E h => ?_) (fun cdv A outer s H vs Q E hr h => ?_), T.m_bool.at_, T.m_bool.fn, T.m_bool.kp, F.bindsN fun _ _ _ _ _ _ us hl => match us, hl with | [_], _ => rfl⟩
  · unfold sp_bool at h
    exact h.len
  · unfold sp_bool at h
    obtain ⟨z, rfl, a, p, q, rfl, h, k⟩ := h
    refine ⟨_, (pss_one (ps_ret (pe_callTy call_boolI rfl T.f_bool (by decide +kernel) (pa_cons (pe_prp Y_top hr (pv 0)) pa_nil)))), ?_⟩
    walk_at "rd"
    exact k
theorem ok_str (T : Txt K mg) : Sm P w K mg base 3 (CRa K) "__str__" (sp_str K) := by
  obtain ⟨fd, F⟩ := T.F_Ratio_DstrD
  have Y_top := ok_top (P := P) (w := w) (base := base) T
  have Y_bottom := ok_bottom (P := P) (w := w) (base := base) T
  refine ⟨_, fd, ["self"], okF F sc_Ratio_DstrD (fun vs H Q E h => ?_) (fun cdv A outer s H vs Q E hr h => ?_), T.m_str.at_, T.m_str.fn, T.m_str.kp, F.bindsN fun _ _ _ _ _ _ us hl => match us, hl with | [_], _ => rfl⟩
  · unfold sp_str at h
    exact h.len
  · unfold sp_str at h
    obtain ⟨z, rfl, a, p, q, rfl, h, ⟨l1, l2⟩, k⟩ := h
    have n1 := int_text_len_1921 l1
    have n2 := int_text_len_1921 l2
    have e1 : ("/" : Str).length = 1 := rfl
    have e2 : Str.empty.length = 0 := rfl
    refine ⟨_, (pss_cons (ps_if (pt_cmpR op_eqI (pe_prp Y_bottom hr (pv 0)) pe_int (nomark _)) (pss_one (ps_ret (pe_joined1 (pe_fmt (pe_prp Y_top hr (pv 0)))))) pss_nil)
      (pss_one (ps_ret (pe_joined (.cons (pe_fmt (pe_prp Y_top hr (pv 0))) (.cons pe_str (.cons (pe_fmt (pe_prp Y_bottom hr (pv 0))) .nil))))))), ?_⟩
    walk_at "rd"
    unfold rstr at k
    refine iteD (fun c => ?_) (fun c => ?_)
    · walk_at "rd"
      rw [if_pos c] at k
      exact k
    · walk_at "rd"
      rw [if_neg c] at k
      rw [Str.empty_append]
      exact k
theorem ok_repr (T : Txt K mg) : Sm P w K mg base 3 (CRa K) "__repr__" (sp_repr K) := by
  obtain ⟨fd, F⟩ := T.F_Ratio_DreprD
  have Y_top := ok_top (P := P) (w := w) (base := base) T
  have Y_bottom := ok_bottom (P := P) (w := w) (base := base) T
  refine ⟨_, fd, ["self"], okF F sc_Ratio_DreprD (fun vs H Q E h => ?_) (fun cdv A outer s H vs Q E hr h => ?_), T.m_repr.at_, T.m_repr.fn, T.m_repr.kp, F.bindsN fun _ _ _ _ _ _ us hl => match us, hl with | [_], _ => rfl⟩
  · unfold sp_repr at h
    exact h.len
  · unfold sp_repr at h
    obtain ⟨z, rfl, a, p, q, rfl, h, ⟨l1, l2⟩, k⟩ := h
    have n1 := int_text_len_1921 l1
    have n2 := int_text_len_1921 l2
    have e1 : (", " : Str).length = 2 := rfl
    have e2 : Str.empty.length = 0 := rfl
    have e3 : ("Ratio(" : Str).length = 6 := rfl
    have e4 : (")" : Str).length = 1 := rfl
    refine ⟨_, (pss_one (ps_ret (pe_joined (.cons pe_str (.cons (pe_fmt (pe_prp Y_top hr (pv 0))) (.cons pe_str (.cons (pe_fmt (pe_prp Y_bottom hr (pv 0))) (.cons pe_str .nil)))))))), ?_⟩
    walk_at "rd"
    unfold rrep at k
    rw [Str.empty_append]
    exact k
theorem bool_r {a : Addr} {p q : Int} {H : Hp} {Q : Bool → Hp → Prop} (h : RatAt K H a p q) (k : Q (p != 0) H) : rTru (CRa K) (sp_bool K) (.ref a) H Q := by
  obtain ⟨dx, e⟩ := h
  refine ⟨a, dx, _, rfl, e, ?_⟩
  unfold sp_bool
  exact ⟨_, rfl, a, p, q, rfl, ⟨dx, e⟩, _, rfl, k⟩
theorem boolc_r {a : Addr} {p q : Int} {H : Hp} {Q : VK} (h : RatAt K H a p q) (k : Q (.bl (p != 0)) H) : rBoolO (CRa K) (sp_bool K) [.ref a] H Q := by
  obtain ⟨dx, e⟩ := h
  refine ⟨a, dx, _, rfl, e, ?_⟩
  unfold sp_bool
  exact ⟨_, rfl, a, p, q, rfl, ⟨dx, e⟩, _, rfl, k⟩
theorem str_r {a : Addr} {p q : Int} {H : Hp} {Q : VK} (h : RatAt K H a p q) (l : p.natAbs.log2 < 1920 ∧ q.natAbs.log2 < 1920) (k : Q (.str (rstr p q)) H) : rStrO (CRa K) (sp_str K) [.ref a] H Q := by
  obtain ⟨dx, e⟩ := h
  refine ⟨a, dx, _, rfl, e, ?_⟩
  unfold sp_str
  exact ⟨_, rfl, a, p, q, rfl, ⟨dx, e⟩, l, _, rfl, k⟩
theorem repr_r {a : Addr} {p q : Int} {H : Hp} {Q : VK} (h : RatAt K H a p q) (l : p.natAbs.log2 < 1920 ∧ q.natAbs.log2 < 1920) (k : Q (.str (rrep p q)) H) : rStrO (CRa K) (sp_repr K) [.ref a] H Q := by
  obtain ⟨dx, e⟩ := h
  refine ⟨a, dx, _, rfl, e, ?_⟩
  unfold sp_repr
  exact ⟨_, rfl, a, p, q, rfl, ⟨dx, e⟩, l, _, rfl, k⟩
/-- what stands at the left of == or at its right -/
theorem eqO_l {a : Addr} {y : V} {t : Value} {H : Hp} {Q : VK} {neg : Bool} {p q : Int} (h : RatAt K H a p q) (ty : TyX K H y t) (hn : PySem.W.notFirst K (CRa K) t = true) (k : sp_eq K [.ref a, y] H (fun v H' => ∃ c, v = .bl c ∧ Q (.bl (if neg then !c else c)) H') E0) :
    rEqO K (CRa K) (sp_eq K) neg (.ref a) y H Q := by
  obtain ⟨dx, e⟩ := h
  exact .inl ⟨a, dx, _, t, rfl, e, ty, hn, k⟩
theorem eqO_r {b : Addr} {x : V} {t : String} {H : Hp} {Q : VK} {neg : Bool} {p q : Int} (h : RatAt K H b p q) (d : Dec H x t) (hn : PySem.W.subIn K (.ref (CRa K)) (.type t) = some false) (k : sp_eq K [.ref b, x] H (fun v H' => ∃ c, v = .bl c ∧ Q (.bl (if neg then !c else c)) H') E0) :
    rEqO K (CRa K) (sp_eq K) neg x (.ref b) H Q := by
  obtain ⟨dx, e⟩ := h
  exact .inr ⟨b, dx, _, t, rfl, e, d, hn, k⟩
/-! ### the law's own -/
@[irreducible] def sp_common : Sp := Sp2 fun x y H Q _ => ∃ n d : Int, x = .int n ∧ y = .int d ∧ Q (.int (Int.gcd n d)) H
theorem sc_l_common : FnScope ["_law_one", "_law_two", "_law_high", "_law_low"] ["_law_one", "_law_two"] (defScope s_l_common) := ⟨rfl, rfl, rfl, by decide +kernel, rfl, by decide +kernel, by decide +kernel⟩
theorem ok_common (T : Txt K mg) : Gd P w K mg base 1 "_law_common" sp_common := by
  obtain ⟨fd, F⟩ := T.F_l_common
  refine ⟨_, fd, ["_law_one", "_law_two"], okF F sc_l_common (fun vs H Q E h => ?_) (fun cdv A outer s H vs Q E hr h => ?_), T.g_l_common, F.kp, F.bindsN fun _ _ _ _ _ _ us hl => match us, hl with | [_, _], _ => rfl⟩
  · unfold sp_common at h
    exact h.len
  · unfold sp_common at h
    obtain ⟨x, y, rfl, n, d, rfl, rfl, q⟩ := h
    refine ⟨_, (pss_cons (ps_par (i := 2) (j := 3) (by rfl) sc_l_common.nd rfl rfl (by decide) rfl rfl (pa_cons (pe_callB call_absI rfl T.f_abs (by decide +kernel) (pa_cons (pv 0) pa_nil)) (pa_cons (pe_callB call_absI rfl T.f_abs (by decide +kernel) (pa_cons (pv 1) pa_nil)) pa_nil)) (by rfl))
      (pss_cons (ps_while PassesOwn.never (pt_cmpR op_gt (pv 3) pe_int (nomark _)) (pss_one (ps_par (i := 2) (j := 3) (by rfl) sc_l_common.nd rfl rfl (by decide) rfl rfl (pa_cons (pv 3) (pa_cons (pe_op op_mod (pe_callTy call_intI rfl T.f_int (by decide +kernel) (pa_cons (pv 2) pa_nil)) (pv 3)) pa_nil)) (by rfl))))
      (pss_one (ps_ret (pv 2))))), ?_⟩
    walk_at "rd"
    refine while_by (fun σ H' => H' = H ∧ ∃ u v : Nat, σ = [some (.int n), some (.int d), some (.int u), some (.int v)] ∧ Nat.gcd u v = Int.gcd n d) (fun σ _ => match σ with | [_, _, _, some (.int v)] => v.toNat | _ => 0) ⟨rfl, _, _, rfl, rfl⟩ ?_ ?_
    · rintro σ H' ⟨rfl, u, v, rfl, e⟩
      walk_at "rd"
      refine iteD (fun c => ?_) (fun c => ?_)
      · walk_at "rd"
        refine ⟨⟨rfl, v, u % v, rfl, ?_⟩, ?_⟩
        · rw [← e, Nat.gcd_comm u v, Nat.gcd_rec v u, Nat.gcd_comm]
        · have := Nat.mod_lt u (show 0 < v by omega)
          show ((u : Int) % (v : Int)).toNat < (v : Int).toNat
          omega
      · walk_at "rd"
        have hv : v = 0 := by omega
        subst hv
        rw [Nat.gcd_zero_right] at e
        rw [← e] at q
        exact q
    · rintro σ H1 Q1 Q2 f ⟨x, h1, i, j, h2, h3, b, h4, q1⟩
      exact ⟨x, h1, i, j, h2, h3, b, h4, f _ _ q1⟩
theorem common_i {n d : Int} {H : Hp} {Q : VK} {E : XK} (q : Q (.int (Int.gcd n d)) H) : sp_common [.int n, .int d] H Q E := by
  unfold sp_common
  exact ⟨_, _, rfl, n, d, rfl, rfl, q⟩
local macro_rules | `(tactic| walk_at "sp") => `(tactic| refine common_i ?_)
@[irreducible] def sp_lowest : Sp := Sp2 fun x y H Q _ => ∃ n d : Int, x = .int n ∧ y = .int d ∧ d ≠ 0 ∧ d.natAbs.log2 < 9000 ∧ ∀ t H', H' t = some (.tup [.int (rtop n d), .int (rbot n d)]) → Same H H' → Q (.ref t) H'
theorem sc_l_lowest : FnScope ["_law_upper", "_law_lower", "_law_by"] ["_law_upper", "_law_lower"] (defScope s_l_lowest) := ⟨rfl, rfl, rfl, by decide +kernel, rfl, by decide +kernel, by decide +kernel⟩
theorem ok_lowest (T : Txt K mg) : Gd P w K mg base 2 "_law_lowest" sp_lowest := by
  obtain ⟨fd, F⟩ := T.F_l_lowest
  have G_l_common := ok_common (P := P) (w := w) (base := base) T
  refine ⟨_, fd, ["_law_upper", "_law_lower"], okF F sc_l_lowest (fun vs H Q E h => ?_) (fun cdv A outer s H vs Q E hr h => ?_), T.g_l_lowest, F.kp, F.bindsN fun _ _ _ _ _ _ us hl => match us, hl with | [_, _], _ => rfl⟩
  · unfold sp_lowest at h
    exact h.len
  · unfold sp_lowest at h
    obtain ⟨x, y, rfl, n, d, rfl, rfl, hd, hl, q⟩ := h
    refine ⟨_, (pss_cons (ps_set (i := 2) sc_l_lowest.nd rfl (Or.inl rfl) (pe_ifExp (pt_cmpR op_gt (pv 1) pe_int (nomark _)) (pe_gd G_l_common hr (pa_cons (pv 0) (pa_cons (pv 1) pa_nil))) (pe_un un_neg (pe_gd G_l_common hr (pa_cons (pv 0) (pa_cons (pv 1) pa_nil))))))
      (pss_one (ps_ret (pe_tup (pa_cons (pe_op op_fdA (pv 0) (pv 2)) (pa_cons (pe_op op_fdA (pv 1) (pv 2)) pa_nil)))))), ?_⟩
    obtain ⟨g1, g2⟩ := cfd_gcd (m := n) (n := n) hd hl
    obtain ⟨g3, g4⟩ := cfd_gcd (m := d) (n := n) hd hl
    walk_at "rd"
    refine iteD (fun c => ?_) (fun c => ?_)
    · walk_at "rd"
      rename_i t ht
      refine q _ _ ?_ (Same.newp ht)
      unfold rtop rbot
      rw [rby_p c]
      exact upd_same
    · walk_at "rd"
      rename_i t ht
      refine q _ _ ?_ (Same.newp ht)
      unfold rtop rbot
      rw [rby_n c]
      exact upd_same
theorem lowest_i {n d : Int} {H : Hp} {Q : VK} {E : XK} (hd : d ≠ 0) (hl : d.natAbs.log2 < 9000) (k : ∀ t H', H' t = some (.tup [.int (rtop n d), .int (rbot n d)]) → Same H H' → Q (.ref t) H') : sp_lowest [.int n, .int d] H Q E := by
  unfold sp_lowest
  exact ⟨_, _, rfl, n, d, rfl, rfl, hd, hl, k⟩
end
end K02
set_option Elab.async false
set_option linter.all false
set_option maxRecDepth 100000
set_option maxHeartbeats 400000

set_option maxHeartbeats 400000
namespace K02
open PySem PySem.Spec PyProof.Rows L2 He Rt
local macro_rules | `(tactic| walk_at "nx") => `(tactic| fail)
local macro_rules | `(tactic| walk_at "ne") => `(tactic| ((fail_if_success apply ne_probe); (fail_if_success apply ne_probe2); first
  | assumption
  | walk_at "nx"
  | (apply ne_n; assumption; walk_at "hp")
  | (apply ne_n'; assumption; walk_at "hp")
  | (intro z; cases z; done)))
local macro_rules | `(tactic| walk_at "hp") => `(tactic| ((fail_if_success apply hp_probe); first
  | assumption
  | exact upd_same
  | (apply at_new; assumption; walk_at "hp")
  | (apply same_at; assumption; walk_at "hp")
  | ((fail_if_success (apply np; assumption)); apply at_ne; walk_at "ne"; walk_at "hp")
  | (apply kp_at; assumption; walk_at "ne"; walk_at "hp")))
local macro_rules | `(tactic| walk_at "sd") => `(tactic| (first
  | decide
  | rfl
  | omega
  | assumption
  | exact Nat.le_of_ble_eq_true rfl
  | exact CMul.ok (.inl ⟨by omega, by omega⟩)
  | exact CMul.ok (.inr ⟨by omega, by omega⟩)
  | (refine ⟨?_, ?_⟩ <;> (first | decide | omega | assumption | (decide +kernel)))
  | (rw [sz_line]; (try simp only [Str.length_append]); omega)))
local macro_rules | `(tactic| walk_at "kp") => `(tactic| ((fail_if_success apply kp_probe); first
  | exact Kp.refl
  | (apply kp_snoc; assumption; walk_at "kp")
  | (apply kp_new; assumption; walk_at "kp")
  | (apply kp_same; assumption; walk_at "kp")
  | (apply Kp.at; walk_at "kp")))
local macro_rules | `(tactic| walk_at "sm") => `(tactic| ((fail_if_success apply sm_probe); first
  | exact Same.refl _
  | (apply same_new; assumption; walk_at "sm")
  | (apply same_snoc; assumption; walk_at "sm")))
local macro_rules | `(tactic| walk_at "sp") => `(tactic| fail)
local macro_rules | `(tactic| walk_at "fl") => `(tactic| (first
  | refine Exists.intro _ (Exists.intro _ (Exists.intro _ (Exists.intro _ (And.intro rfl (And.intro (by walk_at "hp") (And.intro (by assumption) (And.intro (by assumption) (And.intro (Nat.le_of_ble_eq_true rfl) ?_))))))))
  | refine Exists.intro _ (Exists.intro _ (Exists.intro _ (Exists.intro _ (Exists.intro _ (And.intro rfl (And.intro (by walk_at "hp") (And.intro (by assumption) (And.intro (by assumption) (And.intro rfl ?_)))))))))
  | refine Or.inr (Exists.intro _ (And.intro rfl (And.intro (by assumption) ?_)))))
local macro_rules | `(tactic| walk_at "pre") => `(tactic| fail)
local macro_rules | `(tactic| walk_at "rd1") => `(tactic| (first
  | refine Exists.intro _ (And.intro rfl ?_)
  | refine Exists.intro _ (Exists.intro _ (And.intro rfl (And.intro rfl ?_)))
  | refine Exists.intro _ (Exists.intro _ (And.intro rfl (And.intro (SqT.of (by walk_at "hp")) (And.intro rfl ?_))))
  | refine Exists.intro _ (Exists.intro _ (And.intro rfl ?_))
  | refine And.intro (by walk_at "sd") ?_
  | (with_reducible refine tnil_i ?_)
  | walk_at "pre"
  | (intro p hp)
  | refine Exists.intro _ (Exists.intro _ (Exists.intro _ (Exists.intro _ (And.intro rfl (And.intro rfl (And.intro (SqL.of (by walk_at "hp")) (And.intro rfl ?_)))))))
  | refine Exists.intro _ (Exists.intro _ (Exists.intro _ (Exists.intro _ (And.intro rfl (And.intro rfl (And.intro (by walk_at "hp") (And.intro rfl ?_)))))))
  | refine Exists.intro _ (Exists.intro _ (Exists.intro _ (Exists.intro _ (And.intro rfl (And.intro rfl (And.intro (by walk_at "hp") (And.intro (by walk_at "hp") ?_)))))))
  | refine Exists.intro _ (Exists.intro _ (Exists.intro _ (And.intro rfl (And.intro rfl (And.intro (by walk_at "hp") ?_)))))
  | refine Exists.intro _ (Exists.intro _ (And.intro rfl (And.intro (SqL.of (by walk_at "hp")) ?_)))
  | refine And.intro (Exists.intro _ (SqL.of (by walk_at "hp"))) ?_
  | refine iteT ?_
  | refine iteF ?_
  | walk_at "sp"))
local macro_rules | `(tactic| walk_at "rd") => `(tactic| repeat walk_at "rd1")

section
variable {P : Program} {w : World} {K : PySem.W.Frag} {mg : Str → Option Value} {base : Heap}
/-- the source of draws stands at a -/
def Src (H : Hp) (a : Addr) : Prop := ∃ st gr ct : Int, H a = some (.lst [.int st, .int gr, .int ct]) ∧ 0 ≤ st ∧ st < 2147483629 ∧ 0 ≤ gr
@[irreducible] def sp_draw : Sp := Sp2 fun x y H Q _ => ∃ (a : Addr) (m : Int), x = .ref a ∧ y = .int m ∧ Src H a ∧ (0 < m ∧ m.natAbs.log2 < 9000) ∧ ∀ r H', Src H' a → Kp a H H' → 0 ≤ r → r < m → Q (.int r) H'
theorem sc_l_draw : FnScope ["_law_source_here", "_law_many", "_law_first", "_law_turned", "_law_digit"] ["_law_source_here", "_law_many"] (defScope s_l_draw) := ⟨rfl, rfl, rfl, by decide +kernel, rfl, by decide +kernel, by decide +kernel⟩
theorem ok_draw (T : Txt K mg) : Gd P w K mg base 1 "_law_draw" sp_draw := by
  obtain ⟨fd, F⟩ := T.F_l_draw
  refine ⟨_, fd, ["_law_source_here", "_law_many"], okF F sc_l_draw (fun vs H Q E h => ?_) (fun cdv A outer s H vs Q E hr h => ?_), T.g_l_draw, F.kp, F.bindsN fun _ _ _ _ _ _ us hl => match us, hl with | [_, _], _ => rfl⟩
  · unfold sp_draw at h
    exact h.len
  · unfold sp_draw at h
    obtain ⟨x, y, rfl, a, m, rfl, rfl, ⟨st, gr, ct, ha, h1, h2, h3⟩, ⟨hm, hm2⟩, k⟩ := h
    refine ⟨_, (pss_cons (ps_asg (pe_op op_add (pe_ix ix_list (pv 0) pe_int (fun _ _ => rfl)) pe_int) (pg_sub (pv 0) pe_int set_list))
      (pss_cons (ps_set (i := 2) sc_l_draw.nd rfl (Or.inl rfl) (pe_callTy call_intI rfl T.f_int (by decide +kernel) (pa_cons (pe_ix ix_list (pv 0) pe_int (fun _ _ => rfl)) pa_nil)))
      (pss_cons (ps_set (i := 3) sc_l_draw.nd rfl (Or.inl rfl) (pe_callTy call_intI rfl T.f_int (by decide +kernel) (pa_cons (pe_op op_add (pe_op op_add (pe_op op_mulA (pv 2) (pe_op op_add (pe_op op_mod (pe_callTy call_intI rfl T.f_int (by decide +kernel) (pa_cons (pv 2) pa_nil)) pe_int) pe_int)) (pe_op op_mulA pe_int (pe_ix ix_list (pv 0) pe_int (fun _ _ => rfl)))) pe_int) pa_nil)))
      (pss_cons (ps_asg (pe_op op_mod (pe_callTy call_intI rfl T.f_int (by decide +kernel) (pa_cons (pv 3) pa_nil)) pe_int) (pg_sub (pv 0) pe_int set_list))
      (pss_cons (ps_if (pt_cmpR op_gt (pe_ix ix_list (pv 0) pe_int (fun _ _ => rfl)) pe_int (nomark _)) (pss_cons (ps_asg (pe_callB call_divmodA rfl T.f_divmod (by decide +kernel) (pa_cons (pe_ix ix_list (pv 0) pe_int (fun _ _ => rfl)) (pa_cons (pv 1) pa_nil))) (pg_tup rfl (pgs_cons (pg_sub (pv 0) pe_int set_list) (pgs_cons (pg_name (i := 4) sc_l_draw.nd rfl (Or.inl rfl)) pgs_nil))))
        (pss_one (ps_ret (pv 4)))) pss_nil)
      (pss_one (ps_ret (pe_op op_mod (pe_callTy call_intI rfl T.f_int (by decide +kernel) (pa_cons (pe_op op_fdA (pe_ix ix_list (pv 0) pe_int (fun _ _ => rfl)) pe_int) pa_nil)) (pv 1))))))))), ?_⟩
    walk_at "rd"
    refine iteD (fun c => ?_) (fun c => ?_)
    · walk_at "rd"
      rename_i p hp
      exact k _ _ ⟨_, _, _, upd_same, Int.emod_nonneg _ (by decide), Int.emod_lt_of_pos _ (by decide), Int.ediv_nonneg h3 (Int.le_of_lt hm)⟩ (((Kp.refl.at).at).new hp).at (Int.emod_nonneg _ (by omega)) (Int.emod_lt_of_pos _ hm)
    · walk_at "rd"
      exact k _ _ ⟨_, _, _, upd_same, Int.emod_nonneg _ (by decide), Int.emod_lt_of_pos _ (by decide), h3⟩ (Kp.refl.at).at (Int.emod_nonneg _ (by omega)) (Int.emod_lt_of_pos _ hm)
theorem draw_i {a : Addr} {m : Int} {H : Hp} {Q : VK} {E : XK} (hs : Src H a) (hm : 0 < m ∧ m.natAbs.log2 < 9000) (k : ∀ r H', Src H' a → Kp a H H' → 0 ≤ r → r < m → Q (.int r) H') : sp_draw [.ref a, .int m] H Q E := by
  unfold sp_draw
  exact ⟨_, _, rfl, a, m, rfl, rfl, hs, hm, k⟩
theorem Src.alc {H : Hp} {a p : Addr} {o : HO} (h : Src H a) (hp : H p = none) : Src (upd H p o) a := by
  obtain ⟨st, gr, ct, e, h1⟩ := h
  exact ⟨st, gr, ct, Same.newp hp _ _ e, h1⟩
theorem Src.sm {H H' : Hp} {a : Addr} (h : Src H a) (s : Same H H') : Src H' a := by
  obtain ⟨st, gr, ct, e, h1⟩ := h
  exact ⟨st, gr, ct, s _ _ e, h1⟩
theorem Src.ne {H : Hp} {a p : Addr} (h : Src H a) (hp : H p = none) : p ≠ a := by
  obtain ⟨st, gr, ct, e, h1⟩ := h
  exact (ne_of_none e hp).symm
theorem Src.alc' {H : Hp} {a p : Addr} {o : HO} (hp : H p = none) (h : Src H a) : Src (upd H p o) a := h.alc hp
theorem Src.sm' {H H' : Hp} {a : Addr} (s : Same H H') (h : Src H a) : Src H' a := h.sm s
theorem Src.nh {H : Hp} {a b : Addr} {o : HO} (h : Src H a) (e : H b = some o) (n : ∀ xs, o ≠ .lst xs) : b ≠ a := by
  obtain ⟨st, gr, ct, e1, h1⟩ := h
  rintro rfl
  rw [e1] at e
  exact n _ (Option.some.inj e).symm
theorem src_probe {a : Addr} (h : Src Hbad a) : Src Hbad a := h
theorem ne_src {H : Hp} {a p : Addr} (hp : H p = none) (h : Src H a) : p ≠ a := h.ne hp
theorem ne_src' {H : Hp} {a p : Addr} (hp : H p = none) (h : Src H a) : a ≠ p := (h.ne hp).symm
local macro_rules | `(tactic| walk_at "nx") => `(tactic| (first | (apply ne_src; assumption; walk_at "src") | (apply ne_src'; assumption; walk_at "src")))
local macro_rules | `(tactic| walk_at "src") => `(tactic| ((fail_if_success apply src_probe); first
  | assumption
  | (apply Src.alc'; assumption; walk_at "src")
  | (apply Src.sm'; assumption; walk_at "src")))
local macro_rules | `(tactic| walk_at "sp") => `(tactic| (refine draw_i (by walk_at "src") (by decide +kernel) fun r H' hs hk h0 h1 => ?_))
@[irreducible] def sp_whole : Sp := Sp1 fun x H Q _ => ∃ a : Addr, x = .ref a ∧ Src H a ∧ ∀ r H', Src H' a → Kp a H H' → r.natAbs < 10 ^ 42 → Q (.int r) H'
theorem sc_l_whole : FnScope ["_law_source_here", "_law_way", "_law_sign", "_law_parts_here"] ["_law_source_here"] (defScope s_l_whole) := ⟨rfl, rfl, rfl, by decide +kernel, rfl, by decide +kernel, by decide +kernel⟩
theorem ok_whole (T : Txt K mg) : Gd P w K mg base 2 "_law_whole" sp_whole := by
  obtain ⟨fd, F⟩ := T.F_l_whole
  have G_l_draw := ok_draw (P := P) (w := w) (base := base) T
  refine ⟨_, fd, ["_law_source_here"], okF F sc_l_whole (fun vs H Q E h => ?_) (fun cdv A outer s H vs Q E hr h => ?_), T.g_l_whole, F.kp, F.bindsN fun _ _ _ _ _ _ us hl => match us, hl with | [_], _ => rfl⟩
  · unfold sp_whole at h
    exact h.len
  · unfold sp_whole at h
    obtain ⟨x, rfl, a, rfl, hs, k⟩ := h
    refine ⟨_, (pss_cons (ps_set (i := 1) sc_l_whole.nd rfl (Or.inl rfl) (pe_gd G_l_draw hr (pa_cons (pv 0) (pa_cons pe_int pa_nil))))
      (pss_cons (ps_if (pt_cmpR op_lt (pv 1) pe_int (nomark _)) (pss_one (ps_ret (pe_op op_sub (pe_gd G_l_draw hr (pa_cons (pv 0) (pa_cons pe_int pa_nil))) pe_int))) pss_nil)
      (pss_cons (ps_if (pt_cmpR op_lt (pv 1) pe_int (nomark _)) (pss_one (ps_ret (pe_op op_sub (pe_gd G_l_draw hr (pa_cons (pv 0) (pa_cons pe_int pa_nil))) pe_int))) pss_nil)
      (pss_cons (ps_set (i := 2) sc_l_whole.nd rfl (Or.inl rfl) (pe_op op_sub pe_int (pe_op op_mulA pe_int (pe_gd G_l_draw hr (pa_cons (pv 0) (pa_cons pe_int pa_nil))))))
      (pss_cons (ps_if (pt_cmpR op_eqI (pv 1) pe_int (nomark _)) (pss_one (ps_ret (pe_op op_mulA (pv 2) (pe_op op_add (pe_ix ix_list (pe_lst (pa_cons (pe_op (op_powL 10 6 1000000 ⟨by decide, by decide, by decide⟩ (by decide +kernel)) pe_int pe_int) (pa_cons (pe_op (op_powL 10 12 1000000000000 ⟨by decide, by decide, by decide⟩ (by decide +kernel)) pe_int pe_int) (pa_cons (pe_op (op_powL 10 20 100000000000000000000 ⟨by decide, by decide, by decide⟩ (by decide +kernel)) pe_int pe_int) (pa_cons (pe_op (op_powL 10 39 1000000000000000000000000000000000000000 ⟨by decide, by decide, by decide⟩ (by decide +kernel)) pe_int pe_int) pa_nil))))) (pe_gd G_l_draw hr (pa_cons (pv 0) (pa_cons pe_int pa_nil))) (fun _ _ => rfl)) (pe_gd G_l_draw hr (pa_cons (pv 0) (pa_cons pe_int pa_nil))))))) pss_nil)
      (pss_cons (ps_if (pt_cmpR op_eqI (pv 1) pe_int (nomark _)) (pss_one (ps_ret (pe_op op_mulA (pv 2) (pe_op op_sub (pe_op op_sub (pe_op (op_powL 10 40 10000000000000000000000000000000000000000 ⟨by decide, by decide, by decide⟩ (by decide +kernel)) pe_int pe_int) pe_int) (pe_gd G_l_draw hr (pa_cons (pv 0) (pa_cons pe_int pa_nil))))))) pss_nil)
      (pss_cons (ps_set (i := 3) sc_l_whole.nd rfl (Or.inl rfl) (pe_lst (pa_cons (pe_gd G_l_draw hr (pa_cons (pv 0) (pa_cons (pe_op (op_powL 10 9 1000000000 ⟨by decide, by decide, by decide⟩ (by decide +kernel)) pe_int pe_int) pa_nil))) (pa_cons (pe_gd G_l_draw hr (pa_cons (pv 0) (pa_cons (pe_op (op_powL 10 9 1000000000 ⟨by decide, by decide, by decide⟩ (by decide +kernel)) pe_int pe_int) pa_nil))) (pa_cons (pe_gd G_l_draw hr (pa_cons (pv 0) (pa_cons (pe_op (op_powL 10 9 1000000000 ⟨by decide, by decide, by decide⟩ (by decide +kernel)) pe_int pe_int) pa_nil))) pa_nil)))))
      (pss_one (ps_ret (pe_op op_mulA (pv 2) (pe_op op_add (pe_op op_add (pe_op op_mulA (pe_ix ix_list (pv 3) pe_int (fun _ _ => rfl)) (pe_op (op_powL 10 30 1000000000000000000000000000000 ⟨by decide, by decide, by decide⟩ (by decide +kernel)) pe_int pe_int)) (pe_op op_mulA (pe_ix ix_list (pv 3) pe_int (fun _ _ => rfl)) (pe_op (op_powL 10 15 1000000000000000 ⟨by decide, by decide, by decide⟩ (by decide +kernel)) pe_int pe_int))) (pe_ix ix_list (pv 3) pe_int (fun _ _ => rfl))))))))))))), ?_⟩
    walk_at "rd"
    refine iteD (fun c => ?_) (fun c => ?_)
    · walk_at "rd"
      exact k _ _ (by walk_at "src") (by walk_at "kp") (by omega)
    walk_at "rd"
    refine iteD (fun c => ?_) (fun c => ?_)
    · walk_at "rd"
      exact k _ _ (by walk_at "src") (by walk_at "kp") (by omega)
    walk_at "rd"
    refine iteD (fun c => ?_) (fun c => ?_)
    · walk_at "rd"
      rename_i r1 H1 hs1 hk1 a1 b1 p hp r H2 hs2 hk2 a2 b2
      have h4 : r = 0 ∨ r = 1 ∨ r = 2 ∨ r = 3 := by omega
      have h5 : r1 = 0 ∨ r1 = 1 := by omega
      rcases h4 with rfl | rfl | rfl | rfl
      all_goals
        walk_at "rd"
        refine k _ _ (by walk_at "src") (by walk_at "kp") ?_
        rcases h5 with rfl | rfl <;> omega
    walk_at "rd"
    refine iteD (fun c => ?_) (fun c => ?_)
    · walk_at "rd"
      rename_i r1 H1 hs1 hk1 a1 b1 c0 r H2 hs2 hk2 a2 b2
      have h5 : r1 = 0 ∨ r1 = 1 := by omega
      refine k _ _ (by walk_at "src") (by walk_at "kp") ?_
      rcases h5 with rfl | rfl <;> omega
    · walk_at "rd"
      rename_i r1 H1 hs1 hk1 a1 b1 c0 ra Ha hsa hka aa ba rb Hb hsb hkb ab bb rc Hc hsc hkc ac bc p hp
      have h5 : r1 = 0 ∨ r1 = 1 := by omega
      refine k _ _ (by walk_at "src") (by walk_at "kp") ?_
      rcases h5 with rfl | rfl <;> omega
theorem whole_i {a : Addr} {H : Hp} {Q : VK} {E : XK} (hs : Src H a) (k : ∀ r H', Src H' a → Kp a H H' → r.natAbs < 10 ^ 42 → Q (.int r) H') : sp_whole [.ref a] H Q E := by
  unfold sp_whole
  exact ⟨_, rfl, a, rfl, hs, k⟩
local macro_rules | `(tactic| walk_at "sp") => `(tactic| (refine whole_i (by walk_at "src") fun r H' hs hk h0 => ?_))
@[irreducible] def sp_parts : Sp := Sp1 fun x H Q _ => ∃ a : Addr, x = .ref a ∧ Src H a ∧ ∀ t H', ∀ n d : Int, Src H' a → Kp a H H' → H' t = some (.tup [.int n, .int d]) → d ≠ 0 → n.natAbs < 10 ^ 42 → d.natAbs < 10 ^ 42 → Q (.ref t) H'
theorem sc_l_parts : FnScope ["_law_source_here", "_law_way", "_law_lower", "_law_shared", "_law_sign"] ["_law_source_here"] (defScope s_l_parts) := ⟨rfl, rfl, rfl, by decide +kernel, rfl, by decide +kernel, by decide +kernel⟩
theorem ok_parts (T : Txt K mg) : Gd P w K mg base 3 "_law_parts" sp_parts := by
  obtain ⟨fd, F⟩ := T.F_l_parts
  have G_l_draw := ok_draw (P := P) (w := w) (base := base) T
  have G_l_whole := ok_whole (P := P) (w := w) (base := base) T
  refine ⟨_, fd, ["_law_source_here"], okF F sc_l_parts (fun vs H Q E h => ?_) (fun cdv A outer s H vs Q E hr h => ?_), T.g_l_parts, F.kp, F.bindsN fun _ _ _ _ _ _ us hl => match us, hl with | [_], _ => rfl⟩
  · unfold sp_parts at h
    exact h.len
  · unfold sp_parts at h
    obtain ⟨x, rfl, a, rfl, hs, k⟩ := h
    refine ⟨_, (pss_cons (ps_set (i := 1) sc_l_parts.nd rfl (Or.inl rfl) (pe_gd G_l_draw hr (pa_cons (pv 0) (pa_cons pe_int pa_nil))))
      (pss_cons (ps_if (pt_cmpR op_eqI (pv 1) pe_int (nomark _)) (pss_cons (ps_set (i := 3) sc_l_parts.nd rfl (Or.inl rfl) (pe_op op_add pe_int (pe_gd G_l_draw hr (pa_cons (pv 0) (pa_cons (pe_op (op_powL 10 12 1000000000000 ⟨by decide, by decide, by decide⟩ (by decide +kernel)) pe_int pe_int) pa_nil)))))
        (pss_cons (ps_set (i := 2) sc_l_parts.nd rfl (Or.inl rfl) (pe_op op_sub (pe_gd G_l_draw hr (pa_cons (pv 0) (pa_cons pe_int pa_nil))) pe_int))
        (pss_one (ps_ret (pe_tup (pa_cons (pe_op op_mulA (pe_op op_sub (pe_gd G_l_draw hr (pa_cons (pv 0) (pa_cons pe_int pa_nil))) pe_int) (pv 3)) (pa_cons (pe_ifExp (pt_cmpR op_neI (pv 2) pe_int (nomark _)) (pe_op op_mulA (pv 2) (pv 3)) (pe_un un_neg (pv 3))) pa_nil))))))) pss_nil)
      (pss_cons (ps_if (pt_cmpR op_eqI (pv 1) pe_int (nomark _)) (pss_cons (ps_par (i := 4) (j := 3) (by rfl) sc_l_parts.nd rfl rfl (by decide) rfl rfl (pa_cons (pe_op op_sub pe_int (pe_op op_mulA pe_int (pe_gd G_l_draw hr (pa_cons (pv 0) (pa_cons pe_int pa_nil))))) (pa_cons (pe_op op_add pe_int (pe_gd G_l_draw hr (pa_cons (pv 0) (pa_cons (pe_op (op_powL 10 18 1000000000000000000 ⟨by decide, by decide, by decide⟩ (by decide +kernel)) pe_int pe_int) pa_nil)))) pa_nil)) (by rfl))
        (pss_one (ps_ret (pe_tup (pa_cons (pe_op op_mulA (pe_op op_mulA (pv 4) (pv 3)) (pe_op op_sub (pe_gd G_l_draw hr (pa_cons (pv 0) (pa_cons pe_int pa_nil))) pe_int)) (pa_cons (pe_op op_mulA (pv 4) (pv 3)) pa_nil)))))) pss_nil)
      (pss_cons (ps_set (i := 2) sc_l_parts.nd rfl (Or.inl rfl) (pe_gd G_l_whole hr (pa_cons (pv 0) pa_nil)))
      (pss_one (ps_ret (pe_tup (pa_cons (pe_gd G_l_whole hr (pa_cons (pv 0) pa_nil)) (pa_cons (pe_ifExp (pt_cmpR op_neI (pv 2) pe_int (nomark _)) (pv 2) pe_int) pa_nil))))))))), ?_⟩
    walk_at "rd"
    refine iteD (fun c => ?_) (fun c => ?_)
    · walk_at "rd"
      rename_i r2 H2 hs2 hk2 a2 b2 r1 H1 hs1 hk1 a1 b1 r H3 hs3 hk3 a3 b3
      refine iteN (fun c => ?_) (fun c => ?_)
      · walk_at "rd"
        refine k _ _ _ _ (by walk_at "src") (by walk_at "kp") upd_same (Int.mul_ne_zero c (by omega)) (mul_bd 1001 1000001000000 (by omega) (by omega) (by decide)) (mul_bd 1001 1000001000000 (by omega) (by omega) (by decide))
      · walk_at "rd"
        refine k _ _ _ _ (by walk_at "src") (by walk_at "kp") upd_same (by omega) (mul_bd 1001 1000001000000 (by omega) (by omega) (by decide)) (by omega)
    walk_at "rd"
    refine iteD (fun c => ?_) (fun c => ?_)
    · walk_at "rd"
      rename_i r2 H2 hs2 hk2 a2 b2 r1 H1 hs1 hk1 a1 b1 r H3 hs3 hk3 a3 b3 p hp
      refine k _ _ _ _ (by walk_at "src") (by walk_at "kp") upd_same (Int.mul_ne_zero (by omega) (by omega)) (mul_bd 1000001000000000000 100 (by exact Nat.le_of_lt_succ (mul_bd 1 1000000000000000000 (by omega) (by omega) (by decide))) (by omega) (by decide)) (mul_bd 2 1000001000000000000 (by omega) (by omega) (by decide))
    · walk_at "rd"
      refine iteN (fun c => ?_) (fun c => ?_)
      · walk_at "rd"
        refine k _ _ _ _ (by walk_at "src") (by walk_at "kp") upd_same c (by assumption) (by assumption)
      · walk_at "rd"
        refine k _ _ _ _ (by walk_at "src") (by walk_at "kp") upd_same (by decide) (by assumption) (by decide)
theorem parts_i {a : Addr} {H : Hp} {Q : VK} {E : XK} (hs : Src H a) (k : ∀ t H', ∀ n d : Int, Src H' a → Kp a H H' → H' t = some (.tup [.int n, .int d]) → d ≠ 0 → n.natAbs < 10 ^ 42 → d.natAbs < 10 ^ 42 → Q (.ref t) H') : sp_parts [.ref a] H Q E := by
  unfold sp_parts
  exact ⟨_, rfl, a, rfl, hs, k⟩
end
end K02
set_option Elab.async false
set_option linter.all false
set_option maxRecDepth 100000
set_option maxHeartbeats 400000

namespace K02
open PySem PySem.Spec PyProof.Rows L2 He Rt
local macro_rules | `(tactic| walk_at "nx") => `(tactic| fail)
local macro_rules | `(tactic| walk_at "ne") => `(tactic| ((fail_if_success apply ne_probe); (fail_if_success apply ne_probe2); first
  | assumption
  | walk_at "nx"
  | (apply ne_n; assumption; walk_at "hp")
  | (apply ne_n'; assumption; walk_at "hp")
  | (intro z; cases z; done)))
local macro_rules | `(tactic| walk_at "hp") => `(tactic| ((fail_if_success apply hp_probe); first
  | assumption
  | exact upd_same
  | (apply at_new; assumption; walk_at "hp")
  | (apply same_at; assumption; walk_at "hp")
  | ((fail_if_success (apply np; assumption)); apply at_ne; walk_at "ne"; walk_at "hp")
  | (apply kp_at; assumption; walk_at "ne"; walk_at "hp")))
local macro_rules | `(tactic| walk_at "sd") => `(tactic| (first
  | decide
  | rfl
  | omega
  | assumption
  | exact Nat.le_of_ble_eq_true rfl
  | exact CMul.ok (.inl ⟨by omega, by omega⟩)
  | exact CMul.ok (.inr ⟨by omega, by omega⟩)
  | (refine ⟨?_, ?_⟩ <;> (first | decide | omega | assumption | (decide +kernel)))
  | (rw [sz_line]; (try simp only [Str.length_append]); omega)))
local macro_rules | `(tactic| walk_at "kp") => `(tactic| ((fail_if_success apply kp_probe); first
  | exact Kp.refl
  | (apply kp_snoc; assumption; walk_at "kp")
  | (apply kp_new; assumption; walk_at "kp")
  | (apply kp_same; assumption; walk_at "kp")
  | (apply Kp.at; walk_at "kp")))
local macro_rules | `(tactic| walk_at "sm") => `(tactic| ((fail_if_success apply sm_probe); first
  | exact Same.refl _
  | (apply same_new; assumption; walk_at "sm")
  | (apply same_snoc; assumption; walk_at "sm")))
local macro_rules | `(tactic| walk_at "sp") => `(tactic| fail)
local macro_rules | `(tactic| walk_at "fl") => `(tactic| (first
  | refine Exists.intro _ (Exists.intro _ (Exists.intro _ (Exists.intro _ (And.intro rfl (And.intro (by walk_at "hp") (And.intro (by assumption) (And.intro (by assumption) (And.intro (Nat.le_of_ble_eq_true rfl) ?_))))))))
  | refine Exists.intro _ (Exists.intro _ (Exists.intro _ (Exists.intro _ (Exists.intro _ (And.intro rfl (And.intro (by walk_at "hp") (And.intro (by assumption) (And.intro (by assumption) (And.intro rfl ?_)))))))))
  | refine Or.inr (Exists.intro _ (And.intro rfl (And.intro (by assumption) ?_)))))
local macro_rules | `(tactic| walk_at "pre") => `(tactic| fail)
local macro_rules | `(tactic| walk_at "rd1") => `(tactic| (first
  | refine Exists.intro _ (And.intro rfl ?_)
  | refine Exists.intro _ (Exists.intro _ (And.intro rfl (And.intro rfl ?_)))
  | refine Exists.intro _ (Exists.intro _ (And.intro rfl (And.intro (SqT.of (by walk_at "hp")) (And.intro rfl ?_))))
  | refine Exists.intro _ (Exists.intro _ (And.intro rfl ?_))
  | refine And.intro (by walk_at "sd") ?_
  | (with_reducible refine tnil_i ?_)
  | walk_at "pre"
  | (intro p hp)
  | refine Exists.intro _ (Exists.intro _ (Exists.intro _ (Exists.intro _ (And.intro rfl (And.intro rfl (And.intro (SqL.of (by walk_at "hp")) (And.intro rfl ?_)))))))
  | refine Exists.intro _ (Exists.intro _ (Exists.intro _ (Exists.intro _ (And.intro rfl (And.intro rfl (And.intro (by walk_at "hp") (And.intro rfl ?_)))))))
  | refine Exists.intro _ (Exists.intro _ (Exists.intro _ (Exists.intro _ (And.intro rfl (And.intro rfl (And.intro (by walk_at "hp") (And.intro (by walk_at "hp") ?_)))))))
  | refine Exists.intro _ (Exists.intro _ (Exists.intro _ (And.intro rfl (And.intro rfl (And.intro (by walk_at "hp") ?_)))))
  | refine Exists.intro _ (Exists.intro _ (And.intro rfl (And.intro (SqL.of (by walk_at "hp")) ?_)))
  | refine And.intro (Exists.intro _ (SqL.of (by walk_at "hp"))) ?_
  | refine iteT ?_
  | refine iteF ?_
  | walk_at "sp"))
local macro_rules | `(tactic| walk_at "rd") => `(tactic| repeat walk_at "rd1")

local macro_rules | `(tactic| walk_at "ra") => `(tactic| ((fail_if_success apply ra_probe); first
  | assumption
  | (apply RatAt.new'; assumption; walk_at "ra")
  | (apply RatAt.same'; assumption; walk_at "ra")
  | (refine ⟨_, ?_⟩; walk_at "hp")))
local macro_rules | `(tactic| walk_at "sp") => `(tactic| (first | refine isint_int ?_ | refine gcd_i ?_ | refine p_top (by walk_at "ra") ?_ | refine p_bot (by walk_at "ra") ?_))

section
variable {P : Program} {w : World} {K : PySem.W.Frag} {mg : Str → Option Value} {base : Heap}
/-- a value that is no number and knows nothing of ratios -/
def OddV (K : PySem.W.Frag) (H : Hp) (v : V) : Prop := ∃ t, Dec H v t ∧ IsI K H v (.type t) false ∧ PySem.W.kitOne K (.type t) (.ref (CRa K)) = some false ∧ PySem.W.subIn K (.ref (CRa K)) (.type t) = some false ∧ PySem.W.notFirst K (CRa K) (.type t) = true
theorem odd_non (T : Txt K mg) {H : Hp} : OddV K H .non := ⟨_, .non, .non, T.y_NoneTypeR, T.u_RNoneType, rfl⟩
theorem odd_bl (T : Txt K mg) {H : Hp} (b : Bool) : OddV K H (.bl b) := ⟨_, .bl b, .bl b, T.y_boolR, T.u_Rbool, rfl⟩
theorem odd_str (T : Txt K mg) {H : Hp} (x : Str) : OddV K H (.str x) := ⟨_, .str x, .str x, T.y_strR, T.u_Rstr, rfl⟩
theorem odd_lst (T : Txt K mg) {H : Hp} {a : Addr} {xs : List V} (e : H a = some (.lst xs)) : OddV K H (.ref a) := ⟨_, .lst e, .lst e, T.y_listR, T.u_Rlist, rfl⟩
theorem odd_tup (T : Txt K mg) {H : Hp} {a : Addr} {xs : List V} (e : H a = some (.tup xs)) : OddV K H (.ref a) := ⟨_, .tup e, .tup e, T.y_tupleR, T.u_Rtuple, rfl⟩
theorem odd_dK (T : Txt K mg) {H : Hp} {a : Addr} {xs : List (Key × V)} (e : H a = some (.dK xs)) : OddV K H (.ref a) := ⟨_, .dK e, .dK e, T.y_dictR, T.u_Rdict, rfl⟩
theorem OddV.same {H H' : Hp} {v : V} (h : OddV K H v) (s : Same H H') : OddV K H' v := by
  obtain ⟨t, d, i, h⟩ := h
  cases d with
  | non => exact ⟨_, .non, .non, h⟩
  | bl b => exact ⟨_, .bl b, .bl b, h⟩
  | int j => exact absurd i (fun z => by cases z.ty with | base b => cases b; obtain ⟨_, b1, b2, e1, e2, e3⟩ := z; have q1 := e1.symm.trans (kit_ty (K := K) (r := true) (by decide +kernel)); have q2 := e2.symm.trans (kit_ty (K := K) (r := false) (by decide +kernel)); cases q1; cases q2; cases e3)
  | str x => exact ⟨_, .str x, .str x, h⟩
  | lst e => exact ⟨_, .lst (s _ _ e), .lst (s _ _ e), h⟩
  | tup e => exact ⟨_, .tup (s _ _ e), .tup (s _ _ e), h⟩
  | dK e => exact ⟨_, .dK (s _ _ e), .dK (s _ _ e), h⟩
def sg (neg : Bool) (c : Bool) : Bool := if neg then !c else c
theorem eqc_r {a b : Addr} {p q p' q' : Int} {H : Hp} {Q : VK} {E : XK} (h : RatAt K H a p q) (h' : RatAt K H b p' q') (k : Q (.bl (decide (p = p') && decide (q = q'))) H) : sp_eq K [.ref a, .ref b] H Q E := by
  unfold sp_eq
  exact ⟨_, _, rfl, a, p, q, rfl, h, .inl ⟨b, p', q', rfl, h', k⟩⟩
theorem eqc_i {a : Addr} {p q i : Int} {H : Hp} {Q : VK} {E : XK} (h : RatAt K H a p q) (k : ∀ H', Same H H' → Q (.bl (decide (p = i) && decide (q = 1))) H') : sp_eq K [.ref a, .int i] H Q E := by
  unfold sp_eq
  exact ⟨_, _, rfl, a, p, q, rfl, h, .inr (.inl ⟨i, rfl, k⟩)⟩
theorem eqc_o {a : Addr} {p q : Int} {v : V} {t : Value} {H : Hp} {Q : VK} {E : XK} (h : RatAt K H a p q) (i : IsI K H v t false) (hk : PySem.W.kitOne K t (.ref (CRa K)) = some false) (k : Q (.bl false) H) : sp_eq K [.ref a, v] H Q E := by
  unfold sp_eq
  exact ⟨_, _, rfl, a, p, q, rfl, h, .inr (.inr ⟨t, i, hk, k⟩)⟩
theorem eq_rr (T : Txt K mg) {a b : Addr} {p q p' q' : Int} {neg : Bool} {H : Hp} {Q : VK} (h : RatAt K H a p q) (h' : RatAt K H b p' q') (k : Q (.bl (if neg then !(decide (p = p') && decide (q = q')) else decide (p = p') && decide (q = q'))) H) :
    rEqO K (CRa K) (sp_eq K) neg (.ref a) (.ref b) H Q := by
  obtain ⟨dx, e⟩ := h'
  exact eqO_l h (.base (fIsi_ok T.i_Ratio T.c_Ratio e)) (by simp [PySem.W.notFirst]) (eqc_r h ⟨dx, e⟩ ⟨_, rfl, k⟩)
theorem eq_ri {a : Addr} {p q i : Int} {neg : Bool} {H : Hp} {Q : VK} (h : RatAt K H a p q) (k : ∀ H', Same H H' → Q (.bl (if neg then !(decide (p = i) && decide (q = 1)) else decide (p = i) && decide (q = 1))) H') :
    rEqO K (CRa K) (sp_eq K) neg (.ref a) (.int i) H Q := eqO_l h (.base (.int i)) rfl (eqc_i h fun H' s => ⟨_, rfl, k H' s⟩)
theorem eq_ir (T : Txt K mg) {a : Addr} {p q i : Int} {neg : Bool} {H : Hp} {Q : VK} (h : RatAt K H a p q) (k : ∀ H', Same H H' → Q (.bl (if neg then !(decide (p = i) && decide (q = 1)) else decide (p = i) && decide (q = 1))) H') :
    rEqO K (CRa K) (sp_eq K) neg (.int i) (.ref a) H Q := eqO_r h (.int i) T.u_Rint (eqc_i h fun H' s => ⟨_, rfl, k H' s⟩)
theorem eq_ro {a : Addr} {p q : Int} {v : V} {neg : Bool} {H : Hp} {Q : VK} (h : RatAt K H a p q) (o : OddV K H v) (k : Q (.bl neg) H) : rEqO K (CRa K) (sp_eq K) neg (.ref a) v H Q := by
  obtain ⟨t, d, i, hk, hs, hn⟩ := o
  exact eqO_l h i.ty hn (eqc_o h i hk ⟨_, rfl, by cases neg <;> exact k⟩)
theorem eq_or {a : Addr} {p q : Int} {v : V} {neg : Bool} {H : Hp} {Q : VK} (h : RatAt K H a p q) (o : OddV K H v) (k : Q (.bl neg) H) : rEqO K (CRa K) (sp_eq K) neg v (.ref a) H Q := by
  obtain ⟨t, d, i, hk, hs, hn⟩ := o
  exact eqO_r h d hs (eqc_o h i hk ⟨_, rfl, by cases neg <;> exact k⟩)
theorem log42 {i : Int} (h : i.natAbs < 10 ^ 43) {k : Nat} (hk : 150 ≤ k) : i.natAbs.log2 < k := by
  have : i.natAbs.log2 < 150 := log_lt (Nat.lt_trans h (by decide)) (by decide)
  omega
end
end K02
set_option Elab.async false
set_option linter.all false
set_option maxRecDepth 100000
set_option maxHeartbeats 400000

set_option maxHeartbeats 2000000
namespace K02
open PySem PySem.Spec PyProof.Rows L2 He Rt
local macro_rules | `(tactic| walk_at "nx") => `(tactic| fail)
local macro_rules | `(tactic| walk_at "ne") => `(tactic| ((fail_if_success apply ne_probe); (fail_if_success apply ne_probe2); first
  | assumption
  | walk_at "nx"
  | (apply ne_n; assumption; walk_at "hp")
  | (apply ne_n'; assumption; walk_at "hp")
  | (intro z; cases z; done)))
local macro_rules | `(tactic| walk_at "hp") => `(tactic| ((fail_if_success apply hp_probe); first
  | assumption
  | exact upd_same
  | (apply at_new; assumption; walk_at "hp")
  | (apply same_at; assumption; walk_at "hp")
  | ((fail_if_success (apply np; assumption)); apply at_ne; walk_at "ne"; walk_at "hp")
  | (apply kp_at; assumption; walk_at "ne"; walk_at "hp")))
local macro_rules | `(tactic| walk_at "sd") => `(tactic| (first
  | decide
  | rfl
  | omega
  | assumption
  | exact Nat.le_of_ble_eq_true rfl
  | exact CMul.ok (.inl ⟨by omega, by omega⟩)
  | exact CMul.ok (.inr ⟨by omega, by omega⟩)
  | (refine ⟨?_, ?_⟩ <;> (first | decide | omega | assumption | (decide +kernel)))
  | (rw [sz_line]; (try simp only [Str.length_append]); omega)))
local macro_rules | `(tactic| walk_at "kp") => `(tactic| ((fail_if_success apply kp_probe); first
  | exact Kp.refl
  | (apply kp_snoc; assumption; walk_at "kp")
  | (apply kp_new; assumption; walk_at "kp")
  | (apply kp_same; assumption; walk_at "kp")
  | (apply Kp.at; walk_at "kp")))
local macro_rules | `(tactic| walk_at "sm") => `(tactic| ((fail_if_success apply sm_probe); first
  | exact Same.refl _
  | (apply same_new; assumption; walk_at "sm")
  | (apply same_snoc; assumption; walk_at "sm")))
local macro_rules | `(tactic| walk_at "sp") => `(tactic| fail)
local macro_rules | `(tactic| walk_at "fl") => `(tactic| (first
  | refine Exists.intro _ (Exists.intro _ (Exists.intro _ (Exists.intro _ (And.intro rfl (And.intro (by walk_at "hp") (And.intro (by assumption) (And.intro (by assumption) (And.intro (Nat.le_of_ble_eq_true rfl) ?_))))))))
  | refine Exists.intro _ (Exists.intro _ (Exists.intro _ (Exists.intro _ (Exists.intro _ (And.intro rfl (And.intro (by walk_at "hp") (And.intro (by assumption) (And.intro (by assumption) (And.intro rfl ?_)))))))))
  | refine Or.inr (Exists.intro _ (And.intro rfl (And.intro (by assumption) ?_)))))
local macro_rules | `(tactic| walk_at "pre") => `(tactic| fail)
local macro_rules | `(tactic| walk_at "rd1") => `(tactic| (first
  | refine Exists.intro _ (And.intro rfl ?_)
  | refine Exists.intro _ (Exists.intro _ (And.intro rfl (And.intro rfl ?_)))
  | refine Exists.intro _ (Exists.intro _ (And.intro rfl (And.intro (SqT.of (by walk_at "hp")) (And.intro rfl ?_))))
  | refine Exists.intro _ (Exists.intro _ (And.intro rfl ?_))
  | refine And.intro (by walk_at "sd") ?_
  | (with_reducible refine tnil_i ?_)
  | walk_at "pre"
  | (intro p hp)
  | refine Exists.intro _ (Exists.intro _ (Exists.intro _ (Exists.intro _ (And.intro rfl (And.intro rfl (And.intro (SqL.of (by walk_at "hp")) (And.intro rfl ?_)))))))
  | refine Exists.intro _ (Exists.intro _ (Exists.intro _ (Exists.intro _ (And.intro rfl (And.intro rfl (And.intro (by walk_at "hp") (And.intro rfl ?_)))))))
  | refine Exists.intro _ (Exists.intro _ (Exists.intro _ (Exists.intro _ (And.intro rfl (And.intro rfl (And.intro (by walk_at "hp") (And.intro (by walk_at "hp") ?_)))))))
  | refine Exists.intro _ (Exists.intro _ (Exists.intro _ (And.intro rfl (And.intro rfl (And.intro (by walk_at "hp") ?_)))))
  | refine Exists.intro _ (Exists.intro _ (And.intro rfl (And.intro (SqL.of (by walk_at "hp")) ?_)))
  | refine And.intro (Exists.intro _ (SqL.of (by walk_at "hp"))) ?_
  | refine iteT ?_
  | refine iteF ?_
  | walk_at "sp"))
local macro_rules | `(tactic| walk_at "rd") => `(tactic| repeat walk_at "rd1")

local macro_rules | `(tactic| walk_at "ra") => `(tactic| ((fail_if_success apply ra_probe); first
  | assumption
  | (apply RatAt.new'; assumption; walk_at "ra")
  | (apply RatAt.same'; assumption; walk_at "ra")
  | (refine ⟨_, ?_⟩; walk_at "hp")))
local macro_rules | `(tactic| walk_at "sp") => `(tactic| (first | refine isint_int ?_ | refine gcd_i ?_ | refine p_top (by walk_at "ra") ?_ | refine p_bot (by walk_at "ra") ?_))

local macro_rules | `(tactic| walk_at "pre") => `(tactic| refine mk_rat (by assumption) (by assumption) fun x H' hx hr hs => ?_)
local macro_rules | `(tactic| walk_at "sp") => `(tactic| (first
  | refine eq_rr (by assumption) (by walk_at "ra") (by walk_at "ra") ?_
  | refine eq_ri (by walk_at "ra") fun H' hs => ?_
  | refine eq_ir (by assumption) (by walk_at "ra") fun H' hs => ?_
  | refine eq_ro (by walk_at "ra") (by assumption) ?_
  | refine eq_or (by walk_at "ra") (by assumption) ?_
  | refine str_r (by walk_at "ra") (by assumption) ?_
  | refine repr_r (by walk_at "ra") (by assumption) ?_
  | refine boolc_r (by walk_at "ra") ?_
  | refine bool_r (by walk_at "ra") ?_))
section
variable {P : Program} {w : World} {K : PySem.W.Frag} {mg : Str → Option Value} {base : Heap}
@[irreducible] def sp_eqr (K : PySem.W.Frag) : Sp := Sp2 fun x y H Q _ => ∃ a t, ∃ p q : Int, x = .ref a ∧ y = .ref t ∧ RatAt K H a p q ∧ H t = some (.tup [.int p, .int q]) ∧ 0 < q ∧ Int.gcd p q = 1 ∧ p.natAbs < 10 ^ 42 ∧ q.natAbs < 10 ^ 42 ∧ ∀ H', Same H H' → Q (.bl true) H'
theorem sc_l_equal_right : FnScope ["_law_made", "_law_due", "_law_over", "_law_under", "_law_twin", "_law_near", "_law_seen", "_law_is_whole", "_law_dues", "_law_others", "_law_mate"] ["_law_made", "_law_due"] (defScope s_l_equal_right) := ⟨rfl, rfl, rfl, by decide +kernel, rfl, by decide +kernel, by decide +kernel⟩
theorem ok_eqr (T : Txt K mg) : Gg P w K mg base 7 "_law_equal_right" (sp_eqr K) := by
  obtain ⟨fd, F⟩ := T.F_l_equal_right
  have M_Ratio2 := mr2 (P := P) (w := w) (base := base) T
  have S_eq := ok_eq (P := P) (w := w) (base := base) T
  have S_bool := ok_bool (P := P) (w := w) (base := base) T
  have S_str := ok_str (P := P) (w := w) (base := base) T
  refine ⟨_, fd, ["_law_made", "_law_due"], okG F sc_l_equal_right (fun vs H Q E h => ?_) (fun cdv A outer s H vs Q E hG hr h => ?_), T.g_l_equal_right, F.kp, F.bindsN fun _ _ _ _ _ _ us hl => match us, hl with | [_, _], _ => rfl⟩
  · unfold sp_eqr at h
    exact h.len
  · unfold sp_eqr at h
    obtain ⟨x, y, rfl, a, t, p, q, rfl, rfl, ha, ht, hq, hg, lp, lq, k⟩ := h
    have hq0 : q ≠ 0 := by omega
    have lq9 : q.natAbs.log2 < 9000 := log42 (by omega) (by decide)
    have lpq : p.natAbs.log2 < 1920 ∧ q.natAbs.log2 < 1920 := ⟨log42 (by omega) (by decide), log42 (by omega) (by decide)⟩
    refine ⟨_, (pss_cons (ps_asg (pv 1) (pg_tup rfl (pgs_cons (pg_name (i := 2) sc_l_equal_right.nd rfl (Or.inl rfl)) (pgs_cons (pg_name (i := 3) sc_l_equal_right.nd rfl (Or.inl rfl)) pgs_nil))))
      (pss_cons (ps_par (i := 4) (j := 5) (by rfl) sc_l_equal_right.nd rfl rfl (by decide) rfl rfl (pa_cons (pe_mkr M_Ratio2 hr (pa_cons (pv 2) (pa_cons (pv 3) pa_nil))) (pa_cons (pe_mkr M_Ratio2 hr (pa_cons (pe_op op_add (pv 2) pe_int) (pa_cons (pv 3) pa_nil))) pa_nil)) (by rfl))
      (pss_cons (ps_set (i := 6) sc_l_equal_right.nd rfl (Or.inl rfl) (pe_lst (pa_cons (pe_cmpR (op_eqK (K0 := K) S_eq (hr.mono (by decide))) (pv 0) (pv 4) (nomark _)) (pa_cons (pe_cmpR (op_eqK (K0 := K) S_eq (hr.mono (by decide))) (pv 4) (pv 0) (nomark _)) (pa_cons (pe_cmpR (op_neK (K0 := K) S_eq T.b_ne T.u_obj (hr.mono (by decide))) (pv 0) (pv 4) (nomark _)) (pa_cons (pe_cmpR (op_eqK (K0 := K) S_eq (hr.mono (by decide))) (pv 0) (pv 5) (nomark _)) (pa_cons (pe_cmpR (op_neK (K0 := K) S_eq T.b_ne T.u_obj (hr.mono (by decide))) (pv 5) (pv 0) (nomark _)) (pa_cons (pe_cmpR (op_eqK (K0 := K) S_eq (hr.mono (by decide))) (pv 0) (pv 2) (nomark _)) (pa_cons (pe_cmpR (op_eqK (K0 := K) S_eq (hr.mono (by decide))) (pv 2) (pv 0) (nomark _)) pa_nil)))))))))
      (pss_cons (ps_set (i := 6) sc_l_equal_right.nd rfl (Or.inl rfl) (pe_op op_cat (pv 6) (pe_lst (pa_cons (pe_cmpR (op_neK (K0 := K) S_eq T.b_ne T.u_obj (hr.mono (by decide))) (pv 0) (pv 2) (nomark _)) (pa_cons (pe_cmpR (op_neK (K0 := K) S_eq T.b_ne T.u_obj (hr.mono (by decide))) (pv 2) (pv 0) (nomark _)) (pa_cons (pe_cmpR (op_eqK (K0 := K) S_eq (hr.mono (by decide))) (pv 0) (pe_op op_add (pv 2) pe_int) (nomark _)) (pa_cons (pe_cmpR (op_eqK (K0 := K) S_eq (hr.mono (by decide))) (pe_op op_sub (pv 2) pe_int) (pv 0) (nomark _)) pa_nil)))))))
      (pss_cons (ps_set (i := 7) sc_l_equal_right.nd rfl (Or.inl rfl) (pe_cmpR op_eqI (pv 3) pe_int (nomark _)))
      (pss_cons (ps_set (i := 8) sc_l_equal_right.nd rfl (Or.inl rfl) (pe_lst (pa_cons pe_bl (pa_cons pe_bl (pa_cons pe_bl (pa_cons pe_bl (pa_cons pe_bl (pa_cons (pv 7) (pa_cons (pv 7) (pa_cons (pe_not (pv 7)) (pa_cons (pe_not (pv 7)) (pa_cons pe_bl (pa_cons pe_bl pa_nil)))))))))))))
      (pss_cons (ps_set (i := 9) sc_l_equal_right.nd rfl (Or.inl rfl) (pe_lst (pa_cons pe_non (pa_cons pe_bl (pa_cons pe_bl (pa_cons (pe_callTy (call_strO S_str (hr.mono (by decide))) rfl T.f_str (by decide +kernel) (pa_cons (pv 0) pa_nil)) (pa_cons pe_str (pa_cons (pv 1) (pa_cons (pe_tup (pa_cons (pv 2) pa_nil)) (pa_cons (pe_lst (pa_cons (pv 2) (pa_cons (pv 3) pa_nil))) (pa_cons pe_dnewK pa_nil)))))))))))
      (pss_cons (ps_set (i := 6) sc_l_equal_right.nd rfl (Or.inl rfl) (pe_op op_cat (pe_op op_cat (pv 6) (pe_lc (own := [("_law_mate", 10)]) (g := gName 10) (tt := tYes) rfl sc_l_equal_right.nd (pi_list (pv 9)) (blkOk_by (own := [("_law_mate", 10)]) (N := ["_law_made", "_law_due", "_law_over", "_law_under", "_law_twin", "_law_near", "_law_seen", "_law_is_whole", "_law_dues", "_law_others", "_law_mate"]) (sc := defScope s_l_equal_right) (by decide +kernel)) (fun _ _ _ _ _ => (pg_name (i := 10) sc_l_equal_right.nd rfl (Or.inl rfl))) (fun _ _ _ _ _ => pts_nil) (fun _ _ _ _ _ => (pe_cmpR (op_eqK (K0 := K) S_eq (hr.mono (by decide))) (pv 0) (pv 10) (nomark _))))) (pe_lc (own := [("_law_mate", 10)]) (g := gName 10) (tt := tYes) rfl sc_l_equal_right.nd (pi_list (pv 9)) (blkOk_by (own := [("_law_mate", 10)]) (N := ["_law_made", "_law_due", "_law_over", "_law_under", "_law_twin", "_law_near", "_law_seen", "_law_is_whole", "_law_dues", "_law_others", "_law_mate"]) (sc := defScope s_l_equal_right) (by decide +kernel)) (fun _ _ _ _ _ => (pg_name (i := 10) sc_l_equal_right.nd rfl (Or.inl rfl))) (fun _ _ _ _ _ => pts_nil) (fun _ _ _ _ _ => (pe_cmpR (op_neK (K0 := K) S_eq T.b_ne T.u_obj (hr.mono (by decide))) (pv 0) (pv 10) (nomark _))))))
      (pss_cons (ps_set (i := 6) sc_l_equal_right.nd rfl (Or.inl rfl) (pe_op op_cat (pe_op op_cat (pv 6) (pe_lc (own := [("_law_mate", 10)]) (g := gName 10) (tt := tYes) rfl sc_l_equal_right.nd (pi_list (pv 9)) (blkOk_by (own := [("_law_mate", 10)]) (N := ["_law_made", "_law_due", "_law_over", "_law_under", "_law_twin", "_law_near", "_law_seen", "_law_is_whole", "_law_dues", "_law_others", "_law_mate"]) (sc := defScope s_l_equal_right) (by decide +kernel)) (fun _ _ _ _ _ => (pg_name (i := 10) sc_l_equal_right.nd rfl (Or.inl rfl))) (fun _ _ _ _ _ => pts_nil) (fun _ _ _ _ _ => (pe_cmpR (op_eqK (K0 := K) S_eq (hr.mono (by decide))) (pv 10) (pv 0) (nomark _))))) (pe_lst (pa_cons (pe_callTy (call_boolO S_bool (hr.mono (by decide))) rfl T.f_bool (by decide +kernel) (pa_cons (pv 0) pa_nil)) (pa_cons (pe_notO S_bool (hr.mono (by decide)) (pv 0)) pa_nil)))))
      (pss_cons (ps_set (i := 8) sc_l_equal_right.nd rfl (Or.inl rfl) (pe_op op_cat (pe_op op_cat (pe_op op_cat (pe_op op_cat (pv 8) (pe_op op_rep (pe_lst (pa_cons pe_bl pa_nil)) pe_int)) (pe_op op_rep (pe_lst (pa_cons pe_bl pa_nil)) pe_int)) (pe_op op_rep (pe_lst (pa_cons pe_bl pa_nil)) pe_int)) (pe_lst (pa_cons (pe_cmpR op_neI (pv 2) pe_int (nomark _)) (pa_cons (pe_cmpR op_eqI (pv 2) pe_int (nomark _)) pa_nil)))))
      (pss_one (ps_ret (pe_cmpR op_eqS (pe_callB (call_reprL hG hr) rfl T.f_repr (by decide +kernel) (pa_cons (pv 6) pa_nil)) (pe_callB (call_reprL hG hr) rfl T.f_repr (by decide +kernel) (pa_cons (pv 8) pa_nil)) (nomark _)))))))))))))), ?_⟩
    walk_at "rd"
    rename_i D hD
    refine lc_mapN (OddV K) (fun _ => V.bl false) hD (by walk_at "hp") (Nat.le_of_ble_eq_true rfl) (.cons (odd_non T) (.cons (odd_bl T _) (.cons (odd_bl T _) (.cons (odd_str T _) (.cons (odd_str T _) (.cons (odd_tup T (by walk_at "hp")) (.cons (odd_tup T (by walk_at "hp")) (.cons (odd_lst T (by walk_at "hp")) (.cons (odd_dK T (by walk_at "hp")) .nil))))))))) (fun x H0 hx s0 R hR => ?_) (fun H0 s0 h0 => ?_)
    · have ho := hx.same s0
      walk_at "rd"
      exact hR _ _ (Same.refl _) rfl
    walk_at "rd"
    rename_i D hD
    refine lc_mapN (OddV K) (fun _ => V.bl true) hD (by walk_at "hp") (Nat.le_of_ble_eq_true rfl) (.cons (odd_non T) (.cons (odd_bl T _) (.cons (odd_bl T _) (.cons (odd_str T _) (.cons (odd_str T _) (.cons (odd_tup T (by walk_at "hp")) (.cons (odd_tup T (by walk_at "hp")) (.cons (odd_lst T (by walk_at "hp")) (.cons (odd_dK T (by walk_at "hp")) .nil))))))))) (fun x H0 hx s0 R hR => ?_) (fun H0 s0 h0 => ?_)
    · have ho := hx.same s0
      walk_at "rd"
      exact hR _ _ (Same.refl _) rfl
    walk_at "rd"
    rename_i D hD
    refine lc_mapN (OddV K) (fun _ => V.bl false) hD (by walk_at "hp") (Nat.le_of_ble_eq_true rfl) (.cons (odd_non T) (.cons (odd_bl T _) (.cons (odd_bl T _) (.cons (odd_str T _) (.cons (odd_str T _) (.cons (odd_tup T (by walk_at "hp")) (.cons (odd_tup T (by walk_at "hp")) (.cons (odd_lst T (by walk_at "hp")) (.cons (odd_dK T (by walk_at "hp")) .nil))))))))) (fun x H0 hx s0 R hR => ?_) (fun H0 s0 h0 => ?_)
    · have ho := hx.same s0
      walk_at "rd"
      exact hR _ _ (Same.refl _) rfl
    walk_at "rd"
    obtain ⟨e1, e2⟩ := r_self hq hg
    have e3 := near1 (p := p) hq
    have e4 := near2 (p := p) hq
    have e5 : decide (p = p + 1) = false := decide_eq_false (by omega)
    have e6 : decide (p = p - 1) = false := decide_eq_false (by omega)
    refine reprL_tb (by walk_at "hp") rfl (Nat.le_of_ble_eq_true rfl) ?_
    walk_at "rd"
    refine reprL_tb (by walk_at "hp") rfl (Nat.le_of_ble_eq_true rfl) ?_
    walk_at "rd"
    refine fin_eq (Q := Q) ?_ (k _ (by walk_at "sm"))
    simp [toB, e1, e2, e3, e4, e5, e6]
    rfl
theorem eqr_i {a t : Addr} {p q : Int} {H : Hp} {Q : VK} {E : XK} (ha : RatAt K H a p q) (ht : H t = some (.tup [.int p, .int q])) (hq : 0 < q) (hg : Int.gcd p q = 1) (lp : p.natAbs < 10 ^ 42) (lq : q.natAbs < 10 ^ 42) (k : ∀ H', Same H H' → Q (.bl true) H') : sp_eqr K [.ref a, .ref t] H Q E := by
  unfold sp_eqr
  exact ⟨_, _, rfl, a, t, p, q, rfl, rfl, ha, ht, hq, hg, lp, lq, k⟩
end
end K02
set_option Elab.async false
set_option linter.all false
set_option maxRecDepth 100000
set_option maxHeartbeats 400000

set_option maxHeartbeats 800000
namespace K02
open PySem PySem.Spec PyProof.Rows L2 He Rt
local macro_rules | `(tactic| walk_at "nx") => `(tactic| fail)
local macro_rules | `(tactic| walk_at "ne") => `(tactic| ((fail_if_success apply ne_probe); (fail_if_success apply ne_probe2); first
  | assumption
  | walk_at "nx"
  | (apply ne_n; assumption; walk_at "hp")
  | (apply ne_n'; assumption; walk_at "hp")
  | (intro z; cases z; done)))
local macro_rules | `(tactic| walk_at "hp") => `(tactic| ((fail_if_success apply hp_probe); first
  | assumption
  | exact upd_same
  | (apply at_new; assumption; walk_at "hp")
  | (apply same_at; assumption; walk_at "hp")
  | ((fail_if_success (apply np; assumption)); apply at_ne; walk_at "ne"; walk_at "hp")
  | (apply kp_at; assumption; walk_at "ne"; walk_at "hp")))
local macro_rules | `(tactic| walk_at "sd") => `(tactic| (first
  | decide
  | rfl
  | omega
  | assumption
  | exact Nat.le_of_ble_eq_true rfl
  | exact CMul.ok (.inl ⟨by omega, by omega⟩)
  | exact CMul.ok (.inr ⟨by omega, by omega⟩)
  | (refine ⟨?_, ?_⟩ <;> (first | decide | omega | assumption | (decide +kernel)))
  | (rw [sz_line]; (try simp only [Str.length_append]); omega)))
local macro_rules | `(tactic| walk_at "kp") => `(tactic| ((fail_if_success apply kp_probe); first
  | exact Kp.refl
  | (apply kp_snoc; assumption; walk_at "kp")
  | (apply kp_new; assumption; walk_at "kp")
  | (apply kp_same; assumption; walk_at "kp")
  | (apply Kp.at; walk_at "kp")))
local macro_rules | `(tactic| walk_at "sm") => `(tactic| ((fail_if_success apply sm_probe); first
  | exact Same.refl _
  | (apply same_new; assumption; walk_at "sm")
  | (apply same_snoc; assumption; walk_at "sm")))
local macro_rules | `(tactic| walk_at "sp") => `(tactic| fail)
local macro_rules | `(tactic| walk_at "fl") => `(tactic| (first
  | refine Exists.intro _ (Exists.intro _ (Exists.intro _ (Exists.intro _ (And.intro rfl (And.intro (by walk_at "hp") (And.intro (by assumption) (And.intro (by assumption) (And.intro (Nat.le_of_ble_eq_true rfl) ?_))))))))
  | refine Exists.intro _ (Exists.intro _ (Exists.intro _ (Exists.intro _ (Exists.intro _ (And.intro rfl (And.intro (by walk_at "hp") (And.intro (by assumption) (And.intro (by assumption) (And.intro rfl ?_)))))))))
  | refine Or.inr (Exists.intro _ (And.intro rfl (And.intro (by assumption) ?_)))))
local macro_rules | `(tactic| walk_at "pre") => `(tactic| fail)
local macro_rules | `(tactic| walk_at "rd1") => `(tactic| (first
  | refine Exists.intro _ (And.intro rfl ?_)
  | refine Exists.intro _ (Exists.intro _ (And.intro rfl (And.intro rfl ?_)))
  | refine Exists.intro _ (Exists.intro _ (And.intro rfl (And.intro (SqT.of (by walk_at "hp")) (And.intro rfl ?_))))
  | refine Exists.intro _ (Exists.intro _ (And.intro rfl ?_))
  | refine And.intro (by walk_at "sd") ?_
  | (with_reducible refine tnil_i ?_)
  | walk_at "pre"
  | (intro p hp)
  | refine Exists.intro _ (Exists.intro _ (Exists.intro _ (Exists.intro _ (And.intro rfl (And.intro rfl (And.intro (SqL.of (by walk_at "hp")) (And.intro rfl ?_)))))))
  | refine Exists.intro _ (Exists.intro _ (Exists.intro _ (Exists.intro _ (And.intro rfl (And.intro rfl (And.intro (by walk_at "hp") (And.intro rfl ?_)))))))
  | refine Exists.intro _ (Exists.intro _ (Exists.intro _ (Exists.intro _ (And.intro rfl (And.intro rfl (And.intro (by walk_at "hp") (And.intro (by walk_at "hp") ?_)))))))
  | refine Exists.intro _ (Exists.intro _ (Exists.intro _ (And.intro rfl (And.intro rfl (And.intro (by walk_at "hp") ?_)))))
  | refine Exists.intro _ (Exists.intro _ (And.intro rfl (And.intro (SqL.of (by walk_at "hp")) ?_)))
  | refine And.intro (Exists.intro _ (SqL.of (by walk_at "hp"))) ?_
  | refine iteT ?_
  | refine iteF ?_
  | walk_at "sp"))
local macro_rules | `(tactic| walk_at "rd") => `(tactic| repeat walk_at "rd1")

local macro_rules | `(tactic| walk_at "ra") => `(tactic| ((fail_if_success apply ra_probe); first
  | assumption
  | (apply RatAt.new'; assumption; walk_at "ra")
  | (apply RatAt.same'; assumption; walk_at "ra")
  | (refine ⟨_, ?_⟩; walk_at "hp")))
local macro_rules | `(tactic| walk_at "sp") => `(tactic| (first | refine isint_int ?_ | refine gcd_i ?_ | refine p_top (by walk_at "ra") ?_ | refine p_bot (by walk_at "ra") ?_))

local macro_rules | `(tactic| walk_at "pre") => `(tactic| refine mk_rat (by assumption) (by assumption) fun x H' hx hr hs => ?_)
local macro_rules | `(tactic| walk_at "sp") => `(tactic| (first
  | refine lowest_i (by assumption) (by assumption) fun t H' ht hs => ?_
  | refine str_r (by walk_at "ra") (by assumption) ?_
  | refine repr_r (by walk_at "ra") (by assumption) ?_))
local macro_rules | `(tactic| walk_at "nx") => `(tactic| (first | (apply ne_src; assumption; walk_at "src") | (apply ne_src'; assumption; walk_at "src")))
local macro_rules | `(tactic| walk_at "src") => `(tactic| ((fail_if_success apply src_probe); first
  | assumption
  | (apply Src.alc'; assumption; walk_at "src")
  | (apply Src.sm'; assumption; walk_at "src")))
section
variable {P : Program} {w : World} {K : PySem.W.Frag} {mg : Str → Option Value} {base : Heap}
@[irreducible] def sp_right : Sp := Sp1 fun x H Q _ => ∃ a : Addr, x = .ref a ∧ Src H a ∧ ∀ H', Src H' a → Kp a H H' → Q (.bl true) H'
theorem sc_l_right : FnScope ["_law_source_here", "_law_upper", "_law_lower", "_law_over", "_law_under", "_law_some", "_law_shown", "_law_due", "_law_made"] ["_law_source_here"] (defScope s_l_right) := ⟨rfl, rfl, rfl, by decide +kernel, rfl, by decide +kernel, by decide +kernel⟩
theorem ok_right (T : Txt K mg) : Gg P w K mg base 8 "_law_right" sp_right := by
  obtain ⟨fd, F⟩ := T.F_l_right
  have M_Ratio2 := mr2 (P := P) (w := w) (base := base) T
  have M_Ratio1 := mr1 (P := P) (w := w) (base := base) T
  have MK_Ratio_bottom_top := mrk2 (P := P) (w := w) (base := base) T
  have MK_Ratio_top := mrk1 (P := P) (w := w) (base := base) T
  have S_repr := ok_repr (P := P) (w := w) (base := base) T
  have S_str := ok_str (P := P) (w := w) (base := base) T
  have Y_top := ok_top (P := P) (w := w) (base := base) T
  have Y_bottom := ok_bottom (P := P) (w := w) (base := base) T
  have G_l_parts := ok_parts (P := P) (w := w) (base := base) T
  have G_l_lowest := ok_lowest (P := P) (w := w) (base := base) T
  have G_l_equal_right := ok_eqr (P := P) (w := w) (base := base) T
  refine ⟨_, fd, ["_law_source_here"], okG F sc_l_right (fun vs H Q E h => ?_) (fun cdv A outer s H vs Q E hG hr h => ?_), T.g_l_right, F.kp, F.bindsN fun _ _ _ _ _ _ us hl => match us, hl with | [_], _ => rfl⟩
  · unfold sp_right at h
    exact h.len
  · unfold sp_right at h
    obtain ⟨x, rfl, a, rfl, hs, k⟩ := h
    refine ⟨_, (pss_cons (ps_asg (pe_gd G_l_parts hr (pa_cons (pv 0) pa_nil)) (pg_tup rfl (pgs_cons (pg_name (i := 1) sc_l_right.nd rfl (Or.inl rfl)) (pgs_cons (pg_name (i := 2) sc_l_right.nd rfl (Or.inl rfl)) pgs_nil))))
      (pss_cons (ps_asg (pe_gd G_l_lowest hr (pa_cons (pv 1) (pa_cons (pv 2) pa_nil))) (pg_tup rfl (pgs_cons (pg_name (i := 3) sc_l_right.nd rfl (Or.inl rfl)) (pgs_cons (pg_name (i := 4) sc_l_right.nd rfl (Or.inl rfl)) pgs_nil))))
      (pss_cons (ps_set (i := 5) sc_l_right.nd rfl (Or.inl rfl) (pe_lst (pa_cons (pe_mkr M_Ratio2 hr (pa_cons (pv 1) (pa_cons (pv 2) pa_nil))) (pa_cons (pe_mkrK MK_Ratio_bottom_top hr (pk_cons (pv 2) (pk_cons (pv 1) pk_nil))) (pa_cons (pe_mkr M_Ratio2 hr (pa_cons (pe_un un_neg (pv 1)) (pa_cons (pe_un un_neg (pv 2)) pa_nil))) pa_nil)))))
      (pss_cons (ps_if (pt_cmpR op_eqI (pv 4) pe_int (nomark _)) (pss_one (ps_set (i := 5) sc_l_right.nd rfl (Or.inl rfl) (pe_op op_cat (pv 5) (pe_lst (pa_cons (pe_mkr M_Ratio1 hr (pa_cons (pv 3) pa_nil)) (pa_cons (pe_mkrK MK_Ratio_top hr (pk_cons (pv 3) pk_nil)) pa_nil)))))) pss_nil)
      (pss_cons (ps_set (i := 6) sc_l_right.nd rfl (Or.inl rfl) (pe_ifExp (pt_cmpR op_eqI (pv 4) pe_int (nomark _)) (pe_callTy call_str_int rfl T.f_str (by decide +kernel) (pa_cons (pv 3) pa_nil)) (pe_op op_add_str (pe_op op_add_str (pe_callTy call_str_int rfl T.f_str (by decide +kernel) (pa_cons (pv 3) pa_nil)) pe_str) (pe_callTy call_str_int rfl T.f_str (by decide +kernel) (pa_cons (pv 4) pa_nil)))))
      (pss_cons (ps_set (i := 7) sc_l_right.nd rfl (Or.inl rfl) (pe_lst (pa_cons (pv 3) (pa_cons (pv 4) (pa_cons (pv 6) (pa_cons (pe_op op_add_str (pe_op op_add_str (pe_op op_add_str (pe_op op_add_str pe_str (pe_callTy call_str_int rfl T.f_str (by decide +kernel) (pa_cons (pv 3) pa_nil))) pe_str) (pe_callTy call_str_int rfl T.f_str (by decide +kernel) (pa_cons (pv 4) pa_nil))) pe_str) (pa_cons (pv 3) (pa_cons (pv 4) pa_nil))))))))
      (pss_cons (ps_for PassesOwn.never rfl (pi_list (pv 5)) (pg_name (i := 8) sc_l_right.nd rfl (Or.inl rfl)) (pss_one (ps_if (pt_cmpR op_neS (pe_callB (call_reprL hG hr) rfl T.f_repr (by decide +kernel) (pa_cons (pe_lst (pa_cons (pe_prp Y_top hr (pv 8)) (pa_cons (pe_prp Y_bottom hr (pv 8)) (pa_cons (pe_callTy (call_strO S_str (hr.mono (by decide))) rfl T.f_str (by decide +kernel) (pa_cons (pv 8) pa_nil)) (pa_cons (pe_callB (call_reprO S_repr (hr.mono (by decide))) rfl T.f_repr (by decide +kernel) (pa_cons (pv 8) pa_nil)) (pa_cons (pe_prp Y_top hr (pv 8)) (pa_cons (pe_prp Y_bottom hr (pv 8)) pa_nil))))))) pa_nil)) (pe_callB (call_reprL hG hr) rfl T.f_repr (by decide +kernel) (pa_cons (pv 7) pa_nil)) (nomark _)) (pss_one (ps_ret pe_bl)) pss_nil)))
      (pss_one (ps_ret (pe_gg G_l_equal_right hG hr (pa_cons (pe_ix ix_list (pv 5) pe_int (fun _ _ => rfl)) (pa_cons (pe_tup (pa_cons (pv 3) (pa_cons (pv 4) pa_nil))) pa_nil)))))))))))), ?_⟩
    walk_at "rd"
    refine parts_i hs fun t H1 n d hs1 hk1 ht hd ln ld => ?_
    have ld9 : d.natAbs.log2 < 9000 := log42 (by omega) (by decide)
    have nd9 : (-d).natAbs.log2 < 9000 := log42 (by omega) (by decide)
    have nd0 : -d ≠ 0 := by omega
    have one0 : (1 : Int) ≠ 0 := by decide
    have one9 : (1 : Int).natAbs.log2 < 9000 := by decide
    obtain ⟨n1, n2⟩ := r_neg (n := n) hd
    have bt := rtop_abs (n := n) hd
    have bb := rbot_abs (n := n) hd
    have hq := rbot_pos (n := n) hd
    have hg := r_gcd (n := n) hd
    have lpq : (rtop n d).natAbs.log2 < 1920 ∧ (rbot n d).natAbs.log2 < 1920 := ⟨log42 (by omega) (by decide), log42 (by omega) (by decide)⟩
    have l1 := lpq.1
    have l2 := lpq.2
    have t1 := int_text_len_1921 lpq.1
    have t2 := int_text_len_1921 lpq.2
    have c1 : ("/" : Str).length = 1 := rfl
    have c2 : ("Ratio(" : Str).length = 6 := rfl
    have c3 : (", " : Str).length = 2 := rfl
    have c4 : (")" : Str).length = 1 := rfl
    walk_at "rd"
    rename_i tl Hl htl hsl x1 Ha hx1 hr1 hs1 x2 Hb hx2 hr2 hs2 x3 Hc hx3 hr3 hs3 p hp
    rw [n1, n2] at hr3
    refine iteD (fun c => ?_) (fun c => ?_)
    · obtain ⟨o1, o2⟩ := r_one (rtop n d)
      walk_at "rd"
      rename_i x4 Hd hx4 hr4 hs4 x5 He hx5 hr5 hs5 p2 hp2 p3 hp3
      rw [o1, o2, ← c] at hr4 hr5
      refine iteD (fun _ => ?_) (fun c2 => absurd c c2)
      walk_at "rd"
      rename_i dl hdl
      refine for_same (fun H x => ∃ b, x = .ref b ∧ RatAt K H b (rtop n d) (rbot n d)) (by walk_at "hp") (by intro z; cases z) (.cons ⟨_, rfl, by walk_at "ra"⟩ (.cons ⟨_, rfl, by walk_at "ra"⟩ (.cons ⟨_, rfl, by walk_at "ra"⟩ (.cons ⟨_, rfl, by walk_at "ra"⟩ (.cons ⟨_, rfl, by walk_at "ra"⟩ .nil))))) (fun x H0 hx s0 N hN => ?_) (fun x H0 s0 => ?_)
      · obtain ⟨b, rfl, hb⟩ := hx
        have hb := hb.same s0
        walk_at "rd"
        refine reprL_rat (by walk_at "hp") rfl rfl lpq ?_
        walk_at "rd"
        refine reprL_rat (by walk_at "hp") (by unfold rstr; rw [if_pos c]) rfl lpq ?_
        walk_at "rd"
        refine iteN (fun z => absurd rfl z) (fun _ => ?_)
        walk_at "rd"
        exact hN _ (by walk_at "sm")
      · walk_at "rd"
        refine eqr_i (by walk_at "ra") (by walk_at "hp") hq hg (by omega) (by omega) fun H' s' => ?_
        exact k _ (by walk_at "src") (by walk_at "kp")
    · walk_at "rd"
      refine iteD (fun c2 => absurd c2 c) (fun _ => ?_)
      walk_at "rd"
      rename_i dl hdl
      refine for_same (fun H x => ∃ b, x = .ref b ∧ RatAt K H b (rtop n d) (rbot n d)) (by walk_at "hp") (by intro z; cases z) (.cons ⟨_, rfl, by walk_at "ra"⟩ (.cons ⟨_, rfl, by walk_at "ra"⟩ (.cons ⟨_, rfl, by walk_at "ra"⟩ .nil))) (fun x H0 hx s0 N hN => ?_) (fun x H0 s0 => ?_)
      · obtain ⟨b, rfl, hb⟩ := hx
        have hb := hb.same s0
        walk_at "rd"
        refine reprL_rat (by walk_at "hp") rfl rfl lpq ?_
        walk_at "rd"
        refine reprL_rat (by walk_at "hp") (by unfold rstr; rw [if_neg c]) rfl lpq ?_
        walk_at "rd"
        refine iteN (fun z => absurd rfl z) (fun _ => ?_)
        walk_at "rd"
        exact hN _ (by walk_at "sm")
      · walk_at "rd"
        refine eqr_i (by walk_at "ra") (by walk_at "hp") hq hg (by omega) (by omega) fun H' s' => ?_
        exact k _ (by walk_at "src") (by walk_at "kp")
end
end K02
set_option Elab.async false
set_option linter.all false
set_option maxRecDepth 100000
set_option maxHeartbeats 400000

set_option maxHeartbeats 800000
namespace K02
open PySem PySem.Spec PyProof.Rows L2 He Rt
local macro_rules | `(tactic| walk_at "nx") => `(tactic| fail)
local macro_rules | `(tactic| walk_at "ne") => `(tactic| ((fail_if_success apply ne_probe); (fail_if_success apply ne_probe2); first
  | assumption
  | walk_at "nx"
  | (apply ne_n; assumption; walk_at "hp")
  | (apply ne_n'; assumption; walk_at "hp")
  | (intro z; cases z; done)))
local macro_rules | `(tactic| walk_at "hp") => `(tactic| ((fail_if_success apply hp_probe); first
  | assumption
  | exact upd_same
  | (apply at_new; assumption; walk_at "hp")
  | (apply same_at; assumption; walk_at "hp")
  | ((fail_if_success (apply np; assumption)); apply at_ne; walk_at "ne"; walk_at "hp")
  | (apply kp_at; assumption; walk_at "ne"; walk_at "hp")))
local macro_rules | `(tactic| walk_at "sd") => `(tactic| (first
  | decide
  | rfl
  | omega
  | assumption
  | exact Nat.le_of_ble_eq_true rfl
  | exact CMul.ok (.inl ⟨by omega, by omega⟩)
  | exact CMul.ok (.inr ⟨by omega, by omega⟩)
  | (refine ⟨?_, ?_⟩ <;> (first | decide | omega | assumption | (decide +kernel)))
  | (rw [sz_line]; (try simp only [Str.length_append]); omega)))
local macro_rules | `(tactic| walk_at "kp") => `(tactic| ((fail_if_success apply kp_probe); first
  | exact Kp.refl
  | (apply kp_snoc; assumption; walk_at "kp")
  | (apply kp_new; assumption; walk_at "kp")
  | (apply kp_same; assumption; walk_at "kp")
  | (apply Kp.at; walk_at "kp")))
local macro_rules | `(tactic| walk_at "sm") => `(tactic| ((fail_if_success apply sm_probe); first
  | exact Same.refl _
  | (apply same_new; assumption; walk_at "sm")
  | (apply same_snoc; assumption; walk_at "sm")))
local macro_rules | `(tactic| walk_at "sp") => `(tactic| fail)
local macro_rules | `(tactic| walk_at "fl") => `(tactic| (first
  | refine Exists.intro _ (Exists.intro _ (Exists.intro _ (Exists.intro _ (And.intro rfl (And.intro (by walk_at "hp") (And.intro (by assumption) (And.intro (by assumption) (And.intro (Nat.le_of_ble_eq_true rfl) ?_))))))))
  | refine Exists.intro _ (Exists.intro _ (Exists.intro _ (Exists.intro _ (Exists.intro _ (And.intro rfl (And.intro (by walk_at "hp") (And.intro (by assumption) (And.intro (by assumption) (And.intro rfl ?_)))))))))
  | refine Or.inr (Exists.intro _ (And.intro rfl (And.intro (by assumption) ?_)))))
local macro_rules | `(tactic| walk_at "pre") => `(tactic| fail)
local macro_rules | `(tactic| walk_at "rd1") => `(tactic| (first
  | refine Exists.intro _ (And.intro rfl ?_)
  | refine Exists.intro _ (Exists.intro _ (And.intro rfl (And.intro rfl ?_)))
  | refine Exists.intro _ (Exists.intro _ (And.intro rfl (And.intro (SqT.of (by walk_at "hp")) (And.intro rfl ?_))))
  | refine Exists.intro _ (Exists.intro _ (And.intro rfl ?_))
  | refine And.intro (by walk_at "sd") ?_
  | (with_reducible refine tnil_i ?_)
  | (with_reducible refine tc_i ?_)
  | walk_at "pre"
  | (intro p hp)
  | refine Exists.intro _ (Exists.intro _ (Exists.intro _ (Exists.intro _ (And.intro rfl (And.intro rfl (And.intro (SqL.of (by walk_at "hp")) (And.intro rfl ?_)))))))
  | refine Exists.intro _ (Exists.intro _ (Exists.intro _ (Exists.intro _ (And.intro rfl (And.intro rfl (And.intro (by walk_at "hp") (And.intro rfl ?_)))))))
  | refine Exists.intro _ (Exists.intro _ (Exists.intro _ (Exists.intro _ (And.intro rfl (And.intro rfl (And.intro (by walk_at "hp") (And.intro (by walk_at "hp") ?_)))))))
  | refine Exists.intro _ (Exists.intro _ (Exists.intro _ (And.intro rfl (And.intro rfl (And.intro (by walk_at "hp") ?_)))))
  | refine Exists.intro _ (Exists.intro _ (And.intro rfl (And.intro (SqL.of (by walk_at "hp")) ?_)))
  | refine And.intro (Exists.intro _ (SqL.of (by walk_at "hp"))) ?_
  | refine iteT ?_
  | refine iteF ?_
  | walk_at "sp"))
local macro_rules | `(tactic| walk_at "rd") => `(tactic| repeat walk_at "rd1")

local macro_rules | `(tactic| walk_at "ra") => `(tactic| ((fail_if_success apply ra_probe); first
  | assumption
  | (apply RatAt.new'; assumption; walk_at "ra")
  | (apply RatAt.same'; assumption; walk_at "ra")
  | (refine ⟨_, ?_⟩; walk_at "hp")))
local macro_rules | `(tactic| walk_at "sp") => `(tactic| (first | refine isint_int ?_ | refine gcd_i ?_ | refine p_top (by walk_at "ra") ?_ | refine p_bot (by walk_at "ra") ?_))

local macro_rules | `(tactic| walk_at "nx") => `(tactic| (first | (apply ne_src; assumption; walk_at "src") | (apply ne_src'; assumption; walk_at "src")))
local macro_rules | `(tactic| walk_at "src") => `(tactic| ((fail_if_success apply src_probe); first
  | assumption
  | (apply Src.alc'; assumption; walk_at "src")
  | (apply Src.sm'; assumption; walk_at "src")))

local macro_rules | `(tactic| walk_at "pre") => `(tactic| refine mk_rat (by assumption) (by assumption) fun x H' hx hr hs => ?_)
section
variable {P : Program} {w : World} {K : PySem.W.Frag} {mg : Str → Option Value} {base : Heap}
@[irreducible] def sp_source : Sp := Sp1 fun x H Q _ => ∃ i : Int, x = .int i ∧ ∀ p H', H p = none → Src H' p → Same H H' → Q (.ref p) H'
theorem sc_l_source : FnScope ["_law_cell_here", "_law_great"] ["_law_cell_here"] (defScope s_l_source) := ⟨rfl, rfl, rfl, by decide +kernel, rfl, by decide +kernel, by decide +kernel⟩
theorem ok_source (T : Txt K mg) : Gd P w K mg base 1 "_law_source" sp_source := by
  obtain ⟨fd, F⟩ := T.F_l_source
  refine ⟨_, fd, ["_law_cell_here"], okF F sc_l_source (fun vs H Q E h => ?_) (fun cdv A outer s H vs Q E hr h => ?_), T.g_l_source, F.kp, F.bindsN fun _ _ _ _ _ _ us hl => match us, hl with | [_], _ => rfl⟩
  · unfold sp_source at h
    exact h.len
  · unfold sp_source at h
    obtain ⟨x, rfl, i, rfl, k⟩ := h
    refine ⟨_, (pss_cons (ps_set (i := 1) sc_l_source.nd rfl (Or.inl rfl) (pe_ifExp (pt_cmpR op_ge (pe_callB call_absI rfl T.f_abs (by decide +kernel) (pa_cons (pv 0) pa_nil)) (pe_op (op_powL 10 18 1000000000000000000 ⟨by decide, by decide, by decide⟩ (by decide +kernel)) pe_int pe_int) (nomark _)) (pe_callB call_absI rfl T.f_abs (by decide +kernel) (pa_cons (pv 0) pa_nil)) pe_int))
      (pss_one (ps_ret (pe_lst (pa_cons (pe_op op_mod (pe_callTy call_intI rfl T.f_int (by decide +kernel) (pa_cons (pe_op op_add (pe_op op_mulA (pv 0) pe_int) pe_int) pa_nil)) pe_int) (pa_cons (pv 1) (pa_cons pe_int pa_nil))))))), ?_⟩
    walk_at "rd"
    refine iteD (fun c => ?_) (fun c => ?_)
    · walk_at "rd"
      rename_i p hp
      exact k _ _ hp ⟨_, _, _, upd_same, Int.emod_nonneg _ (by decide), Int.emod_lt_of_pos _ (by decide), by omega⟩ (Same.newp hp)
    · walk_at "rd"
      rename_i p hp
      exact k _ _ hp ⟨_, _, _, upd_same, Int.emod_nonneg _ (by decide), Int.emod_lt_of_pos _ (by decide), by omega⟩ (Same.newp hp)
theorem source_i {i : Int} {H : Hp} {Q : VK} {E : XK} (k : ∀ p H', H p = none → Src H' p → Same H H' → Q (.ref p) H') : sp_source [.int i] H Q E := by
  unfold sp_source
  exact ⟨_, rfl, i, rfl, k⟩
theorem cut_int {is : List Int} {lo hi : Option Int} {x : V} (h : x ∈ cutV (is.map V.int) lo hi) : ∃ v, x = .int v := by
  unfold cutV at h
  have := List.mem_of_mem_drop (List.mem_of_mem_take h)
  obtain ⟨v, _, rfl⟩ := List.mem_map.mp this
  exact ⟨v, rfl⟩
@[irreducible] def sp_cell (K : PySem.W.Frag) : Sp := Sp2 fun x y H Q _ => ∃ a, ∃ is : List Int, ∃ k : Int, x = .ref a ∧ y = .int k ∧ SqL K H a (is.map V.int) ∧ 0 ≤ k ∧ k < 1000 ∧ ∀ i H', Same H H' → Q (.int i) H'
theorem sc_l_cell : FnScope ["_law_cells", "_law_k", "_law_mixed", "_law_cell_here"] ["_law_cells", "_law_k"] (defScope s_l_cell) := ⟨rfl, rfl, rfl, by decide +kernel, rfl, by decide +kernel, by decide +kernel⟩
theorem ok_cell (T : Txt K mg) : Gd P w K mg base 1 "_law_cell" (sp_cell K) := by
  obtain ⟨fd, F⟩ := T.F_l_cell
  refine ⟨_, fd, ["_law_cells", "_law_k"], okF F sc_l_cell (fun vs H Q E h => ?_) (fun cdv A outer s H vs Q E hr h => ?_), T.g_l_cell, F.kp, F.bindsN fun _ _ _ _ _ _ us hl => match us, hl with | [_, _], _ => rfl⟩
  · unfold sp_cell at h
    exact h.len
  · unfold sp_cell at h
    obtain ⟨x, y, rfl, a, is, j, rfl, rfl, ha, h0, h1, k⟩ := h
    refine ⟨_, (pss_cons (ps_if (pt_cmpR op_lt (pv 1) (pe_callB call_len_seq rfl T.f_len (by decide +kernel) (pa_cons (pv 0) pa_nil)) (nomark _)) (pss_one (ps_ret (pe_callTy call_intI rfl T.f_int (by decide +kernel) (pa_cons (pe_ix ix_list (pv 0) (pv 1) (fun _ _ => rfl)) pa_nil)))) pss_nil)
      (pss_cons (ps_set (i := 2) sc_l_cell.nd rfl (Or.inl rfl) (pe_op op_add (pe_op op_add pe_int (pe_op op_mulA (pe_op op_mulA pe_int (pv 1)) (pv 1))) (pe_op op_mulA pe_int (pv 1))))
      (pss_cons (ps_for PassesOwn.never rfl (pi_list (pe_slice sl_list (pv 0) po_none (po_some pe_int))) (pg_name (i := 3) sc_l_cell.nd rfl (Or.inl rfl)) (pss_one (ps_set (i := 2) sc_l_cell.nd rfl (Or.inl rfl) (pe_op op_mod (pe_callTy call_intI rfl T.f_int (by decide +kernel) (pa_cons (pe_op op_add (pe_op op_mulA (pv 2) pe_int) (pe_op op_mulA (pe_callTy call_intI rfl T.f_int (by decide +kernel) (pa_cons (pv 3) pa_nil)) (pe_op op_add (pv 1) pe_int))) pa_nil)) pe_int))))
      (pss_one (ps_ret (pv 2)))))), ?_⟩
    walk_at "rd"
    refine ⟨_, _, rfl, .inl ha, ?_⟩
    walk_at "rd"
    rw [List.length_map]
    refine iteD (fun c => ?_) (fun c => ?_)
    · obtain ⟨n, rfl⟩ : ∃ n : Nat, j = n := ⟨j.toNat, by omega⟩
      have hn : n < is.length := by omega
      walk_at "rd"
      refine ⟨_, _, _, _, rfl, rfl, ha, atI_nat (v := .int (is[n])) (by simp [hn]), ?_⟩
      walk_at "rd"
      exact k _ _ (Same.refl _)
    · walk_at "rd"
      refine ⟨_, _, rfl, ha, fun p hp => ?_⟩
      walk_at "rd"
      refine for_list (xs := cutV (is.map V.int) none (some 4)) (fun _ σ' H' => (H' p = some (.lst (cutV (is.map V.int) none (some 4))) ∧ Same H H') ∧ ∃ m c, σ' = [some (.ref a), some (.int j), some (.int m), c]) ⟨⟨upd_same, Same.newp hp⟩, _, _, rfl⟩ (fun i σ' H' _ h => SqL.of h.1.1) (fun i x σ' H' hx h => ?_) (fun σ' H' h => ?_)
      · obtain ⟨⟨h1, h2⟩, m, c, rfl⟩ := h
        obtain ⟨v, rfl⟩ := cut_int (List.mem_of_getElem? hx)
        walk_at "rd"
        exact ⟨_, _, rfl⟩
      · obtain ⟨⟨h1, h2⟩, m, c, rfl⟩ := h
        walk_at "rd"
        exact k _ _ h2
theorem cell_i {a : Addr} {is : List Int} {j : Int} {H : Hp} {Q : VK} {E : XK} (ha : SqL K H a (is.map V.int)) (h0 : 0 ≤ j) (h1 : j < 1000) (k : ∀ i H', Same H H' → Q (.int i) H') : sp_cell K [.ref a, .int j] H Q E := by
  unfold sp_cell
  exact ⟨_, _, rfl, a, is, j, rfl, rfl, ha, h0, h1, k⟩
theorem sql_same {H H' : Hp} {a : Addr} {xs : List V} (h : SqL K H a xs) (s : Same H H') : SqL K H' a xs := by
  rcases h with (h | ⟨ob, h⟩) | h
  · exact .inl (.inl (s _ _ h))
  · exact .inl (.inr ⟨ob, s _ _ h⟩)
  · exact .inr h
theorem kp_fresh {H1 H2 H3 : Hp} {p : Addr} (hp : H1 p = none) (s : Same H1 H2) (k : Kp p H2 H3) : Same H1 H3 := fun b o e => k b o (ne_of_none e hp) (s b o e)
theorem dp_str {H : Hp} {x y : Str} (e : x = y) : Dp K H (.str x) (.str y) := e ▸ .str x
theorem ne_fin {bs1 bs2 : List Bool} (e : bs1 = bs2) : (PyData.list (bs1.map PyData.bool)).shown = (PyData.list (bs2.map PyData.bool)).shown := congrArg (fun bs => (PyData.list (List.map PyData.bool bs)).shown) e
theorem lc_rangeS {a : Addr} {lo : Int} {n : Nat} {te : TE} {vs : List Nat} {σ : L2.St} {H1 : Hp} {D : Addr} {Qd : Hp → Prop} {m : Nat} (c : V) (hD : H1 D = none) (hs : Src H1 a) (hn : n < sizeLine)
    (step : ∀ (i : Nat) H, i < n → Src H a → ∀ R : V → Hp → Prop, (∀ H4, Src H4 a → Kp a H H4 → R c H4) → te (σ.set m (some (.int (lo + i)))) H R) (hd : ∀ H, Src H a → Kp a H1 H → H D = some (.lst (List.replicate n c)) → Qd H) (hv : vs = [m] := by rfl) :
    ∃ W : Nat → Nat → Hp → Prop, (∃ m, W 0 m (upd H1 D (.lst []))) ∧ ∀ i m' H, W i m' H →
      ((Itr lo n).stop i H ∧ Qd H) ∨ ((Itr lo n).go i H ∧ ∃ Nx : Hp → Prop, (∀ H', Nx H' → ∃ m'', m'' < m' ∧ W (i + 1) m'' H') ∧ ∀ x H', (Itr lo n).yld i H x H' → gName m x (wipe σ vs) H' fun σ2 H2 => wipe σ2 vs = wipe σ vs ∧ tYes σ2 H2 fun b H3 =>
        if b = true then te σ2 H3 fun y H4 => ∃ acc, H4 D = some (.lst acc) ∧ acc.length < sizeLine ∧ Nx (upd H4 D (.lst (acc ++ [y]))) else Nx H3) := by
  subst hv
  have da : D ≠ a := hs.ne hD
  refine lc_range (fun i H => Src H a ∧ Kp a H1 H ∧ H D = some (.lst (List.replicate i c))) ⟨hs.alc hD, Kp.new Kp.refl hD, upd_same⟩ (fun i H hi h => ?_) (fun H h => hd H h.1 h.2.1 h.2.2)
  obtain ⟨h1, h2, h3⟩ := h
  have gen : ∀ (v : V) (R : V → Hp → Prop) (N : Hp → Prop), te (σ.set m (some v)) H R → gName m v (wipe σ [m]) H fun σ2 H2 => wipe σ2 [m] = wipe σ [m] ∧ tYes σ2 H2 fun b H3 => if b = true then te σ2 H3 R else N H3 := by
    intro v R N h
    have e : (wipe σ [m]).set m (some v) = σ.set m (some v) := by
      show (σ.set m none).set m _ = _
      rw [List.set_set]
    show wipe ((wipe σ [m]).set m (some v)) [m] = wipe σ [m] ∧ (if true = true then te ((wipe σ [m]).set m (some v)) H R else N H)
    rw [e]
    refine ⟨?_, iteT h⟩
    show (σ.set m (some v)).set m none = σ.set m none
    rw [List.set_set]
  refine gen _ _ _ (step i H hi h1 _ fun H4 s4 k4 => ⟨_, k4 _ _ da h3, by simp; omega, ?_, fun b o n e1 => ?_, ?_⟩)
  · obtain ⟨st, gr, ct, e1, h⟩ := s4
    exact ⟨st, gr, ct, by rw [upd_ne da.symm]; exact e1, h⟩
  · have bD : b ≠ D := ne_of_none e1 hD
    rw [upd_ne bD]
    exact k4 _ _ n (h2 _ _ n e1)
  · rw [upd_same, List.replicate_succ']
theorem right_i {a : Addr} {H : Hp} {Q : VK} {E : XK} (hs : Src H a) (k : ∀ H', Src H' a → Kp a H H' → Q (.bl true) H') : sp_right [.ref a] H Q E := by
  unfold sp_right
  exact ⟨_, rfl, a, rfl, hs, k⟩
def sp_law (K : PySem.W.Frag) : Sp := Sp1 fun x H Q _ => ∃ a, ∃ is : List Int, x = .ref a ∧ SqL K H a (is.map V.int) ∧ ∀ H', Q (.bl true) H'
theorem sc_law : FnScope ["_law_cells", "_law_seen", "_law_k", "_law_source_here", "_law_turn"] ["_law_cells"] (defScope s_law) := ⟨rfl, rfl, rfl, by decide +kernel, rfl, by decide +kernel, by decide +kernel⟩
local macro_rules | `(tactic| walk_at "sp") => `(tactic| (first
  | refine repr_r (by walk_at "ra") (by decide +kernel) ?_
  | refine str_r (by walk_at "ra") (by decide +kernel) ?_
  | refine boolc_r (by walk_at "ra") ?_
  | refine eq_ri (by walk_at "ra") fun H' hs => ?_
  | refine eq_ro (by walk_at "ra") (odd_bl (by assumption) _) ?_
  | refine eq_or (by walk_at "ra") (odd_bl (by assumption) _) ?_))
theorem fn_law (T : Txt K mg) {fd : FuncData} (F : FnD K "law" "law" s_law [] (ga K "law") fd) : FnG P w K mg base 9 (ga K "law") fd ["_law_cells"] (sp_law K) := by
  have M_Ratio2 := mr2 (P := P) (w := w) (base := base) T
  have M_Ratio1 := mr1 (P := P) (w := w) (base := base) T
  have S_eq := ok_eq (P := P) (w := w) (base := base) T
  have S_bool := ok_bool (P := P) (w := w) (base := base) T
  have S_repr := ok_repr (P := P) (w := w) (base := base) T
  have S_str := ok_str (P := P) (w := w) (base := base) T
  have G_l_cell := ok_cell (P := P) (w := w) (base := base) T
  have G_l_source := ok_source (P := P) (w := w) (base := base) T
  have G_l_right := ok_right (P := P) (w := w) (base := base) T
  refine okG F sc_law (fun vs H Q E h => h.len) (fun cdv A outer s H vs Q E hG hr h => ?_)
  obtain ⟨x, rfl, a, is, rfl, ha, k⟩ := h
  have z1 : (-5 : Int) ≠ 0 := by decide
  have z2 : (-4 : Int) ≠ 0 := by decide
  have z3 : (1 : Int) ≠ 0 := by decide
  have z4 : (2 : Int) ≠ 0 := by decide
  have z5 : (-3 : Int) ≠ 0 := by decide
  have z6 : (7 : Int) ≠ 0 := by decide
  have y1 : (-5 : Int).natAbs.log2 < 9000 := by decide
  have y2 : (-4 : Int).natAbs.log2 < 9000 := by decide
  have y3 : (1 : Int).natAbs.log2 < 9000 := by decide
  have y4 : (2 : Int).natAbs.log2 < 9000 := by decide
  have y5 : (-3 : Int).natAbs.log2 < 9000 := by decide
  have y6 : (7 : Int).natAbs.log2 < 9000 := by decide
  refine ⟨_, (pss_cons (ps_set (i := 1) sc_law.nd rfl (Or.inl rfl) (pe_lst (pa_cons (pe_callB (call_reprO S_repr (hr.mono (by decide))) rfl T.f_repr (by decide +kernel) (pa_cons (pe_mkr M_Ratio2 hr (pa_cons pe_int (pa_cons (pe_un un_neg pe_int) pa_nil))) pa_nil)) (pa_cons (pe_callB (call_reprO S_repr (hr.mono (by decide))) rfl T.f_repr (by decide +kernel) (pa_cons (pe_mkr M_Ratio2 hr (pa_cons pe_int (pa_cons (pe_un un_neg pe_int) pa_nil))) pa_nil)) (pa_cons (pe_callB (call_reprO S_repr (hr.mono (by decide))) rfl T.f_repr (by decide +kernel) (pa_cons (pe_mkr M_Ratio1 hr (pa_cons (pe_un un_neg pe_int) pa_nil)) pa_nil)) (pa_cons (pe_callTy (call_strO S_str (hr.mono (by decide))) rfl T.f_str (by decide +kernel) (pa_cons (pe_mkr M_Ratio2 hr (pa_cons pe_int (pa_cons pe_int pa_nil))) pa_nil)) (pa_cons (pe_callTy (call_strO S_str (hr.mono (by decide))) rfl T.f_str (by decide +kernel) (pa_cons (pe_mkr M_Ratio2 hr (pa_cons (pe_un un_neg pe_int) (pa_cons (pe_un un_neg pe_int) pa_nil))) pa_nil)) pa_nil)))))))
      (pss_cons (ps_if (pt_cmpR (op_neD (hu64 hr)) (pv 1) (pe_lst (pa_cons pe_str (pa_cons pe_str (pa_cons pe_str (pa_cons pe_str (pa_cons pe_str pa_nil)))))) (nomark _)) (pss_one (ps_ret pe_bl)) pss_nil)
      (pss_cons (ps_if (pt_cmpR op_neS (pe_callB (call_reprL hG hr) rfl T.f_repr (by decide +kernel) (pa_cons (pe_lst (pa_cons (pe_callTy (call_boolO S_bool (hr.mono (by decide))) rfl T.f_bool (by decide +kernel) (pa_cons (pe_mkr M_Ratio2 hr (pa_cons pe_int (pa_cons pe_int pa_nil))) pa_nil)) (pa_cons (pe_cmpR (op_eqK (K0 := K) S_eq (hr.mono (by decide))) (pe_mkr M_Ratio1 hr (pa_cons pe_int pa_nil)) pe_bl (nomark _)) (pa_cons (pe_cmpR (op_eqK (K0 := K) S_eq (hr.mono (by decide))) pe_bl (pe_mkr M_Ratio1 hr (pa_cons pe_int pa_nil)) (nomark _)) (pa_cons (pe_cmpR (op_eqK (K0 := K) S_eq (hr.mono (by decide))) (pe_mkr M_Ratio1 hr (pa_cons pe_int pa_nil)) pe_bl (nomark _)) (pa_cons (pe_cmpR (op_eqK (K0 := K) S_eq (hr.mono (by decide))) (pe_mkr M_Ratio1 hr (pa_cons pe_int pa_nil)) pe_int (nomark _)) pa_nil)))))) pa_nil)) (pe_callB (call_reprL hG hr) rfl T.f_repr (by decide +kernel) (pa_cons (pe_lst (pa_cons pe_bl (pa_cons pe_bl (pa_cons pe_bl (pa_cons pe_bl (pa_cons pe_bl pa_nil)))))) pa_nil)) (nomark _)) (pss_one (ps_ret pe_bl)) pss_nil)
      (pss_cons (ps_for PassesOwn.never rfl (pi_range1 rfl T.f_range (pa_cons (pe_callB (call_max2 rfl) rfl T.f_max (by decide +kernel) (pa_cons pe_int (pa_cons (pe_callB (call_min2 rfl) rfl T.f_min (by decide +kernel) (pa_cons (pe_callB call_len_seq rfl T.f_len (by decide +kernel) (pa_cons (pv 0) pa_nil)) (pa_cons pe_int pa_nil))) pa_nil))) pa_nil)) (pg_name (i := 2) sc_law.nd rfl (Or.inl rfl)) (pss_cons (ps_set (i := 3) sc_law.nd rfl (Or.inr rfl) (pe_gd G_l_source hr (pa_cons (pe_gd G_l_cell hr (pa_cons (pv 0) (pa_cons (pv 2) pa_nil))) pa_nil)))
        (pss_one (ps_if (pt_not (pt_val (pe_callB (cr_all rfl) rfl T.f_all (by decide +kernel) (pa_cons (pe_lc (own := [("_law_turn", 4)]) (g := gName 4) (tt := tYes) rfl sc_law.nd (pi_range1 rfl T.f_range (pa_cons pe_int pa_nil)) (blkOk_by (own := [("_law_turn", 4)]) (N := ["_law_cells", "_law_seen", "_law_k", "_law_source_here", "_law_turn"]) (sc := defScope s_law) (by decide +kernel)) (fun _ _ _ _ _ => (pg_name (i := 4) sc_law.nd rfl (Or.inl rfl))) (fun _ _ _ _ _ => pts_nil) (fun _ _ _ _ _ => (pe_gg G_l_right hG hr (pa_cons (pv 3) pa_nil)))) pa_nil)))) (pss_one (ps_ret pe_bl)) pss_nil))))
      (pss_one (ps_ret pe_bl)))))), ?_⟩
  walk_at "rd"
  have q1 : rrep (rtop 0 (-5)) (rbot 0 (-5)) = "Ratio(0, 1)" := by decide +kernel
  have q2 : rrep (rtop 6 (-4)) (rbot 6 (-4)) = "Ratio(-3, 2)" := by decide +kernel
  have q3 : rrep (rtop (-3) 1) (rbot (-3) 1) = "Ratio(-3, 1)" := by decide +kernel
  have q4 : rstr (rtop 4 2) (rbot 4 2) = "2" := by decide +kernel
  have q5 : rstr (rtop (-1) (-3)) (rbot (-1) (-3)) = "1/3" := by decide +kernel
  refine ne_same (by walk_at "hp") (by walk_at "hp") (.cons (dp_str q1) (.cons (dp_str q2) (.cons (dp_str q3) (.cons (dp_str q4) (.cons (dp_str q5) .nil))))) (.cons (.str _) (.cons (.str _) (.cons (.str _) (.cons (.str _) (.cons (.str _) .nil))))) (by decide +kernel) ?_
  walk_at "rd"
  refine reprL_tb (by walk_at "hp") rfl (Nat.le_of_ble_eq_true rfl) ?_
  walk_at "rd"
  refine reprL_tb (by walk_at "hp") rfl (Nat.le_of_ble_eq_true rfl) ?_
  walk_at "rd"
  refine ⟨_, _, rfl, .inl (sql_same ha (by walk_at "sm")), ?_⟩
  walk_at "rd"
  rw [List.length_map]
  refine for_range (fun _ σ' H' => Same H H' ∧ ∃ u x y z, σ' = [some (.ref a), u, x, y, z]) ⟨by walk_at "sm", _, _, _, _, rfl⟩ (fun i σ' H0 hi h => ?_) (fun σ' H0 h => ?_)
  · obtain ⟨s0, u, x, y, z, rfl⟩ := h
    have hi8 : i < 8 := by
      revert hi
      generalize (is.length : Int) = L
      intro hi
      split at hi
      · split at hi <;> omega
      · omega
    walk_at "rd"
    refine cell_i (sql_same ha (by walk_at "sm")) (by omega) (by omega) fun c H1 s1 => ?_
    walk_at "rd"
    refine source_i fun q H2 hq hs2 s2 => ?_
    walk_at "rd"
    rename_i D hD
    refine lc_rangeS (V.bl true) hD hs2 (by decide) (fun i H hi hs R hR => ?_) (fun H3 hs3 k3 h3 => ?_)
    · walk_at "rd"
      exact right_i hs fun H' s' k' => hR H' s' k'
    · walk_at "rd"
      refine ⟨_, List.replicate 4 true, rfl, SqL.of h3, ?_⟩
      walk_at "rd"
      exact ⟨(s0.trans s1).trans (kp_fresh hq s2 k3), _, _, _, _, rfl⟩
  · walk_at "rd"
    exact k _
end
end K02
set_option Elab.async false
set_option linter.all false
set_option maxRecDepth 100000
set_option maxHeartbeats 400000

set_option maxHeartbeats 4000000
namespace K02
open PySem PySem.Spec PyProof.Rows L2 He Rt
theorem law_fact {P : Program} {w : World} {K : PySem.W.Frag} {mg : Str → Option Value} (T : Txt K mg) {fa : Addr} (hfa : mg ("law" : Str) = some (.ref fa)) :
    ∃ fd : FuncData, (∀ (s : Shared) (u : Value), BindsTo s fd ⟨[u], []⟩ [("_law_cells", u)]) ∧ ∀ base : Heap, FnG P w K mg base 9 fa fd ["_law_cells"] (sp_law K) := by
  have e := hfa.symm.trans T.g_law
  cases e
  obtain ⟨fd, F⟩ := T.F_law
  refine ⟨fd, fun s v => F.bindsA (ps := ["_law_cells"]) (fun _ _ _ _ _ _ us hl => match us, hl with | [_], _ => rfl) s [v] rfl, fun base => ?_⟩
  exact fn_law T F
end K02
open PySem PySem.W PySem.Calls PyProof.Rows
theorem PySem.Challenge.cw_seriesforms_k02_ratios_in_lowest_terms_holds : PySem.Challenge.rw_seriesforms_k02_ratios_in_lowest_terms.Holds := by
  w_on; o_law
  refine HandSHeadRun.head_any (r := OpenLaw.row PySem.Challenge.rw_seriesforms_k02_ratios_in_lowest_terms) (q := view (OpenLaw.row PySem.Challenge.rw_seriesforms_k02_ratios_in_lowest_terms).prog [27]) (H := K02.hk) (ob := K02.ob) (M := 4000) (loose := K02.loose) (d := HandSHeadRun.topDef (OpenLaw.row PySem.Challenge.rw_seriesforms_k02_ratios_in_lowest_terms).prog 27) (kwd := []) K02.ob_eq
    (by kernel_rfl) (fun s => by kernel_rfl) K02.run (by kernel_rfl) (by kernel_rfl) (by kernel_rfl) (by rfl) (by first | assumption | decide +kernel) (by decide +kernel) ⟨rfl, rfl, rfl, rfl, rfl, by decide +kernel⟩ ?hw ?hc
  case hw => w_witness2
  case hc =>
    refine Rt.walk_ofG (l := PySem.Challenge.rw_seriesforms_k02_ratios_in_lowest_terms) (n := 63) (k := 9) (x := "_law_cells") rfl (by decide) (by kernel_rfl) ⟨rfl, by decide, by decide⟩ ?F
    intro w mg fa h Y G hmg0
    obtain ⟨K, KX, c⟩ := Y
    have hmg : mg ("law" : PySem.Str) = some (.ref fa) := by
      have e : (HandSHeadRun.topDef (OpenLaw.row PySem.Challenge.rw_seriesforms_k02_ratios_in_lowest_terms).prog 27).name = ("law" : PySem.Str) := by kernel_rfl
      rw [← e]
      exact hmg0
    obtain ⟨fd, hb, hF⟩ := K02.law_fact (P := (PySem.Challenge.rw_seriesforms_k02_ratios_in_lowest_terms).prog) (w := w) (K02.txt_of KX G c) hmg
    exact ⟨K, fd, K02.sp_law K, KX, hb, fun H a ns _ hS => ⟨_, rfl, a, ns, rfl, hS, fun _ => rfl⟩, hF⟩
