import PyProof.Rows.All
import Wide.All
import OpenK.AllK
import Wide.FinOn
import HandS.ForMost
import HandS.Star
import HandS.HeadEnd
import HandS.Defaults
import KE.KStateDown
import HandS.Base
import HandS.Call
import HandS.HeadHook1
import HandS.HeadHook2
import KE.KSuper
import HandS.IsInst
import HandS.More
import HandS.Wide
import HandS.Style
import HandS.FStr
import HandS.Conv
import HandS.MakeKwOnly
import HandS.Zip
import PyProof.ReprLen
import KE.DataEq
import HandS.Ends
import PySem.Challenge.RW_strayfiles_k77_cares_made
import KE.DataCmp
import HandS.Head0
import HandS.Head1
import HandS.Head2
set_option Elab.async false
set_option linter.all false
set_option maxRecDepth 100000
set_option maxHeartbeats 0
namespace Gd
open L2 PyProof.Rows PySem.Spec PySem
/-- room for k calls, nothing is handled, and no repr is under way -/
structure Rm (k : Nat) (A : Around) : Prop where
  r : Room k A
  g : A.guards = some []
theorem Rm.mono {j k : Nat} {A : Around} (h : Rm k A) (hj : j ≤ k) : Rm j A := { r := h.r.mono hj, g := h.g }
theorem Rm.deeper {k : Nat} {A : Around} (h : Rm (k + 1) A) (env : Env) : Rm k (A.deeper env) := { r := h.r.deeper env, g := h.g }
theorem Rm.in1 {k : Nat} {A : Around} (h : Rm (k + 1) A) : Rm k A.in1 := { r := h.r.in1, g := h.g }
theorem noGuard_type (args : Args) : (Code.builtin "type.__call__" args).guards = [] := by
  unfold Code.guards
  rw [if_neg]
  show ¬ (guardIds.contains "type.__call__" = true)
  decide +kernel
theorem Rm.make {k : Nat} {A : Around} (h : Rm (k + 1) A) (C : Addr) (us : List Value) (kw : List (Str × Value)) :
    Rm k (A.under (.builtin "type.__call__" ⟨.ref C :: us, kw⟩)) := by
  refine { r := h.r.make C us kw, g := ?_ }
  show pushGuards (Code.builtin "type.__call__" ⟨.ref C :: us, kw⟩).guards A.guards = some []
  rw [noGuard_type, pushGuards_eq, h.g]
  rfl
/-- what a def does, told of its raw arguments: positional values, and values of the keywords ks -/
abbrev SpA := List V → List V → Hp → VK → XK → Prop
section
variable (P : Program) (w : World) (K : PySem.W.Frag) (mg : Str → Option Value) (base : Heap) (CX : CXT)
def FnA (k : Nat) (f : Addr) (ks : List Str) (sp : SpA) : Prop :=
  ∀ (A : Around) (outer : List Env) (s : Shared) (H : Hp) (us ws : List Value) (vs zs : List V) (Q : VK) (E : XK),
    Rm k A → Env0 P w K mg base A outer s H → Vals vs us → Vals zs ws → sp vs zs H Q E →
    codeAny (model P w) A (.call (.ref f) ⟨us, ks.zip ws⟩) (CR CX outer P w H s Q E) s
/-- the same of the bound parameters, however the arguments came to them -/
def FnB (k : Nat) (f : Addr) (fd : FuncData) (ps : List Str) (sp : Sp) : Prop :=
  ∀ (A : Around) (outer : List Env) (s : Shared) (H : Hp) (args : Args) (Q : VK) (E : XK) (G : List V → Hp → Prop),
    Rm k A → Env0 P w K mg base A outer s H → StX.Bnd CX P w K mg base fd args ps A outer s H E G → (∀ vs H2, G vs H2 → sp vs H2 Q E) →
    codeAny (model P w) A (.call (.ref f) args) (CR CX outer P w H s Q E) s
end
section
variable {P : Program} {w : World} {K : PySem.W.Frag} {mg : Str → Option Value} {base : Heap} {CX : CXT} {k j : Nat} {f : Addr} {fd : FuncData} {ps ks : List Str}
theorem FnA.mono {sp : SpA} (F : FnA P w K mg base CX j f ks sp) (h : j ≤ k) : FnA P w K mg base CX k f ks sp :=
  fun A outer s H us ws vs zs Q E hr => F A outer s H us ws vs zs Q E (hr.mono h)
theorem FnA.imp {sp sp' : SpA} (F : FnA P w K mg base CX k f ks sp) (h : ∀ vs zs H Q E, sp' vs zs H Q E → sp vs zs H Q E) : FnA P w K mg base CX k f ks sp' :=
  fun A outer s H us ws vs zs Q E hr e0 r1 r2 hs => F A outer s H us ws vs zs Q E hr e0 r1 r2 (h _ _ _ _ _ hs)
/-- from the bound parameters to the raw arguments -/
theorem FnB.to {sp : Sp} {spA : SpA} (F : FnB P w K mg base CX k f fd ps sp)
    (hb : ∀ (A : Around) (outer : List Env) (s : Shared) (H : Hp) (us ws : List Value) (vs zs : List V) (Q : VK) (E : XK), Env0 P w K mg base A outer s H → Vals vs us → Vals zs ws → spA vs zs H Q E →
      StX.Bnd CX P w K mg base fd ⟨us, ks.zip ws⟩ ps A outer s H E (fun xs H2 => sp xs H2 Q E)) : FnA P w K mg base CX k f ks spA :=
  fun A outer s H us ws vs zs Q E hr e0 r1 r2 hs => F A outer s H _ Q E _ hr e0 (hb A outer s H us ws vs zs Q E e0 r1 r2 hs) fun _ _ q => q
/-- arguments that bind without making anything -/
theorem bnd_of {args : Args} {A : Around} {outer : List Env} {s : Shared} {H : Hp} {E : XK} {G : List V → Hp → Prop} {us : List Value} {vs : List V} (e0 : Env0 P w K mg base A outer s H)
    (hb : BindsTo s fd args (ps.zip us)) (r : Vals vs us) (hl : vs.length = ps.length) (g : G vs H) : StX.Bnd CX P w K mg base fd args ps A outer s H E G :=
  fun A' Ex Q h => hb _ _ _ _ (h s H vs us e0 Un.refl rfl (fun _ _ z => z) r hl g)
theorem FnB.pos {sp : Sp} (F : FnB P w K mg base CX k f fd ps sp) (hb : Binds K fd ps []) (hl : ∀ vs H Q E, sp vs H Q E → vs.length = ps.length) :
    FnA P w K mg base CX k f [] (fun vs zs H Q E => zs = [] ∧ sp vs H Q E) := by
  refine F.to fun A outer s H us ws vs zs Q E e0 r1 r2 hs => ?_
  obtain ⟨ez, hs⟩ := hs
  subst ez
  cases r2
  have l1 := hl _ _ _ _ hs
  have l2 := r1.length
  have KX : K.In s.heap := e0.mod.kin.keeps fun b o e => (e0.bs b o e).1
  have b := hb s us KX (by rw [List.append_nil, ← l2]; exact l1)
  rw [List.append_nil] at b
  exact bnd_of e0 b r1 l1 hs
end
/-! ### a def's body -/
section
variable {P : Program} {w : World} {K : PySem.W.Frag} {mg : Str → Option Value} {base : Heap} {CX : CXT} {k : Nat} {f : Addr} {name qual : Str} {params : Arguments} {body : List Stmt} {scope : Scope} {dV kV doc pm cdv ct oc : Value} {an od : Option Addr}
  {osl : Array (Option Value)} {N ps : List Str} {sp : Sp}
theorem fnB_of (lk : K.lookup f = some ⟨oc, od, .func (PySem.W.fnOf name qual params body scope dV kV doc pm an cdv ct), osl⟩) (hcd : PySem.W.codeIn K cdv qual = true) (S : FnScope N ps scope)
    (hbody : ∀ (A : Around) (outer : List Env) (s : Shared) (H : Hp) (vs : List V) (Q : VK) (E : XK), Rm k (A.deeper (envOfC qual scope s.heap.objs.size f cdv)) → sp vs H Q E →
      ∃ t, PSs (cxOf CX P w K mg base N qual scope f cdv A outer s H E) body t ∧ t { nx := fun _ H' => Q .non H', rt := Q } (start N vs) H) :
    FnB P w K mg base CX (k + 1) f (PySem.W.fnOf name qual params body scope dV kV doc pm an cdv ct) ps sp := by
  intro A outer s H args Q E G hr e0 hb hG
  exact StX.run_bnd lk hcd S hr.r e0 hb fun s2 H2 vs g hr2 => hbody A outer s2 H2 vs Q E (hr.deeper _) (hG vs H2 g)
end
section
variable {P : Program} {w : World} {K : PySem.W.Frag} {mg : Str → Option Value} {base : Heap} {x qual : Str} {params : Arguments} {body : List Stmt} {scope : Scope} {dvs : List V} {kws : List (Str × V)} {f : Addr} {fd : FuncData}
theorem okB {CX : CXT} {N ps : List Str} {k : Nat} {sp : Sp} (F : FunD K x qual params body scope dvs kws f fd) (S : FnScope N ps scope)
    (hbody : ∀ (cdv : Value) (A : Around) (outer : List Env) (s : Shared) (H : Hp) (vs : List V) (Q : VK) (E : XK), Rm k (A.deeper (envOfC qual scope s.heap.objs.size f cdv)) → sp vs H Q E →
      ∃ t, PSs (cxOf CX P w K mg base N qual scope f cdv A outer s H E) body t ∧ t { nx := fun _ H' => Q .non H', rt := Q } (start N vs) H) : FnB P w K mg base CX (k + 1) f fd ps sp := by
  obtain ⟨oc, od, dV, kV, doc, pm, an, cdv, ct, osl, rfl, lk, hcd, _, _⟩ := F.ex
  exact fnB_of lk hcd S fun A outer s H vs Q E hr hsp => hbody cdv A outer s H vs Q E hr hsp
end
/-! ### calls -/
section
variable {X : Cx} {CX : CXT} {k : Nat} {f C : Addr} {sp : SpA} {E : XK} {ks : List Str} {pins : List (Addr × Obj)} {σ : L2.St} {H : Hp} {s : Shared} {Q : VK} {us ws : List Value} {vs zs : List V}
/-- behind a callee's end -/
theorem back (hx : Passes CX X E) (I : Inv X pins σ H s) {r : Result} {s' : Shared} (hq : CR CX X.stack X.prog X.w H s Q E r s') : wants (EP X pins σ Q) X.xe r s' := by
  cases r with
  | error e => exact hx pins σ H s e s' I hq
  | ok fl =>
    cases fl with
    | ret u => exact I.after hq
    | next => exact False.elim hq
    | brk => exact False.elim hq
    | cont => exact False.elim hq
theorem run_A (F : FnA X.prog X.w X.K X.mg X.base CX k f ks sp) (hr : Rm k X.A) (hx : Passes CX X E) (I : Inv X pins σ H s) (r : Vals vs us) (r' : Vals zs ws) (h : sp vs zs H Q E) :
    wpAny (model X.prog X.w) X.A (call (.ref f) us (ks.zip ws)) (EP X pins σ Q) X.xe s :=
  wpAny_call (codeAny_mono (F X.A X.stack s H us ws vs zs Q E hr I.env0 r r' h) fun _ _ hq => back hx I hq)
/-- C(..), C's __init__ at f -/
theorem run_mkA (M : Mk X.K C f) (F : FnA X.prog X.w X.K X.mg X.base CX k f ks sp) (hr : Rm (k + 1) X.A) (hx : Passes CX X E) (I : Inv X pins σ H s) (r : Vals vs us) (r' : Vals zs ws)
    (h : ∀ x dx, H x = none → H dx = none → dx ≠ x → sp (.ref x :: vs) zs (upd (upd H dx (.own x)) x (.ins C dx [])) (fun v H2 => v = .non ∧ Q (.ref x) H2) E) :
    wpAny (model X.prog X.w) X.A (call (.ref C) us (ks.zip ws)) (EP X pins σ Q) X.xe s := by
  have f1 : H (s.heap.objs.size + 1) = none := I.hok.fresh (Nat.le_succ _)
  have f2 : H s.heap.objs.size = none := I.hok.fresh (Nat.le_refl _)
  have hq := h _ _ f1 f2 (Nat.ne_of_lt (Nat.lt_succ_self _))
  have J := Inv.made (C := C) I
  have rs : Vals (V.ref (s.heap.objs.size + 1) :: vs) (Value.ref (s.heap.objs.size + 1) :: us) := .cons rfl r
  have go := F _ X.stack _ _ _ ws _ zs _ E (hr.make C us (ks.zip ws)) (J.env0.make C us (ks.zip ws)) rs r' hq
  refine wpAny_call (make_map (f := f) I.kIn M.makes M.init (beq_iff_eq.mp M.fn) (codeAny_mono go fun r s' hb => ?_))
  cases r with
  | error e => exact hx pins σ _ _ e s' J hb
  | ok fl =>
    cases fl with
    | ret u =>
      obtain ⟨v, H', I3, rv, ev, q3⟩ := J.after hb
      subst ev
      exact ⟨rv, V.ref (s.heap.objs.size + 1), H', I3, rfl, q3⟩
    | next => exact False.elim hb
    | brk => exact False.elim hb
    | cont => exact False.elim hb
end
section
variable {X : Cx} {CX : CXT} {k : Nat} {f C : Addr} {sp : SpA} {E : XK} {x m : Str} {p pos apos : Pos} {e o : Expr} {es : List Expr} {ta : TE} {t : TA}
def tCl (sp : SpA) (E : XK) (t : TA) : TE := fun σ H Q => t σ H fun vs H1 => sp vs [] H1 Q E
theorem pe_cl (F : FnA X.prog X.w X.K X.mg X.base CX k f [] sp) (hr : Rm k X.A) (hg : Gl X x) (hm : X.mg x = some (.ref f)) (hk : PySem.W.keepIn X.K (.ref f) = true) (hx : Passes CX X E)
    (ha : PA X (e :: es) t) (hdb : (x == ("__debug__" : Str)) = false := by decide) (he : starEach (e :: es) X.env = (false, eval e X.env) :: starEach es X.env := by rfl) (hpl : (backTo pos (starEach es X.env)).any (·.1) = false := by rfl) :
    PE X (.Call (.Name x p) (e :: es) [] pos) (tCl sp E t) := by
  constructor
  intro pins s σ H Q I h
  refine wpAny_Call_Name_kw (ld_glob I hg hm ?_ hdb)
  refine PySem.W.callWith_K (h₀ := X.base) I.ok.mod.kin hk (thn (ha.run pos pins s σ H _ I h) ?_) he hpl
  rintro us s1 ⟨vs, H1, I1, r, q⟩
  exact ⟨I1.kIn, run_A (ws := []) F hr hx I1 r .nil q⟩
def tMk (C : Addr) (sp : SpA) (E : XK) (t : TA) : TE := fun σ H Q => t σ H fun vs H1 => ∀ x dx, H1 x = none → H1 dx = none → dx ≠ x →
  sp (.ref x :: vs) [] (upd (upd H1 dx (.own x)) x (.ins C dx [])) (fun v H2 => v = .non ∧ Q (.ref x) H2) E
theorem pe_mk (M : Mk X.K C f) (F : FnA X.prog X.w X.K X.mg X.base CX k f [] sp) (hr : Rm (k + 1) X.A) (hg : Gl X x) (hm : X.mg x = some (.ref C)) (hx : Passes CX X E)
    (ha : PA X (e :: es) t) (hdb : (x == ("__debug__" : Str)) = false := by decide) (he : starEach (e :: es) X.env = (false, eval e X.env) :: starEach es X.env := by rfl) (hpl : (backTo pos (starEach es X.env)).any (·.1) = false := by rfl) :
    PE X (.Call (.Name x p) (e :: es) [] pos) (tMk C sp E t) := by
  constructor
  intro pins s σ H Q I h
  refine wpAny_Call_Name_kw (ld_glob I hg hm ?_ hdb)
  refine PySem.W.callWith_K (h₀ := X.base) I.ok.mod.kin M.kp (thn (ha.run pos pins s σ H _ I h) ?_) he hpl
  rintro us s1 ⟨vs, H1, I1, r, q⟩
  exact ⟨I1.kIn, run_mkA (ws := []) M F hr hx I1 r .nil q⟩
end
end Gd

namespace Gd
open L2 PyProof.Rows PySem.Spec PySem
/-! ### the head's facts: any Bool of the written part; defs that may hold the cell of their class -/
/-- a def of the text with its closure cl -/
structure FunX (K : PySem.W.Frag) (x qual : Str) (params : Arguments) (body : List Stmt) (scope : Scope) (cl : List (Str × Addr)) (dvs : List V) (kws : List (Str × V)) (f : Addr) (fd : FuncData) : Prop where
  ex : ∃ (oc : Value) (od : Option Addr) (dV kV doc pm : Value) (an : Option Addr) (cdv ct : Value) (osl : Array (Option Value)),
    fd = PySem.W.fnX x qual params body scope cl dV kV doc pm an cdv ct ∧ K.lookup f = some ⟨oc, od, .func fd, osl⟩ ∧ PySem.W.codeIn K cdv qual = true ∧ DflV K dV dvs ∧ KwdV K kV kws
  kp : PySem.W.keepIn K (.ref f) = true
theorem FunX.plain {K : PySem.W.Frag} {x qual : Str} {params : Arguments} {body : List Stmt} {scope : Scope} {dvs : List V} {kws : List (Str × V)} {f : Addr} {fd : FuncData} (F : FunX K x qual params body scope [] dvs kws f fd) :
    FunD K x qual params body scope dvs kws f fd := { ex := F.ex, kp := F.kp }
/-- one def of the text; inC: the class whose cell it holds, by the module's name -/
structure DefX where
  d : He.DefD
  inC : Option Str := none
abbrev FnY : Type := Option (Str × Str × Arguments × FuncBody × Scope × Addr × List Str × Addr)
def fnY (K : PySem.W.Frag) (p : Str × Option Str) : FnY := match K.lookup (He.fAd K p) with
  | some ⟨_, _, .func fd, _⟩ => some (fd.name, fd.qualname, fd.params, fd.body, fd.scope, fd.globals, fd.closure.map (·.1), fd.builtins)
  | _ => none
def DefX.names (x : DefX) : List Str := match x.inC with
  | none => []
  | some _ => ["__class__"]
def DefX.val (x : DefX) : FnY := some (x.d.name, x.d.qual, x.d.params, .stmts x.d.body, x.d.scope, mainGlobals, x.names, builtinsNs)
/-- the cell's content -/
def cellB (K : PySem.W.Frag) (C : Str) (cl : List (Str × Addr)) : Bool := match cl with
  | [(_, cc)] => (match K.lookup cc with
    | some ⟨_, _, .cell (some (.ref D)), _⟩ => decide (D = He.ga K C)
    | _ => false)
  | _ => false
def DefX.cellOk (K : PySem.W.Frag) (x : DefX) (cl : List (Str × Addr)) : Bool := match x.inC with
  | none => true
  | some C => cellB K C cl
def DefX.ok (K : PySem.W.Frag) (x : DefX) : Bool := PySem.W.keepIn K (.ref (He.fAd K x.d.at_)) && (match K.lookup (He.fAd K x.d.at_) with
  | some ⟨_, _, .func fd, _⟩ => PySem.W.codeIn K fd.code x.d.qual && (He.dflB K fd.defaults (x.d.dvs K) && (He.kwdB K fd.kwdefaults (x.d.kws K) && x.cellOk K fd.closure))
  | _ => false)
theorem DefX.fun_ {K : PySem.W.Frag} {x : DefX} (e : fnY K x.d.at_ = x.val) (c : x.ok K = true) :
    ∃ fd cl, FunX K x.d.name x.d.qual x.d.params x.d.body x.d.scope cl (x.d.dvs K) (x.d.kws K) (He.fAd K x.d.at_) fd ∧ cl.map (·.1) = x.names ∧ x.cellOk K cl = true := by
  obtain ⟨kp, c2⟩ := He.ba c
  unfold fnY at e
  cases q : K.lookup (He.fAd K x.d.at_) with
  | none =>
    rw [q] at c2
    cases c2
  | some o =>
    obtain ⟨oc, od, dt, osl⟩ := o
    rw [q] at c2 e
    cases dt with
    | func fd =>
      obtain ⟨n1, n2, n3, n4, n5, n6, n7, n8, n9, n10, n11, n12, n13, n14, n15⟩ := fd
      have e2 : (some (n1, n2, n3, n4, n5, n6, n7.map (·.1), n15) : FnY) = some (x.d.name, x.d.qual, x.d.params, .stmts x.d.body, x.d.scope, mainGlobals, x.names, builtinsNs) := e
      simp only [Option.some.injEq, Prod.mk.injEq] at e2
      obtain ⟨h1, h2, h3, h4, h5, h6, h7, h8⟩ := e2
      subst h1 h2 h3 h4 h5 h6 h8
      obtain ⟨k1, k2⟩ := He.ba c2
      obtain ⟨k3, k4⟩ := He.ba k2
      obtain ⟨k5, k6⟩ := He.ba k4
      exact ⟨_, n7, { ex := ⟨oc, od, n8, n9, n10, n11, n12, n13, n14, osl, rfl, q, k1, He.dflB_ok k3, He.kwdB_ok k5⟩, kp := kp }, h7, k6⟩
    | _ => cases c2
/-- what the text has at the start: the module's names, the statics -/
def roots : Nat → (Addr → Option Obj) → List Addr
  | 0, _ => [mainGlobals, cStatics]
  | n + 1, g => He.growD g (roots n g)
abbrev Fact : Type := PySem.W.Frag → Bool
abbrev AlX : Type := Bool × List FnY
def obsX (fa : List Fact) (fn : List DefX) (K : PySem.W.Frag) : AlX := ((fa.all fun f => f K) && fn.all fun d => d.ok K, fn.map fun x => fnY K x.d.at_)
def valX (fn : List DefX) : AlX := (true, fn.map DefX.val)
def SaysX (fa : List Fact) (fn : List DefX) (K : PySem.W.Frag) : Prop := obsX fa fn K = valX fn
def lookX (n : Nat) (fa : List Fact) (fn : List DefX) (g : Addr → Option Obj) : AlX := obsX fa fn (He.frG g (roots n g))
def hookX (n : Nat) (fa : List Fact) (fn : List DefX) : PySem.W.Hook where
  α := AlX
  obs := fun s => lookX n fa fn s.heap.get?
  val := fun _ => valX fn
  says := fun _ h => ∃ K : PySem.W.Frag, K.In h ∧ SaysX fa fn K
  of := fun _ _ e => ⟨_, He.frG_in, e⟩
  keeps := fun _ _ _ ⟨K, hK, c⟩ k => ⟨K, PySem.W.Frag.In.keeps hK k, c⟩
theorem lookX_eq {n : Nat} {fa : List Fact} {fn : List DefX} {g : Addr → Option Obj} {s : Shared} (h : ∀ a, g a = s.heap.get? a) : lookX n fa fn g = (hookX n fa fn).obs s := by
  have e : g = s.heap.get? := funext h
  rw [e]
  rfl
section
variable {fa : List Fact} {fn : List DefX} {K : PySem.W.Frag}
theorem SaysX.fact (c : SaysX fa fn K) (i : Nat) {f : Fact} (h : fa[i]? = some f := by rfl) : f K = true := by
  have c0 : ((fa.all fun f => f K) && fn.all fun d => d.ok K) = true := congrArg (fun z : AlX => z.1) c
  exact List.all_eq_true.mp (He.ba c0).1 f (List.mem_of_getElem? h)
theorem SaysX.def_ (c : SaysX fa fn K) (i : Nat) {x : DefX} (h : fn[i]? = some x := by rfl) :
    ∃ fd cl, FunX K x.d.name x.d.qual x.d.params x.d.body x.d.scope cl (x.d.dvs K) (x.d.kws K) (He.fAd K x.d.at_) fd ∧ cl.map (·.1) = x.names ∧ x.cellOk K cl = true := by
  have c0 : ((fa.all fun f => f K) && fn.all fun d => d.ok K) = true := congrArg (fun z : AlX => z.1) c
  have e : fn.map (fun x => fnY K x.d.at_) = fn.map DefX.val := congrArg (fun z : AlX => z.2) c
  have e2 : (fn.map fun x => fnY K x.d.at_)[i]? = (fn.map DefX.val)[i]? := by rw [e]
  rw [List.getElem?_map, List.getElem?_map, h] at e2
  exact DefX.fun_ (Option.some.inj e2) (List.all_eq_true.mp (He.ba c0).2 x (List.mem_of_getElem? h))
/-- a def without a class's cell -/
theorem SaysX.plain (c : SaysX fa fn K) (i : Nat) {x : DefX} (h : fn[i]? = some x := by rfl) (hn : x.inC = none := by rfl) :
    ∃ fd, FunD K x.d.name x.d.qual x.d.params x.d.body x.d.scope (x.d.dvs K) (x.d.kws K) (He.fAd K x.d.at_) fd := by
  obtain ⟨fd, cl, F, e, _⟩ := c.def_ i h
  have e1 : x.names = [] := by
    unfold DefX.names
    rw [hn]
  rw [e1] at e
  have e2 : cl = [] := List.map_eq_nil_iff.mp e
  subst e2
  exact ⟨fd, F.plain⟩
/-- a def that holds its class's cell -/
theorem SaysX.inCls (c : SaysX fa fn K) (i : Nat) {x : DefX} {C : Str} (h : fn[i]? = some x := by rfl) (hn : x.inC = some C := by rfl) :
    ∃ fd cc cl0 cd0 sl0, FunX K x.d.name x.d.qual x.d.params x.d.body x.d.scope [("__class__", cc)] (x.d.dvs K) (x.d.kws K) (He.fAd K x.d.at_) fd ∧ K.lookup cc = some ⟨cl0, cd0, .cell (some (.ref (He.ga K C))), sl0⟩ := by
  obtain ⟨fd, cl, F, e, q⟩ := c.def_ i h
  have e1 : x.names = (["__class__"] : List Str) := by
    unfold DefX.names
    rw [hn]
  rw [e1] at e
  unfold DefX.cellOk at q
  rw [hn] at q
  cases cl with
  | nil => cases congrArg List.length e
  | cons a r =>
    cases r with
    | cons a2 r2 => cases congrArg List.length e
    | nil =>
      obtain ⟨n, cc⟩ := a
      have en : n = "__class__" := (List.cons.inj e).1
      subst en
      have q2 : (match K.lookup cc with
        | some ⟨_, _, .cell (some (.ref D)), _⟩ => decide (D = He.ga K C)
        | _ => false) = true := q
      split at q2
      · rename_i a1 a2 D a3 e3
        have eD : D = He.ga K C := of_decide_eq_true q2
        subst eD
        exact ⟨fd, cc, _, _, _, F, e3⟩
      · cases q2
end
/-! ### some facts -/
def fGlo (x : Str) : Fact := fun K => (He.Fa.glo x).ok K
def fFree (x : Str) : Fact := fun K => (He.Fa.free x).ok K
def fCls (x : Str) : Fact := fun K => (He.Fa.cls x).ok K
def fNoat (x f : Str) : Fact := fun K => (He.Fa.noat x f).ok K
def fMeth (x m : Str) : Fact := fun K => (He.Fa.meth x m).ok K
def fMkr (x : Str) : Fact := fun K => (He.Fa.mkr x).ok K
def fKeep (x : Str) : Fact := fun K => (He.Fa.keep x).ok K
end Gd

namespace Gd
open L2 PyProof.Rows PySem.Spec PySem
/-! ### defs that say super(): the body at its own level -/
structure SupScope (N P : List Str) (sc : Scope) : Prop where
  kind : sc.kind = .function
  co : sc.isCoroutine = false
  gen : sc.isGenerator = false
  nd : N.Nodup
  pre : N.take P.length = P
  par : ∀ x ∈ P, sc.names.lookup x = some .local
  nocell : ∀ y ∈ sc.names, y.2 ≠ .cell
  free : ∀ y ∈ sc.names, y.2 = .free → y.1 = "__class__"
abbrev envS (qual : Str) (scope : Scope) (L f : Addr) (cdv : Value) (cc : Addr) : Env := PySem.W.envX qual scope L f cdv [("__class__", cc)]
def cxS (CX : CXT) (P : Program) (w : World) (K : PySem.W.Frag) (mg : Str → Option Value) (base : Heap) (N : List Str) (qual : Str) (scope : Scope) (f : Addr) (cdv : Value) (cc : Addr) (A : Around) (outer : List Env) (s : Shared) (H : Hp) (E : XK) : Cx where
  prog := P
  w := w
  K := K
  mg := mg
  base := base
  N := N
  s_0 := s
  H_0 := H
  outer := outer
  ex := []
  calm := true
  pn := []
  fn := fun _ => false
  env := envS qual scope s.heap.objs.size f cdv cc
  A := A.deeper (envS qual scope s.heap.objs.size f cdv cc)
  stack := envS qual scope s.heap.objs.size f cdv cc :: outer
  xe := fun e s' => wpAny (model P w) (A.deeper (envS qual scope s.heap.objs.size f cdv cc)) (leaving (envS qual scope s.heap.objs.size f cdv cc) e)
    (fun _ s'' => CX outer H s E e s'') (fun e' s'' => CX outer H s E e' s'') s'
theorem lookup_nodup : ∀ {l : List (Str × Value)} {x : Str} {u : Value}, (l.map (·.1)).Nodup → (x, u) ∈ l → l.lookup x = some u
  | [], _, _, _, h => by cases h
  | (y, v) :: r, x, u, nd, h => by
    rw [List.map_cons, List.nodup_cons] at nd
    rw [List.lookup_cons]
    rcases List.mem_cons.mp h with e | h
    · cases e
      simp
    · have ne : (x == y) = false := by
        refine beq_eq_false_iff_ne.mpr fun e => nd.1 ?_
        rw [← e]
        exact List.mem_map.mpr ⟨_, h, rfl⟩
      rw [ne]
      exact lookup_nodup nd.2 h
theorem mem_zip_at : ∀ {P : List Str} {us : List Value} {i : Nat} {x : Str} {u : Value}, P[i]? = some x → us[i]? = some u → (x, u) ∈ P.zip us
  | [], _, _, _, _, h, _ => by simp at h
  | _ :: _, [], _, _, _, _, h => by simp at h
  | p :: P, v :: us, 0, x, u, h1, h2 => by
    simp at h1 h2
    subst h1 h2
    exact List.mem_cons_self
  | p :: P, v :: us, i + 1, x, u, h1, h2 => List.mem_cons_of_mem _ (mem_zip_at (i := i) (by simpa using h1) (by simpa using h2))
theorem zip_keys : ∀ {P : List Str} {us : List Value}, P.length = us.length → (P.zip us).map (·.1) = P
  | [], _, _ => rfl
  | _ :: _, [], h => by cases h
  | p :: P, v :: us, h => by
    show p :: (P.zip us).map (·.1) = p :: P
    rw [zip_keys (Nat.succ.inj h)]
section
variable {CX : CXT} {P : Program} {w : World} {K : PySem.W.Frag} {mg : Str → Option Value} {base : Heap} {N ps : List Str} {qual : Str} {scope : Scope} {f cc : Addr} {cdv : Value} {A : Around} {outer : List Env} {s : Shared} {H : Hp} {E : XK}
  {us : List Value} {vs : List V} {cl : Value} {cd : Option Addr} {csl : Array (Option Value)} {cv : Option Value}
theorem inv_startS (S : SupScope N ps scope) (hd : A.handled = none) (e0 : Env0 P w K mg base A outer s H) (hcc : K.lookup cc = some ⟨cl, cd, .cell cv, csl⟩) (hl : vs.length = ps.length) (r : Vals vs us) {h1 : Heap} {tk : Nat}
    (ns : h1.Ns s.heap.objs.size (fun x => (ps.zip us).reverse.lookup x)) (hk : ∀ b o, s.heap.get? b = some o → h1.get? b = some o) :
    Inv (cxS CX P w K mg base N qual scope f cdv cc A outer s H E) [] (L2.start N vs) H { s with heap := h1, toks := tk } := by
  have hpl : ps.length ≤ N.length := by
    have := congrArg List.length S.pre
    rw [List.length_take] at this
    omega
  have hcb : s.heap.get? cc = some ⟨cl, cd, .cell cv, csl⟩ ∧ H cc = none := e0.bs _ _ (e0.mod.kin _ _ hcc)
  have one : ∀ {y : Str} {c : Addr}, ([("__class__", cc)] : List (Str × Addr)).lookup y = some c → y = "__class__" ∧ c = cc := fun {y c} e => by
    rw [List.lookup_cons] at e
    split at e
    · rename_i q
      exact ⟨eq_of_beq q, (Option.some.inj e).symm⟩
    · cases e
  have noA : ∀ b : Addr, b ∈ (cxS CX P w K mg base N qual scope f cdv cc A outer s H E).ex → False := fun b z => by cases z
  refine
    { ok :=
        { mod := e0.mod, kind := S.kind, glob := rfl, blt := rfl, above := Nat.le_refl _
          inj := fun x y c h1 h2 => (one h1).1.trans (one h2).1.symm
          has := fun x hx => ?_
          cab := fun x c h _ => by cases h
          hd := fun _ => hd, frames := Around.frames_deeper e0.frames, stk := .inr ⟨rfl, rfl⟩
          exf := fun b z => (noA b z).elim, bs := e0.bs, bsz := e0.bsz, noex := fun b _ _ z => noA b z, exfs := fun b z => (noA b z).elim, funs := e0.funs, frf := e0.frf }
      os := rfl, bare := e0.bare, base := Un.kept hk, loc := ⟨_, ns, fun i y v h1 h2 h3 => ?_⟩
      cell := fun x c e => ⟨cv, ?_⟩, free := e0.hok.fresh (Nat.le_refl _), freeC := fun x c e => ?_
      pin := fun p hp => by cases hp
      hok := e0.hok.kept hk, len := ?_ }
  · have hx2 : scope.names.lookup x = some .cell ∨ scope.names.lookup x = some .free := hx
    rcases hx2 with q | q
    · exact absurd rfl (S.nocell _ (PySem.mem_of_lookup q))
    · have e := S.free _ (PySem.mem_of_lookup q) rfl
      have e2 : x = "__class__" := e
      subst e2
      exact ⟨cc, rfl⟩
  · have hi : i < vs.length := by
      unfold L2.start at h2
      by_cases hi : i < vs.length
      · exact hi
      · rw [List.getElem?_append_right (by simpa using hi), List.getElem?_replicate] at h2
        split at h2 <;> cases h2
    have ha : vs[i]? = some v := by
      unfold L2.start at h2
      rw [List.getElem?_append_left (by simpa using hi), List.getElem?_map] at h2
      cases e : vs[i]? with
      | none =>
        rw [e] at h2
        cases h2
      | some a =>
        rw [e] at h2
        cases h2
        rfl
    obtain ⟨u, hu, rv⟩ := r.get ha
    have hp : ps[i]? = some y := by
      rw [← S.pre, List.getElem?_take_of_lt (by omega)]
      exact h1
    have ndP : ps.Nodup := by
      rw [← S.pre]
      exact S.nd.sublist (List.take_sublist _ _)
    refine ⟨u, rv, .inl ⟨S.par y (List.mem_of_getElem? hp), ?_⟩⟩
    refine lookup_nodup ?_ (List.mem_reverse.mpr (mem_zip_at hp hu))
    rw [List.map_reverse, zip_keys (by rw [← r.length, hl])]
    exact List.pairwise_reverse.mpr (List.Pairwise.imp (fun h => Ne.symm h) ndP)
  · obtain ⟨_, ec⟩ := one e
    subst ec
    exact ⟨_, hk _ _ hcb.1, rfl⟩
  · obtain ⟨_, ec⟩ := one e
    subst ec
    exact hcb.2
  · unfold L2.start
    show _ = N.length
    rw [List.length_append, List.length_map, List.length_replicate]
    omega
end
/-- a block at the level of the def's own body b -/
structure PSsA (X : Cx) (b st : List Stmt) (t : TS) : Prop where
  run : ∀ (pins : List (Addr × Obj)) (s : Shared) (σ : L2.St) (H : Hp) (D : Ends), Inv X pins σ H s → t D σ H → PySem.wpAt (model X.prog X.w) X.A (.func b X.env) (execs st X.env) (SP X pins D) X.xe s
section
variable {X : Cx} {b rest : List Stmt} {st : Stmt} {t u : TS}
theorem PSs.up {sts : List Stmt} (h : PSs X sts t) : PSsA X b sts t := ⟨fun pins s σ H D I q => wpAt_of_wpAny (h.run pins s σ H D I q)⟩
theorem psa_cons (h1 : PS X st t) (h2 : PSsA X b rest u) : PSsA X b (st :: rest) (tSeq t u) := by
  constructor
  intro pins s σ H D I q
  refine ks_wpAt_execs_cons (wpAt_of_wpAny (thn (h1.run pins s σ H { D with nx := u D } I q) fun fl s1 z => ?_))
  cases fl with
  | next =>
    obtain ⟨σ', H', I', z⟩ := z
    exact h2.run pins s1 σ' H' D I' z
  | ret v => exact z
  | brk => exact z
  | cont => exact z
end
section
variable {P : Program} {w : World} {K : PySem.W.Frag} {mg : Str → Option Value} {base : Heap} {CX : CXT} {k : Nat} {f cc : Addr} {name qual : Str} {params : Arguments} {body : List Stmt} {scope : Scope} {dvs : List V} {kws : List (Str × V)} {fd : FuncData}
  {N ps : List Str} {sp : Sp} {cl : Value} {cd : Option Addr} {csl : Array (Option Value)} {cv : Option Value}
theorem okS (F : FunX K name qual params body scope [("__class__", cc)] dvs kws f fd) (S : SupScope N ps scope) (hcc : K.lookup cc = some ⟨cl, cd, .cell cv, csl⟩)
    (hbody : ∀ (oc : Value) (od : Option Addr) (osl : Array (Option Value)) (cdv : Value) (A : Around) (outer : List Env) (s : Shared) (H : Hp) (vs : List V) (Q : VK) (E : XK), K.lookup f = some ⟨oc, od, .func fd, osl⟩ → fd.params = params → PySem.W.codeIn K cdv qual = true →
      fd.code = cdv → Rm k (A.deeper (envS qual scope s.heap.objs.size f cdv cc)) → sp vs H Q E →
      ∃ t, PSsA (cxS CX P w K mg base N qual scope f cdv cc A outer s H E) body body t ∧ t { nx := fun _ H' => Q .non H', rt := Q } (L2.start N vs) H) :
    FnB P w K mg base CX (k + 1) f fd ps sp := by
  obtain ⟨oc, od, dV, kV, doc, pm, an, cdv, ct, osl, efd, lk, hcd, _, _⟩ := F.ex
  intro A outer s H args Q E G hr e0 hb hG
  have KX : K.In s.heap := e0.mod.kin.keeps fun b o e => (e0.bs b o e).1
  subst efd
  refine codeAny_call_function hr.r.depth (KX _ _ lk) rfl S.co S.gen rfl (PySem.W.codeRec_of KX hcd) ?_
  refine hb _ _ _ fun s2 H2 vs us e2 un ho hx r hl g => ?_
  have lim : s2.heap.NoLimit := e0.mod.nolimit.keeps fun b o e => (e2.bs b o e).1
  refine wpAny_newFunctionEnv S.nocell (fun y hy => S.par y.1 (List.of_mem_zip hy).1) (fun h1 ns1 sb1 => ⟨lim.fresh _ sb1, ks_codeAny_funcAt ?_⟩) S.kind
  have hk1 : ∀ b o, s2.heap.get? b = some o → h1.get? b = some o := fun b o e => sb1.extBut b o (Nat.ne_of_lt (Heap.lt_size e)) (Heap.get?_push_of_some _ e)
  obtain ⟨t, ht, hq⟩ := hbody oc od osl cdv A outer s2 H2 vs Q E lk rfl hcd rfl (hr.deeper _) (hG vs H2 g)
  have I : Inv (cxS CX P w K mg base N qual scope f cdv cc A outer s2 H2 E) [] (L2.start N vs) H2 { s2 with heap := h1, toks := s2.toks + (ps.zip us).length } :=
    inv_startS S hr.r.hd e2 hcc hl r ns1 hk1
  refine ks_wpAt_mono (ht.run [] _ _ _ _ I hq) (fun fl s' hs => ?_) fun e s' hs => ?_
  · have fin : ∀ {σ' : L2.St} {H' : Hp} {v' : V} {u' : Value}, Inv (cxS CX P w K mg base N qual scope f cdv cc A outer s2 H2 E) [] σ' H' s' → RelV v' u' → Q v' H' → CE outer P w H s Q u' s' :=
      fun {σ' H' v' u'} J rv' q => ⟨v', H', J.os.trans ho, J.bare, un.trans J.base, J.hok, rv', q⟩
    cases fl with
    | ret u' =>
      obtain ⟨v', σ', H', J, rv', q⟩ := hs
      exact fin J rv' q
    | next =>
      obtain ⟨σ', H', J, q⟩ := hs
      exact fin (v' := V.non) (u' := Value.none) J rfl q
    | brk =>
      obtain ⟨_, _, _, q⟩ := hs
      exact False.elim q
    | cont =>
      obtain ⟨_, _, _, q⟩ := hs
      exact False.elim q
  · exact wpAny_mono hs (fun _ s'' z => hx e s'' z) fun e' s'' z => hx e' s'' z
end
end Gd

namespace Gd
open L2 PyProof.Rows PySem.Spec PySem
/-! ### the statement super().__init__(..) -/
def at2 (vs : Array Value) : Option Value := vs[2]?
def codeFile (K : PySem.W.Frag) (cd : Value) (file : Str) : Bool := match cd with
  | .ref c => (match K.lookup c with
    | some ⟨_, _, .fields vs, _⟩ => (match at2 vs with
      | some (.str y _) => decide (y = file)
      | _ => false)
    | _ => false)
  | _ => false
theorem codeFile_ok {K : PySem.W.Frag} {cd : Value} {file : Str} (h : codeFile K cd file = true) : ∃ c oc od vs sl t, cd = .ref c ∧ K.lookup c = some ⟨oc, od, .fields vs, sl⟩ ∧ vs[2]? = some (.str file t) := by
  unfold codeFile at h
  split at h
  · rename_i c
    split at h
    · rename_i oc od vs sl e
      split at h
      · rename_i y t e2
        have ey : y = file := of_decide_eq_true h
        subst ey
        exact ⟨c, oc, od, vs, sl, t, rfl, e, e2⟩
      · cases h
    · cases h
  · cases h
/-- from an instance of C, in a method of D, super().__init__ is f2 -/
structure SupTo (K : PySem.W.Frag) (C D f2 : Addr) : Prop where
  sub : PySem.W.mroIn K C (.ref D) = some true
  cls : (PySem.W.clsIn K D).isSome = true
  to : PySem.W.ks_superIn K C D "__init__" = some (some (.ref f2))
  fn : PySem.W.isFn K (.ref f2) = true
  fi : PySem.W.fnIn K f2 = true
  op : PySem.W.nsIn K cStatics "thirdparty.any" = some none
/-- what the def itself has for it -/
structure SupDef (X : Cx) (D : Addr) (me : Str) : Prop where
  ks : X.env.kindOf "super" = some .globalImplicit
  kc : X.env.kindOf "__class__" = some .free
  kl : X.env.scope.names.lookup me = some .local
  slot : X.N[0]? = some me
  fns : ∃ f oc od fd osl ar, X.env.func = some f ∧ X.K.lookup f = some ⟨oc, od, .func fd, osl⟩ ∧ (fd.params.posonlyargs ++ fd.params.args).head? = some ar ∧ ar.arg = me
  code : codeFile X.K X.env.code X.prog.main.file = true
  cell : ∃ cc cl cd csl, X.env.cells.lookup ("__class__" : Str) = some cc ∧ X.K.lookup cc = some ⟨cl, cd, .cell (some (.ref D)), csl⟩
  free : X.mg "super" = none
  top : (X.prog.main.scope.names.lookup ("super" : Str)).isSome = false
theorem super_blt : bootBuiltins "super" = some (.type "super") := by decide +kernel
def tSup (K : PySem.W.Frag) (D f2 : Addr) (sp : SpA) (E : XK) (t : TA) : TS := fun De σ H => ∃ a C dx fs, σ[0]? = some (some (.ref a)) ∧ H a = some (.ins C dx fs) ∧ SupTo K C D f2 ∧
  t σ H fun vs H1 => sp (.ref a :: vs) [] H1 (fun _ H2 => De.nx σ H2) E
section
variable {X : Cx} {CX : CXT} {k : Nat} {D f2 : Addr} {me : Str} {sp : SpA} {E : XK} {b : List Stmt} {e : Expr} {es : List Expr} {t : TA} {p0 p1 apos pos pos' : Pos} {pl : Sem Bool}
theorem psa_super (Z : SupDef X D me) (F : FnA X.prog X.w X.K X.mg X.base CX k f2 [] sp) (hr : Rm k X.A) (hx : Passes CX X E) (hA : X.env.frame = some X.env.locals) {rest : List Stmt} {u : TS} (hrest : PSsA X b rest u)
    (ha : PA X (e :: es) t) (hs : swapsWith (.Call (.Attribute (.Call (.Name "super" p0) [] [] p1) "__init__" apos) (e :: es) [] pos) none pos'.line X.env = pure false := by rfl)
    (he : eval (.Call (.Attribute (.Call (.Name "super" p0) [] [] p1) "__init__" apos) (e :: es) [] pos) X.env = (do
      let ov ← attributeBase (.Call (.Name "super" p0) [] [] p1) "__init__" X.env (eval (.Call (.Name "super" p0) [] [] p1) X.env)
      standAt apos.atName
      let (f, first) ← holding [ov] (getMethod ov "__init__" pl)
      callWith pos f first (backTo pos (starEach (e :: es) X.env)) []) := by rfl)
    (hst : starEach (e :: es) X.env = (false, eval e X.env) :: starEach es X.env := by rfl) (hpl : (backTo pos (starEach es X.env)).any (·.1) = false := by rfl) :
    PSsA X b (.Expr (.Call (.Attribute (.Call (.Name "super" p0) [] [] p1) "__init__" apos) (e :: es) [] pos) pos' :: rest) (tSeq (tSup X.K D f2 sp E t) u) := by
  constructor
  intro pins s σ H De I q
  obtain ⟨hh, g, d, tk, os⟩ := s
  obtain ⟨a, C, dx, fs, ea, eH, T, q⟩ := q
  obtain ⟨f, oc, od, fd, osl, ar, hfu, lkf, hp, har⟩ := Z.fns
  obtain ⟨cda, c1, c2, cvs, c3, ct, hco, lkc, hvs⟩ := codeFile_ok Z.code
  obtain ⟨cc, l1, l2, l3, hcl, lkcc⟩ := Z.cell
  obtain ⟨m, ns, hl⟩ := id I.loc
  obtain ⟨u0, ru, lo⟩ := hl 0 me (.ref a) Z.slot ea (.inl Z.kl)
  obtain rfl : u0 = Value.ref a := ru
  have hm : m me = some (.ref a) := by
    rcases lo with ⟨_, z⟩ | ⟨z, _⟩
    · exact z
    · have z2 : X.env.scope.names.lookup me = some .cell ∨ X.env.scope.names.lookup me = some .free := z
      rw [Z.kl] at z2
      rcases z2 with z2 | z2 <;> cases z2
  obtain ⟨mA, O, _⟩ := ins_get I.hok eH
  obtain ⟨odx, J, _⟩ := O.look
  refine ks_wpAt_execs_cons (env := X.env) (PySem.wpAt_mono (ks_wpAt_Expr_any (Q := fun fl s' => match fl with | .next => PySem.wpAt (model X.prog X.w) X.A (.func b X.env) (execs rest X.env) (SP X pins De) X.xe s' | f => SP X pins De f s') (ks_wpAt_MethodCall (pl := pl) ?_ he) I.quiet hs) (fun _ _ z => z) fun _ _ z => z)
  have clsD : ∃ oD cdD, hh.get? D = some oD ∧ oD.data = .cls cdD := by
    have h := T.cls
    unfold PySem.W.clsIn at h
    split at h
    · rename_i z1 z2 cd z3 ho
      exact ⟨_, cd, I.kIn _ _ ho, rfl⟩
    · cases h
  obtain ⟨oD, cdD, hD1, hD2⟩ := clsD
  refine ks_wpAt_super_base (env := X.env) Z.ks Z.kc (by decide) hfu (I.kIn _ _ lkf) rfl hp hco (I.kIn _ _ lkc) rfl hvs (by simp) Z.top ?_
  obtain ⟨mb, hb1, hb2⟩ := I.mod.blt
  refine PySem.W.ks_loadName_global I.ok.kind Z.ks (Calls.loadGlobal_builtin (by rw [I.ok.glob]; exact I.mod.glob.keeps I.bk) Z.free (by rw [I.ok.blt]; exact hb1.keeps I.bk) ((hb2 "super" (by decide)).trans super_blt) ⟨rfl, ?_⟩)
  refine wpAny_loadName_free I.ok.kind Z.kc hcl ⟨_, I.kIn _ _ lkcc, rfl⟩ ?_
  rw [har]
  refine wpAny_loadName_local I.ok.kind Z.kl ns hm ?_
  refine ks_wpAny_isType_cls hD1 hD2 ⟨rfl, ?_⟩
  have hnc : ∀ c, (PySem.W.instObj C dx).data ≠ .cls c := fun c z => by cases z
  refine ks_wpAny_call_super hD1 hD2 J.at_ J.cls hnc (PySem.W.looks_mroIn I.kIn T.sub) fun h1 hso k1 => ?_
  have I1 : Inv X pins σ H ⟨h1, g, d, tk, os⟩ := I.kept (t' := tk) k1
  obtain ⟨cdC, hcC⟩ : ∃ cd, PySem.W.clsIn X.K C = some cd := by
    have h := T.to
    unfold PySem.W.ks_superIn at h
    cases q : PySem.W.clsIn X.K C with
    | none =>
      rw [q] at h
      cases h
    | some cd => exact ⟨cd, rfl⟩
  have hto : PySem.W.alongIn X.K "__init__" ((cdC.mro.dropWhile (· != .ref D)).drop 1) = some (some (.ref f2)) := by
    have h := T.to
    unfold PySem.W.ks_superIn at h
    rw [hcC] at h
    exact h
  obtain ⟨of, hof, hofc⟩ : ∃ of, h1.get? f2 = some of ∧ of.cls = .type "function" := by
    have h : PySem.W.typeIn X.K (.ref f2) = some (.type "function") := beq_iff_eq.mp T.fn
    have h2 : (X.K.lookup f2).map (·.cls) = some (.type "function") := h
    cases z : X.K.lookup f2 with
    | none =>
      rw [z] at h2
      cases h2
    | some of =>
      rw [z] at h2
      exact ⟨of, I1.kIn _ _ z, Option.some.inj h2⟩
  have haC : a ≠ C := PySem.W.ks_ne I.kIn J hcC
  refine ks_wpAny_getMethod_super hso (PySem.W.looks_opaque I1.kIn T.op) (l₀ := cdC.mro) ?_ rfl I1.kIn hto hof hofc haC (by decide) ?_
  · exact fun A Q E s k q => wpAny_bind ((PySem.W.looks_clsIn I1.kIn hcC) A _ E s k (wpAny_pure q))
  have k2 : ∀ b o, h1.get? b = some o → (h1.push (PySem.W.methodObj (.ref f2) (.ref a))).get? b = some o := fun b o z => Heap.get?_push_of_some _ z
  have I2 : Inv X pins σ H ⟨h1.push (PySem.W.methodObj (.ref f2) (.ref a)), g, d, tk + 1, os⟩ := I1.kept (t' := tk + 1) k2
  have hq0 : (h1.push (PySem.W.methodObj (.ref f2) (.ref a))).get? h1.objs.size = some (PySem.W.methodObj (.ref f2) (.ref a)) := Heap.get?_push_at rfl rfl
  have I3 : Inv X ((h1.objs.size, PySem.W.methodObj (.ref f2) (.ref a)) :: pins) σ H ⟨h1.push (PySem.W.methodObj (.ref f2) (.ref a)), g, d, tk + 1, os⟩ := by
    refine I2.pins_of fun p hp => ?_
    rcases List.mem_cons.mp hp with z | z
    · subst z
      have lt := I1.lt
      refine ⟨hq0, I1.hok.fresh (Nat.le_refl _), (Nat.ne_of_lt lt).symm, I1.nofs (Nat.le_refl _), fun v z => by cases z⟩
    · exact I2.pin p (List.mem_append_right _ z)
  show wpAny (model X.prog X.w) X.A (callWith pos (.ref h1.objs.size) [] (backTo pos (starEach (e :: es) X.env)) []) _ _ _
  rw [hst]
  refine PySem.W.callWith_of (by show ((false || (backTo pos (starEach es X.env)).any (·.1)) || false) = false; rw [hpl]; rfl) (PySem.W.keeps_M (q := h1.objs.size) (self := .ref a) T.fi) (Calls.evalArgs_plain ?_)
  have ha2 := ha.run pos ((h1.objs.size, PySem.W.methodObj (.ref f2) (.ref a)) :: pins) _ σ H _ I3 q
  rw [hst] at ha2
  refine thn ha2 fun us s4 z => ?_
  obtain ⟨vs, H4, I4, rv, q4⟩ := z
  have pin4 := (I4.pin (h1.objs.size, PySem.W.methodObj (.ref f2) (.ref a)) (List.mem_append_right _ List.mem_cons_self)).1
  have I5 : Inv X pins σ H4 s4 := I4.pins_of fun p hp => I4.pin p (List.mem_append_right _ (List.mem_cons_of_mem _ hp))
  refine ⟨⟨pin4, I4.kIn⟩, ?_⟩
  refine wpAny_call (ks_codeAny_call_bound pin4 ?_)
  have go := F X.A X.stack s4 H4 (.ref a :: us) [] (.ref a :: vs) [] _ E hr I5.env0 (.cons rfl rv) .nil q4
  refine codeAny_mono go fun r s5 hb => ?_
  cases r with
  | error er => exact hx pins σ H4 s4 er s5 I5 hb
  | ok fl =>
    cases fl with
    | ret u =>
      obtain ⟨v, H6, I6, rv6, q6⟩ := I5.after hb
      exact hrest.run pins s5 σ H6 De I6 q6
    | next => exact False.elim hb
    | brk => exact False.elim hb
    | cont => exact False.elim hb
end
end Gd

namespace Gd
open L2 PyProof.Rows PySem.Spec PySem
/-! ### operations of instances and of data -/
section
variable {X : Cx} {o : Expr} {f : Str} {pos : Pos} {to : TE}
/-- o.f as a target -/
def gFld (K : PySem.W.Frag) (to : TE) (f : Str) : TG := fun y σ H Q => to σ H fun x H1 => ∃ a C dx fs, x = .ref a ∧ H1 a = some (.ins C dx fs) ∧ Cls K C ∧ NoAttr K C f ∧ fs.length < 1000 ∧ Q σ (upd H1 a (.ins C dx (putF f y fs)))
theorem pg_fld (ho : PE X o to) : PG X (.Attribute o f pos) (gFld X.K to f) := by
  constructor
  intro pins s σ H v u Q I r h
  rw [arm_assign_Attribute]
  refine wpAny_bind (wpAny_holding (thn (ho.run pins s σ H _ I h) ?_))
  rintro ov s1 ⟨x, H1, I1, rx, a, C, dx, fs, ex, ea, c, n, hl, q⟩
  subst ex
  obtain rfl : ov = Value.ref a := rx
  refine wpAny_bind (wpAny_standAt (wpAny_bind (wpAny_holding (setattr_ok I1 ea c n hl r fun s2 I2 => ?_))))
  exact wpAny_release ⟨σ, _, I2, q⟩
end
/-- repr of data -/
def rRepr (K : PySem.W.Frag) : List V → Hp → VK → Prop := fun xs H Q => ∃ x d, xs = [x] ∧ Dp K H x d ∧ d.showable = true ∧ d.hasDict = false ∧ d.depth ≤ 64 ∧ d.shown.length ≤ sizeLine ∧ Q (.str d.shown) H
section
variable {X : Cx} {k : Nat}
theorem call_repr (hr : Rm k X.A) : CallR X (.builtin "repr") (rRepr X.K) := by
  intro pins s σ H xs us Q I r h
  obtain ⟨x, d, ex, hd, hs, hn, hdp, hz, q⟩ := h
  subst ex
  obtain ⟨u, eu, ru⟩ := vals1 r
  subst eu
  obtain ⟨as, rd⟩ := Dp.reads I d x u hd ru
  have un := hr.r.un
  cases hd with
  | non =>
    cases ru
    refine PySem.P.repr_of_none ?_
    exact ⟨.str (PyData.none).shown, H, I.tok _, ⟨s.toks, by simp only [PyData.shown]⟩, q⟩
  | bl b =>
    cases ru
    refine PySem.P.repr_of_bool ?_
    exact ⟨.str (PyData.bool b).shown, H, I.tok _, ⟨s.toks, by simp only [PyData.shown]⟩, q⟩
  | int i =>
    obtain ⟨t, et⟩ := ru
    subst et
    refine PySem.P.repr_of_int (by simpa [PyData.showable] using hs) ?_
    exact ⟨.str (PyData.int i).shown, H, I.tok _, ⟨s.toks, by simp only [PyData.shown]⟩, q⟩
  | str z =>
    obtain ⟨t, et⟩ := ru
    subst et
    refine PySem.P.repr_of_str ?_ (by simpa [PyData.shown] using hz)
    exact ⟨.str (PyData.str z).shown, H, I.tok _, ⟨s.toks, by simp only [PyData.shown]⟩, q⟩
  | lst h1 h2 =>
    cases ru
    exact repr_of_reads' rd hs (PyData.noDict_hsm hn) hr.g (by omega) (fun _ _ e => e) (fun h' u tk hk => ⟨.str _, H, I.kept (t' := tk) hk, ⟨_, rfl⟩, q⟩) hz
  | tup h1 h2 =>
    cases ru
    exact repr_of_reads' rd hs (PyData.noDict_hsm hn) hr.g (by omega) (fun _ _ e => e) (fun h' u tk hk => ⟨.str _, H, I.kept (t' := tk) hk, ⟨_, rfl⟩, q⟩) hz
end
section
variable {X : Cx} {CX : CXT} {k : Nat} {g : Addr} {sp : SpA} {E : XK}
/-- repr of an instance whose __repr__ is the def at g -/
def rReprOwn (K : PySem.W.Frag) (g : Addr) (sp : SpA) (E : XK) : List V → Hp → VK → Prop := fun xs H Q => ∃ a C dx fs, xs = [.ref a] ∧ H a = some (.ins C dx fs) ∧ Meth K C "__repr__" g ∧ sp [.ref a] [] H (fun v H' => ∃ z, v = .str z ∧ Q v H') E
theorem call_reprOwn (F : FnA X.prog X.w X.K X.mg X.base CX k g [] sp) (hr : Rm (k + 1) X.A) (hx : Passes CX X E) : CallR X (.builtin "repr") (rReprOwn X.K g sp E) := by
  intro pins s σ H xs us Q I r h
  obtain ⟨a, C, dx, fs, ex, ea, M, q⟩ := h
  subst ex
  obtain ⟨u, eu, ru⟩ := vals1 r
  subst eu
  obtain rfl : u = Value.ref a := ru
  obtain ⟨mA, O, _⟩ := ins_get I.hok ea
  obtain ⟨od, J, _⟩ := O.look
  obtain ⟨m, hF⟩ := I.fr
  have un := hr.r.units
  refine PySem.W.repr_K (by show X.A.units + 1 < cLine; omega) hF I.ok.mod.kin J M.at_ M.fn ?_
  have go := F X.A.in1 X.stack s H [.ref a] [] [.ref a] [] _ E hr.in1 I.env0.in1 (.cons rfl .nil) .nil q
  refine wpAny_call (codeAny_mono go fun r s' hb => ?_)
  cases r with
  | error er => exact hx pins σ H s er s' I hb
  | ok fl =>
    cases fl with
    | ret u =>
      obtain ⟨v, H6, I6, rv6, z, ez, q6⟩ := I.after hb
      subst ez
      obtain ⟨t, et⟩ := rv6
      subst et
      exact ⟨.str z, H6, I6, ⟨t, rfl⟩, q6⟩
    | next => exact False.elim hb
    | brk => exact False.elim hb
    | cont => exact False.elim hb
/-- x op y, x an instance whose def for op is at g, y anything that does not come first -/
def rCmpOwn (K : PySem.W.Frag) (nm : Str) (g : Addr) (sp : SpA) (E : XK) : R2 := fun x y H Q => ∃ a C dx fs tb, x = .ref a ∧ H a = some (.ins C dx fs) ∧ Meth K C nm g ∧ TyX K H y tb ∧ PySem.W.notFirst K C tb = true ∧
  sp [x, y] [] H Q E
theorem notNot {P : Value → Shared → Prop} {z : V} {v : Value} {s' : Shared} (r : RelV z v) (h : P v s') : PySem.W.CmpBack P v s' := by
  have e := r.abs
  cases v with
  | notImplemented => cases e
  | _ => exact h
theorem op_cmpOwn {op : CmpOp} (hop : ∀ a b, compareOp op a b = richCompare op a b) (F : FnA X.prog X.w X.K X.mg X.base CX k g [] sp) (hr : Rm k X.A) (hx : Passes CX X E) : OpR X (compareOp op) (rCmpOwn X.K (cmpInfo op).2.1 g sp E) := by
  intro pins s σ H x y v u Q I rx ry h
  obtain ⟨a, C, dx, fs, tb, ex, ea, M, ty, hn, q⟩ := h
  subst ex
  obtain rfl : v = Value.ref a := rx
  obtain ⟨mA, O, _⟩ := ins_get I.hok ea
  obtain ⟨od, J, _⟩ := O.look
  obtain ⟨m, hF⟩ := I.fr
  obtain ⟨Pz, KX, hP, _⟩ := kit_of I ry ty
  rw [hop]
  refine PySem.W.cmp_K (op := op) (tb := tb) hr.r.units0 hF I.ok.mod.kin J (KX.ty _ _ I.kIn hP) hn M.at_ M.fn ?_
  refine wpAny_mono (run_A (us := [.ref a, u]) (ws := []) (vs := [.ref a, y]) (zs := []) F hr hx I (.cons rfl (.cons ry .nil)) .nil q) (fun w s' z => ?_) fun _ _ z => z
  obtain ⟨z', H', I', rz, qz⟩ := z
  exact notNot rz ⟨z', H', I', rz, qz⟩
end
end Gd

namespace Gd
open L2 PyProof.Rows PySem.Spec PySem
/-! ### + of any kind -/
section
variable {X : Cx}
theorem op_addA : OpR X (binaryOp .Add) (fun x y H Q => rI0 (fun i j => .int (i + j)) x y H Q ∨ (∃ i j, x = .str i ∧ y = .str j ∧ i.length + j.length ≤ sizeLine ∧ Q (.str (i ++ j)) H) ∨ rCat x y H Q ∨ rCatT X.K x y H Q) :=
  op_add.or (op_add_str.or (op_cat.or op_catT))
end
/-! ### heaps: what a part of the heap holds, and goes on holding -/
/-- two parts together -/
def un (G F : Hp) : Hp := fun b => match G b with
  | some o => some o
  | none => F b
theorem un_left (G F : Hp) : Same G (un G F) := fun b o e => by
  unfold un
  rw [e]
/-- F is new over H -/
def New (H F : Hp) : Prop := ∀ b o, F b = some o → H b = none
theorem un_right {G F : Hp} (h : ∀ b o, F b = some o → G b = none) : Same F (un G F) := fun b o e => by
  unfold un
  rw [h b o e]
  exact e
theorem un_sub {G F H : Hp} (h1 : Same G H) (h2 : Same F H) : Same (un G F) H := fun b o e => by
  unfold un at e
  cases q : G b with
  | none =>
    rw [q] at e
    exact h2 b o e
  | some u =>
    rw [q] at e
    exact h1 b o (q.trans e)
theorem un_none {G F : Hp} {b : Addr} (h1 : G b = none) (h2 : F b = none) : un G F b = none := by
  unfold un
  rw [h1]
  exact h2
theorem New.none {H F : Hp} (n : New H F) {b : Addr} {o : HO} (e : H b = some o) : F b = none := by
  cases q : F b with
  | none => rfl
  | some u =>
    have := n b u q
    rw [e] at this
    cases this
theorem New.of_same {G H F : Hp} (s : Same G H) (n : New H F) : ∀ b o, F b = some o → G b = Option.none := fun b o e => by
  have h := n b o e
  cases q : G b with
  | none => rfl
  | some u =>
    rw [s b u q] at h
    cases h
theorem same_upd {H : Hp} {p : Addr} {o : HO} (h : H p = none) : Same H (upd H p o) := fun b u e => by
  rw [upd_ne (ne_of_none e h)]
  exact e
/-- a part that does not hold p stands when p is changed -/
theorem same_chg {G H : Hp} {p : Addr} {o : HO} (s : Same G H) (h : G p = none) : Same G (upd H p o) := fun b u e => by
  rw [upd_ne (ne_of_none e h)]
  exact s b u e
/-! ### data that stand in a part -/
theorem seqT_up {K : PySem.W.Frag} {H H' : Hp} {a : Addr} {xs : List V} (e : Same H H') (h : SqT K H a xs) : SqT K H' a xs := by
  rcases h with (h | ⟨o, h⟩) | h
  · exact .inl (.inl (e _ _ h))
  · exact .inl (.inr ⟨o, e _ _ h⟩)
  · exact .inr h
mutual
theorem dp_up {K : PySem.W.Frag} {H H' : Hp} (e : Same H H') : ∀ (d : PyData) {v : V}, Dp K H v d → Dp K H' v d
  | .none, _, h => by cases h; exact .non
  | .bool _, _, h => by cases h; exact .bl _
  | .int _, _, h => by cases h; exact .int _
  | .str _, _, h => by cases h; exact .str _
  | .list ds, _, h => by
    cases h with
    | lst h1 h2 => exact .lst (e.seq h1) (dpAll_up e ds h2)
  | .tuple ds, _, h => by
    cases h with
    | tup h1 h2 => exact .tup (seqT_up e h1) (dpAll_up e ds h2)
  | .dict _, _, h => by cases h
theorem dpAll_up {K : PySem.W.Frag} {H H' : Hp} (e : Same H H') : ∀ (ds : List PyData) {vs : List V}, DpAll K H vs ds → DpAll K H' vs ds
  | [], _, h => by cases h; exact .nil
  | d :: ds, _, h => by
    cases h with
    | cons h1 h2 => exact .cons (dp_up e d h1) (dpAll_up e ds h2)
end
theorem dpAll_len {K : PySem.W.Frag} {H : Hp} : ∀ {vs : List V} {ds : List PyData}, DpAll K H vs ds → vs.length = ds.length
  | _, _, .nil => rfl
  | _, _, .cons _ h => congrArg Nat.succ (dpAll_len h)
theorem dpAll_append {K : PySem.W.Frag} {H : Hp} : ∀ {vs ws : List V} {ds es : List PyData}, DpAll K H vs ds → DpAll K H ws es → DpAll K H (vs ++ ws) (ds ++ es)
  | _, _, _, _, .nil, h => h
  | _, _, _, _, .cons a t, h => .cons a (dpAll_append t h)
theorem dpAll_get {K : PySem.W.Frag} {H : Hp} : ∀ {vs : List V} {ds : List PyData} {i : Nat} {v : V}, DpAll K H vs ds → vs[i]? = some v → ∃ d, ds[i]? = some d ∧ Dp K H v d
  | _, _, _, _, .nil, e => by simp at e
  | _, _, 0, _, .cons a _, e => by
    simp at e
    subst e
    exact ⟨_, rfl, a⟩
  | _, _, i + 1, _, .cons _ t, e => by
    obtain ⟨d, h1, h2⟩ := dpAll_get (i := i) t (by simpa using e)
    exact ⟨d, by simpa using h1, h2⟩
/-! ### data within bounds -/
structure Okd (n W : Nat) (d : PyData) : Prop where
  lay : d.canLay0 = true
  sh : d.showable = true
  ls : d.leavesShort 110 = true
  dp : d.depth ≤ n
  wt : d.weight ≤ W
theorem Okd.mono {n m W U : Nat} {d : PyData} (h : Okd n W d) (h1 : n ≤ m) (h2 : W ≤ U) : Okd m U d := { lay := h.lay, sh := h.sh, ls := h.ls, dp := Nat.le_trans h.dp h1, wt := Nat.le_trans h.wt h2 }
structure Okds (n W : Nat) (ds : List PyData) : Prop where
  lay : PyData.canLayAll0 ds = true
  sh : PyData.showableAll ds = true
  ls : PyData.leavesShortAll 110 ds = true
  dp : PyData.depthAll ds ≤ n
  wt : PyData.weightAll ds ≤ ds.length * (W + 1)
theorem okds {n W : Nat} : ∀ {ds : List PyData}, (∀ d ∈ ds, Okd n W d) → Okds n W ds
  | [], _ => by
    refine { lay := ?_, sh := ?_, ls := ?_, dp := ?_, wt := ?_ } <;> simp [PyData.canLayAll0, PyData.showableAll, PyData.leavesShortAll, PyData.depthAll, PyData.weightAll]
  | d :: ds, h => by
    have h1 := h d List.mem_cons_self
    have h2 := okds fun e he => h e (List.mem_cons_of_mem _ he)
    have d1 := h1.dp
    have d2 := h2.dp
    have w1 := h1.wt
    have w2 := h2.wt
    refine { lay := ?_, sh := ?_, ls := ?_, dp := ?_, wt := ?_ }
    · simp [PyData.canLayAll0, h1.lay, h2.lay]
    · simp [PyData.showableAll, h1.sh, h2.sh]
    · simp [PyData.leavesShortAll, h1.ls, h2.ls]
    · simp only [PyData.depthAll]
      omega
    · simp only [PyData.weightAll, List.length_cons, Nat.succ_mul]
      omega
theorem Okd.list {n W k : Nat} {ds : List PyData} (h : ∀ d ∈ ds, Okd n W d) (hk : ds.length ≤ k) : Okd (n + 1) (k * (W + 1)) (.list ds) := by
  have z := okds h
  have d1 := z.dp
  have w1 := Nat.le_trans z.wt (Nat.mul_le_mul_right (W + 1) hk)
  refine { lay := ?_, sh := ?_, ls := ?_, dp := ?_, wt := ?_ }
  · simp [PyData.canLay0, z.lay]
  · simp [PyData.showable, z.sh]
  · simp [PyData.leavesShort, z.ls]
  · simp only [PyData.depth]
    omega
  · simp only [PyData.weight]
    omega
theorem Okd.tuple {n W k : Nat} {ds : List PyData} (h : ∀ d ∈ ds, Okd n W d) (hk : ds.length ≤ k) : Okd (n + 1) (k * (W + 1)) (.tuple ds) := by
  have z := okds h
  have d1 := z.dp
  have w1 := Nat.le_trans z.wt (Nat.mul_le_mul_right (W + 1) hk)
  refine { lay := ?_, sh := ?_, ls := ?_, dp := ?_, wt := ?_ }
  · simp [PyData.canLay0, z.lay]
  · simp [PyData.showable, z.sh]
  · simp [PyData.leavesShort, z.ls]
  · simp only [PyData.depth]
    omega
  · simp only [PyData.weight]
    omega
theorem Okd.shaped {n W : Nat} {d : PyData} (h : Okd n W d) (hn : n ≤ 64) : SeqAt.shaped d = true := by
  unfold SeqAt.shaped
  rw [h.lay, decide_eq_true (Nat.le_trans h.dp hn)]
  rfl
theorem Okd.noDict {n W : Nat} {d : PyData} (h : Okd n W d) : d.hasDict = false := PyData.hasDict_of_canLay d h.lay
theorem Okd.shown_le {n W : Nat} {d : PyData} (h : Okd n W d) : d.shown.length ≤ 112 * W + 110 := by
  have a := PyData.shown_le 110 (by decide) d h.ls
  have b := h.wt
  have c : 112 * d.weight ≤ 112 * W := Nat.mul_le_mul_left _ b
  omega
theorem Okd.shown_fits {n W : Nat} {d : PyData} (h : Okd n W d) (hW : W ≤ 140000) : d.shown.length ≤ sizeLine := by
  have a := h.shown_le
  rw [sizeLine_eq]
  have c : 112 * W ≤ 112 * 140000 := Nat.mul_le_mul_left _ hW
  omega
end Gd

namespace Gd
open L2 PyProof.Rows PySem.Spec PySem
/-! ### how a heap has grown: F is new and stands, what stood stands but at S, nothing went -/
def emp : Hp := fun _ => none
structure Gr (S : List Addr) (H0 F H : Hp) : Prop where
  nw : New H0 F
  sb : Same F H
  kp : ∀ b o, b ∉ S → H0 b = some o → H b = some o
  ex : ∀ b, H b = none → H0 b = none
section
variable {S S' : List Addr} {H0 F F' H H' : Hp} {p q : Addr} {o : HO}
theorem Gr.refl (S : List Addr) (H : Hp) : Gr S H emp H := { nw := fun b o e => (by cases e), sb := fun b o e => (by cases e), kp := fun _ _ _ e => e, ex := fun _ e => e }
theorem Gr.fresh (g : Gr S H0 F H) (h : H q = none) : F q = none ∧ H0 q = none := by
  refine ⟨?_, g.ex q h⟩
  cases e : F q with
  | none => rfl
  | some u =>
    rw [g.sb q u e] at h
    cases h
/-- a new object that counts -/
theorem Gr.alloc (g : Gr S H0 F H) (h : H q = none) : Gr S H0 (upd F q o) (upd H q o) where
  nw := fun b u e => by
    by_cases z : b = q
    · subst z
      exact g.ex b h
    · rw [upd_ne z] at e
      exact g.nw b u e
  sb := fun b u e => by
    by_cases z : b = q
    · subst z
      rw [upd_same] at e ⊢
      exact e
    · rw [upd_ne z] at e ⊢
      exact g.sb b u e
  kp := fun b u n e => by
    rw [upd_ne (ne_of_none (g.kp b u n e) h)]
    exact g.kp b u n e
  ex := fun b e => by
    by_cases z : b = q
    · subst z
      exact g.ex b h
    · rw [upd_ne z] at e
      exact g.ex b e
/-- a new object that is dropped -/
theorem Gr.tmp (g : Gr S H0 F H) (h : H q = none) : Gr S H0 F (upd H q o) where
  nw := g.nw
  sb := fun b u e => by
    rw [upd_ne (ne_of_none (g.sb b u e) h)]
    exact g.sb b u e
  kp := fun b u n e => by
    rw [upd_ne (ne_of_none (g.kp b u n e) h)]
    exact g.kp b u n e
  ex := fun b e => by
    by_cases z : b = q
    · subst z
      exact g.ex b h
    · rw [upd_ne z] at e
      exact g.ex b e
/-- a change at a place that is told and does not count -/
theorem Gr.chg (g : Gr S H0 F H) (h : F q = none) (hq : q ∈ S ∨ H0 q = none) : Gr S H0 F (upd H q o) where
  nw := g.nw
  sb := fun b u e => by
    rw [upd_ne (ne_of_none e h)]
    exact g.sb b u e
  kp := fun b u n e => by
    have z : b ≠ q := fun z => by
      subst z
      rcases hq with hq | hq
      · exact n hq
      · rw [e] at hq
        cases hq
    rw [upd_ne z]
    exact g.kp b u n e
  ex := fun b e => by
    by_cases z : b = q
    · subst z
      rw [upd_same] at e
      cases e
    · rw [upd_ne z] at e
      exact g.ex b e
/-- behind a call -/
theorem Gr.call (g : Gr S H0 F H) (g' : Gr S' H F' H') (hs : ∀ b ∈ S', F b = none ∧ (b ∈ S ∨ H0 b = none)) : Gr S H0 (un F F') H' where
  nw := fun b u e => by
    unfold un at e
    cases z : F b with
    | none =>
      rw [z] at e
      exact g.ex b (g'.nw b u e)
    | some w => exact g.nw b w z
  sb := by
    refine un_sub (fun b u e => ?_) g'.sb
    refine g'.kp b u (fun m => ?_) (g.sb b u e)
    rw [(hs b m).1] at e
    cases e
  kp := fun b u n e => by
    refine g'.kp b u (fun m => ?_) (g.kp b u n e)
    rcases (hs b m).2 with z | z
    · exact n z
    · rw [e] at z
      cases z
  ex := fun b e => g.ex b (g'.ex b e)
theorem Gr.call0 (g : Gr S H0 F H) (g' : Gr [] H F' H') : Gr S H0 (un F F') H' := g.call g' fun b m => by cases m
/-- .. what it made does not count -/
theorem Gr.drop (g : Gr S H0 F H) : Gr S H0 emp H := { nw := fun b o e => (by cases e), sb := fun b o e => (by cases e), kp := g.kp, ex := g.ex }
theorem Gr.sub (g : Gr S H0 F H) (h : Same F' F) : Gr S H0 F' H := { nw := fun b o e => g.nw b o (h b o e), sb := fun b o e => g.sb b o (h b o e), kp := g.kp, ex := g.ex }
theorem Gr.same (g : Gr [] H0 F H) : Same H0 H := fun b o e => g.kp b o (fun m => by cases m) e
theorem un_emp (F : Hp) : un F emp = F := by
  funext b
  unfold un emp
  cases F b <;> rfl
theorem emp_un (F : Hp) : un emp F = F := by
  funext b
  rfl
theorem Gr.un_r (g : Gr S H0 F H) (g' : Gr S' H F' H') : Same F' (un F F') := un_right fun b o e => by
  have h := g'.nw b o e
  cases q : F b with
  | none => rfl
  | some u =>
    rw [g.sb b u q] at h
    cases h
end
/-! ### the law's own draws -/
def Bag (H : Hp) (p : Addr) : Prop := ∃ d m c : Int, H p = some (.lst [.int d, .int m, .int c])
theorem Bag.some {H : Hp} {p : Addr} (b : Bag H p) : H p ≠ none := by
  obtain ⟨d, m, c, e⟩ := b
  rw [e]
  intro z
  cases z
theorem Bag.free {S : List Addr} {H0 F H : Hp} {p : Addr} (b : Bag H0 p) (g : Gr S H0 F H) : F p = none := by
  cases q : F p with
  | none => rfl
  | some u => exact (b.some (g.nw p u q)).elim
/-- a number from 0 to below n is drawn: the bag at p is another one -/
def spTake : SpA := fun vs zs H Q _ => zs = [] ∧ ∃ (p : Addr) (n : Int), vs = [.ref p, .int n] ∧ 0 < n ∧ n.natAbs.log2 < 9000 ∧ Bag H p ∧
  ∀ (r d m c : Int), 0 ≤ r → r < n → Q (.int r) (upd H p (.lst [.int d, .int m, .int c]))
def spBag (K : PySem.W.Frag) : SpA := fun vs zs H Q _ => zs = [] ∧ ∃ (l : Addr) (ns : List Int) (i : Int), vs = [.ref l, .int i] ∧ SqL K H l (ns.map V.int) ∧ ns.length ≤ 63 ∧ 0 ≤ i ∧
  ∀ (p : Addr) (d m c : Int), H p = none → Q (.ref p) (upd H p (.lst [.int d, .int m, .int c]))
theorem Bag.other {H : Hp} {p D : Addr} {o : HO} (b : Bag H p) (h : D ≠ p) : Bag (upd H D o) p := by
  obtain ⟨d, m, c, e⟩ := b
  exact ⟨d, m, c, (upd_ne (Ne.symm h)).trans e⟩
theorem bag_upd {H : Hp} {p : Addr} {d m c : Int} : Bag (upd H p (.lst [.int d, .int m, .int c])) p := ⟨d, m, c, upd_same⟩
end Gd

namespace Gd
open L2 PyProof.Rows PySem.Spec PySem
/-! ### texts -/
theorem cps_app (x y : Str) : (x ++ y).cps.toList = x.cps.toList ++ y.cps.toList := by
  show (x.cps ++ y.cps).toList = _
  rw [Array.toList_append]
theorem join_codes {Pc : Nat → Prop} {sep : Str} (hs : ∀ c ∈ sep.cps.toList, Pc c) : ∀ {ys : List Str}, (∀ y ∈ ys, ∀ c ∈ y.cps.toList, Pc c) → ∀ c ∈ (Str.join sep ys).cps.toList, Pc c
  | [], _, c, h => by
    have e : (Str.join sep []).cps.toList = [] := rfl
    rw [e] at h
    cases h
  | [x], hy, c, h => hy x List.mem_cons_self c h
  | x :: y :: r, hy, c, h => by
    have e : (Str.join sep (x :: y :: r)).cps.toList = x.cps.toList ++ sep.cps.toList ++ (Str.join sep (y :: r)).cps.toList := by
      show (x ++ sep ++ Str.join sep (y :: r)).cps.toList = _
      rw [cps_app, cps_app]
    rw [e] at h
    rcases List.mem_append.mp h with h | h
    · rcases List.mem_append.mp h with h | h
      · exact hy x List.mem_cons_self c h
      · exact hs c h
    · exact join_codes hs (ys := y :: r) (fun z hz => hy z (List.mem_cons_of_mem _ hz)) c h
theorem txt_join (sep : Str) (ys : List Str) : Txt.join sep ys = Str.join sep ys := StrLaws.glued_eq_join sep ys
theorem str_okd {x : Str} {n : Nat} (hl : x.length ≤ n) (hc : ∀ c ∈ x.cps.toList, c < 0x110000) : Okd 0 n (.str x) := by
  refine { lay := ?_, sh := ?_, ls := ?_, dp := ?_, wt := ?_ }
  · have : PyData.strOk x = true := by
      unfold PyData.strOk
      rw [← Array.all_toList]
      exact List.all_eq_true.mpr fun c h => decide_eq_true (hc c h)
    simpa [PyData.canLay0] using this
  · simp [PyData.showable]
  · simp only [PyData.leavesShort]
    exact List.all_eq_true.mpr fun c h => decide_eq_true (by have := hc c h; omega)
  · simp [PyData.depth]
  · simp only [PyData.weight]
    exact hl
theorem int_okd {i : Int} (h0 : i.natAbs < 10 ^ 31) : Okd 0 104 (.int i) := by
  have h : i.natAbs < 2 ^ 103 := Nat.lt_of_lt_of_le h0 (by decide)
  have hl : i.natAbs.log2 < 1920 := by
    by_cases z : i.natAbs = 0
    · rw [z]
      decide +kernel
    · have := (Nat.log2_lt z).mpr h
      omega
  refine { lay := ?_, sh := ?_, ls := ?_, dp := ?_, wt := ?_ }
  · simp [PyData.canLay0]
  · simp [PyData.showable, hl]
  · simp only [PyData.leavesShort]
    refine decide_eq_true ?_
    have e := int_text_length_le10 (k := 31) (by decide) h0
    show (PyData.shown (.int i)).length ≤ 110
    have e2 : (PyData.shown (.int i)).length = (toString i : String).length := by
      show (Str.ofString (toString i)).length = _
      rw [PySem.ofString_length]
    omega
  · simp [PyData.depth]
  · simp only [PyData.weight]
    split
    · omega
    · rename_i hz
      have z : i.natAbs ≠ 0 := by
        intro z
        have : i = 0 := by omega
        simp [this] at hz
      have := (Nat.log2_lt z).mpr h
      omega
theorem none_okd : Okd 0 0 .none := by
  refine { lay := ?_, sh := ?_, ls := ?_, dp := ?_, wt := ?_ } <;> simp [PyData.canLay0, PyData.showable, PyData.leavesShort, PyData.depth, PyData.weight]
end Gd

namespace Gd
open L2 PyProof.Rows PySem.Spec PySem
/-! ### types of data -/
def tyN : PyData → String
  | .none => "NoneType"
  | .bool _ => "bool"
  | .int _ => "int"
  | .str _ => "str"
  | .list _ => "list"
  | .tuple _ => "tuple"
  | .dict _ => "dict"
theorem ty_of_dp {K : PySem.W.Frag} {H : Hp} {v : V} {d : PyData} (h : Dp K H v d) : TyX K H v (.type (tyN d)) := by
  cases h with
  | non => exact .base .non
  | bl b => exact .base (.bl b)
  | int i => exact .base (.int i)
  | str x => exact .base (.str x)
  | lst h1 _ =>
    rcases h1 with (e | ⟨o, e⟩) | ⟨o, its, n, e, c, _⟩
    · exact .base (.lst e)
    · exact .base (.frz e)
    · exact .kList e c
  | tup h1 _ =>
    rcases h1 with (e | ⟨o, e⟩) | ⟨o, its, n, e, c, _⟩
    · exact .base (.tup e)
    · exact .fTuple e
    · exact .kTuple e c
def isLst : PyData → Bool
  | .list _ => true
  | _ => false
def isTup : PyData → Bool
  | .tuple _ => true
  | _ => false
def isStr : PyData → Bool
  | .str _ => true
  | _ => false
theorem kit_list {K : PySem.W.Frag} (d : PyData) : PySem.W.kitOne K (.type (tyN d)) (.type "list") = some (isLst d) := by
  cases d with
  | none => exact kit_ty (show kitB "NoneType" "list" = some false by decide +kernel)
  | bool _ => exact kit_ty (show kitB "bool" "list" = some false by decide +kernel)
  | int _ => exact kit_ty (show kitB "int" "list" = some false by decide +kernel)
  | str _ => exact kit_ty (show kitB "str" "list" = some false by decide +kernel)
  | list _ => exact kit_ty (show kitB "list" "list" = some true by decide +kernel)
  | tuple _ => exact kit_ty (show kitB "tuple" "list" = some false by decide +kernel)
  | dict _ => exact kit_ty (show kitB "dict" "list" = some false by decide +kernel)
theorem kit_tuple {K : PySem.W.Frag} (d : PyData) : PySem.W.kitOne K (.type (tyN d)) (.type "tuple") = some (isTup d) := by
  cases d with
  | none => exact kit_ty (show kitB "NoneType" "tuple" = some false by decide +kernel)
  | bool _ => exact kit_ty (show kitB "bool" "tuple" = some false by decide +kernel)
  | int _ => exact kit_ty (show kitB "int" "tuple" = some false by decide +kernel)
  | str _ => exact kit_ty (show kitB "str" "tuple" = some false by decide +kernel)
  | list _ => exact kit_ty (show kitB "list" "tuple" = some false by decide +kernel)
  | tuple _ => exact kit_ty (show kitB "tuple" "tuple" = some true by decide +kernel)
  | dict _ => exact kit_ty (show kitB "dict" "tuple" = some false by decide +kernel)
theorem kit_str {K : PySem.W.Frag} (d : PyData) : PySem.W.kitOne K (.type (tyN d)) (.type "str") = some (isStr d) := by
  cases d with
  | none => exact kit_ty (show kitB "NoneType" "str" = some false by decide +kernel)
  | bool _ => exact kit_ty (show kitB "bool" "str" = some false by decide +kernel)
  | int _ => exact kit_ty (show kitB "int" "str" = some false by decide +kernel)
  | str _ => exact kit_ty (show kitB "str" "str" = some true by decide +kernel)
  | list _ => exact kit_ty (show kitB "list" "str" = some false by decide +kernel)
  | tuple _ => exact kit_ty (show kitB "tuple" "str" = some false by decide +kernel)
  | dict _ => exact kit_ty (show kitB "dict" "str" = some false by decide +kernel)
theorem Gr.add {S : List Addr} {H0 F H : Hp} {D : Addr} {o : HO} (g : Gr S H0 F H) (h : H D = some o) (h0 : H0 D = none) : Gr S H0 (upd F D o) H where
  nw := fun b u e => by
    by_cases z : b = D
    · subst z
      exact h0
    · rw [upd_ne z] at e
      exact g.nw b u e
  sb := fun b u e => by
    by_cases z : b = D
    · subst z
      rw [upd_same] at e
      rw [h]
      exact e
    · rw [upd_ne z] at e
      exact g.sb b u e
  kp := g.kp
  ex := g.ex
theorem wt_items : ∀ (ds : List PyData), ds.length ≤ PyData.weightAll ds ∧ ∀ d ∈ ds, d.weight ≤ PyData.weightAll ds
  | [] => ⟨Nat.zero_le _, fun d h => by cases h⟩
  | x :: xs => by
    have ih := wt_items xs
    simp only [PyData.weightAll, List.length_cons]
    refine ⟨by omega, fun d h => ?_⟩
    rcases List.mem_cons.mp h with z | z
    · subst z
      omega
    · have := ih.2 d z
      omega
theorem dp_items : ∀ (ds : List PyData), ∀ d ∈ ds, d.depth ≤ PyData.depthAll ds
  | [], d, h => by cases h
  | x :: xs, d, h => by
    simp only [PyData.depthAll]
    rcases List.mem_cons.mp h with z | z
    · subst z
      omega
    · have := dp_items xs d z
      omega
theorem items_ok : ∀ {ds : List PyData}, PyData.canLayAll0 ds = true → PyData.showableAll ds = true → PyData.leavesShortAll 110 ds = true → ∀ d ∈ ds, d.canLay0 = true ∧ d.showable = true ∧ d.leavesShort 110 = true
  | [], _, _, _, d, h => by cases h
  | x :: xs, h1, h2, h3, d, h => by
    simp only [PyData.canLayAll0, PyData.showableAll, PyData.leavesShortAll, Bool.and_eq_true] at h1 h2 h3
    rcases List.mem_cons.mp h with z | z
    · subst z
      exact ⟨h1.1, h2.1, h3.1⟩
    · exact items_ok h1.2 h2.2 h3.2 d z
theorem Okd.ofList {n W : Nat} {ds : List PyData} (h : Okd (n + 1) W (.list ds)) : ds.length ≤ W ∧ ∀ d ∈ ds, Okd n W d := by
  have w1 := wt_items ds
  have w2 : PyData.weightAll ds ≤ W := by simpa [PyData.weight] using h.wt
  have d1 : PyData.depthAll ds ≤ n := by have := h.dp; simp only [PyData.depth] at this; omega
  refine ⟨Nat.le_trans w1.1 w2, fun d hd => ?_⟩
  obtain ⟨a, b, c⟩ := items_ok (by simpa [PyData.canLay0] using h.lay) (by simpa [PyData.showable] using h.sh) (by simpa [PyData.leavesShort] using h.ls) d hd
  exact { lay := a, sh := b, ls := c, dp := Nat.le_trans (dp_items ds d hd) d1, wt := Nat.le_trans (w1.2 d hd) w2 }
theorem Okd.ofTuple {n W : Nat} {ds : List PyData} (h : Okd (n + 1) W (.tuple ds)) : ds.length ≤ W ∧ ∀ d ∈ ds, Okd n W d := by
  have w1 := wt_items ds
  have w2 : PyData.weightAll ds ≤ W := by simpa [PyData.weight] using h.wt
  have d1 : PyData.depthAll ds ≤ n := by have := h.dp; simp only [PyData.depth] at this; omega
  refine ⟨Nat.le_trans w1.1 w2, fun d hd => ?_⟩
  obtain ⟨a, b, c⟩ := items_ok (by simpa [PyData.canLay0] using h.lay) (by simpa [PyData.showable] using h.sh) (by simpa [PyData.leavesShort] using h.ls) d hd
  exact { lay := a, sh := b, ls := c, dp := Nat.le_trans (dp_items ds d hd) d1, wt := Nat.le_trans (w1.2 d hd) w2 }
theorem Okd.listPos {n W : Nat} {ds : List PyData} (h : Okd n W (.list ds)) : ∃ m, n = m + 1 := by
  have := h.dp
  simp only [PyData.depth] at this
  exact ⟨n - 1, by omega⟩
theorem Okd.tuplePos {n W : Nat} {ds : List PyData} (h : Okd n W (.tuple ds)) : ∃ m, n = m + 1 := by
  have := h.dp
  simp only [PyData.depth] at this
  exact ⟨n - 1, by omega⟩
/-- .. items by place -/
theorem dpAll_at {K : PySem.W.Frag} {H : Hp} {vs : List V} {ds : List PyData} {i : Nat} {v : V} (h : DpAll K H vs ds) (e : vs[i]? = some v) : ∃ d, d ∈ ds ∧ ds[i]? = some d ∧ Dp K H v d := by
  obtain ⟨d, h1, h2⟩ := dpAll_get h e
  exact ⟨d, List.mem_of_getElem? h1, h1, h2⟩
theorem dpAll_snoc {K : PySem.W.Frag} {H : Hp} {vs : List V} {ds : List PyData} {i : Nat} {v : V} {d : PyData} (h : DpAll K H vs (ds.take i)) (e : ds[i]? = some d) (hv : Dp K H v d) : DpAll K H (vs ++ [v]) (ds.take (i + 1)) := by
  rw [List.take_add_one, e]
  exact dpAll_append h (.cons hv .nil)
end Gd

namespace Gd
open L2 PyProof.Rows PySem.Spec PySem
/-! ### a star parameter -/
section
variable {P : Program} {w : World} {K : PySem.W.Frag} {mg : Str → Option Value} {base : Heap} {CX : CXT} {fd : FuncData} {ps : List Str} {pv : Str}
theorem bnd_star {A : Around} {outer : List Env} {s : Shared} {H : Hp} {E : XK} {G : List V → Hp → Prop} {us rest : List Value} {ws rs : List V} (hC : StX.CXUp CX) (e0 : Env0 P w K mg base A outer s H)
    (hb : bindArgs fd ⟨us ++ rest, []⟩ = (newTuple rest >>= fun t => pure (ps.zip us ++ [(pv, t)]))) (r1 : Vals ws us) (r2 : Vals rs rest) (hl : ws.length = ps.length) (hz : rs.length ≤ sizeLine)
    (g : ∀ p, H p = none → G (ws ++ [.ref p]) (upd H p (.tup rs))) : StX.Bnd CX P w K mg base fd ⟨us ++ rest, []⟩ (ps ++ [pv]) A outer s H E G := by
  intro A' Ex Q h
  have fr : H s.heap.objs.size = none := e0.hok.fresh (Nat.le_refl _)
  have l1 : us.length = ps.length := r1.length.symm.trans hl
  have l2 : rest.length ≤ sizeLine := by rw [← r2.length]; exact hz
  rw [hb]
  refine wpAny_bind (wpAny_newTuple (wpAny_pure ?_) l2)
  have fit : ObjOk P w (upd H s.heap.objs.size (.tup rs)) (s.heap.push ({ cls := .type "tuple", data := .seq rest.toArray } : Obj)) s.heap.objs.size (.tup rs) :=
    ⟨hz, rest, r2, ⟨_, Heap.get?_push_size _ rfl, rfl, _, rfl⟩⟩
  have laid := StX.un_laid (fs := frs outer) (s := s) (o := ({ cls := .type "tuple", data := .seq rest.toArray } : Obj)) (u := .tup rs) fr
  have go := h { s with heap := s.heap.push ({ cls := .type "tuple", data := .seq rest.toArray } : Obj) } (upd H s.heap.objs.size (.tup rs)) (ws ++ [V.ref s.heap.objs.size]) (us ++ [Value.ref s.heap.objs.size])
    (StX.env0_laid e0 fit) laid rfl (fun e s' => hC outer s H _ _ E e s' laid (fun b o q => Heap.get?_push_of_some _ q) rfl) (r1.append (.cons rfl .nil)) (by rw [List.length_append, List.length_append, hl]; rfl) (g _ fr)
  rw [List.zip_append l1.symm] at go
  exact go
end
theorem off_none {H : Hp} {p b : Addr} {o : HO} (h : H p = none) (e : (upd H p o) b = none) : H b = none := by
  by_cases z : b = p
  · subst z
    exact h
  · rwa [upd_ne z] at e
/-- what was laid ahead of it is forgotten -/
theorem Gr.off {S : List Addr} {H F H' : Hp} {p : Addr} {o : HO} (g : Gr S (upd H p o) F H') (h : H p = none) : Gr S H F H' :=
  { nw := fun b u e => off_none h (g.nw b u e), sb := g.sb, kp := fun b u n e => g.kp b u n (same_upd h b u e), ex := fun b e => off_none h (g.ex b e) }
theorem vals_parts : ∀ {ws rest : List V} {us : List Value}, Vals (ws ++ rest) us → ∃ u1 u2, us = u1 ++ u2 ∧ Vals ws u1 ∧ Vals rest u2
  | [], _, us, r => ⟨[], us, rfl, .nil, r⟩
  | _ :: ws, rest, _, .cons a r => by
    obtain ⟨u1, u2, e, r1, r2⟩ := vals_parts (ws := ws) (rest := rest) r
    exact ⟨_ :: u1, u2, by rw [e]; rfl, .cons a r1, r2⟩
theorem putF_new {f : Str} {v : V} : ∀ {fs : List (Str × V)}, (∀ p ∈ fs, p.1 ≠ f) → putF f v fs = fs ++ [(f, v)]
  | [], _ => rfl
  | (g, u) :: r, h => by
    have ne : ¬ g = f := h (g, u) List.mem_cons_self
    show (if g = f then _ else (g, u) :: putF f v r) = _
    rw [if_neg ne, putF_new fun p hp => h p (List.mem_cons_of_mem _ hp)]
    rfl
end Gd
namespace Gd
open L2 PyProof.Rows PySem.Spec PySem
theorem lk_hd {f : Str} {v : V} {r : List (Str × V)} : ((f, v) :: r).lookup f = some v := by
  rw [List.lookup_cons]
  simp
theorem lk_tl {f g : Str} {v : V} {o : Option V} {r : List (Str × V)} (h : ¬ g = f) (q : r.lookup g = o) : ((f, v) :: r).lookup g = o := by
  rw [List.lookup_cons]
  have e : (g == f) = false := beq_eq_false_iff_ne.mpr h
  rw [e]
  exact q
theorem fs1 {n0 n1 : Str} {r x1 : V} (h1 : ¬ n0 = n1) : putF n1 x1 [(n0, r)] = [(n0, r), (n1, x1)] := by
  rw [putF_new fun p hp => by rw [List.mem_singleton.mp hp]; exact h1]
  rfl
theorem fs2 {n0 n1 n2 : Str} {r x1 x2 : V} (h1 : ¬ n0 = n2) (h2 : ¬ n1 = n2) : putF n2 x2 [(n0, r), (n1, x1)] = [(n0, r), (n1, x1), (n2, x2)] := by
  rw [putF_new fun p hp => by
    rcases List.mem_cons.mp hp with z | z
    · rw [z]; exact h1
    · rw [List.mem_singleton.mp z]; exact h2]
  rfl
theorem fs3 {n0 n1 n2 n3 : Str} {r x1 x2 x3 : V} (h1 : ¬ n0 = n3) (h2 : ¬ n1 = n3) (h3 : ¬ n2 = n3) : putF n3 x3 [(n0, r), (n1, x1), (n2, x2)] = [(n0, r), (n1, x1), (n2, x2), (n3, x3)] := by
  rw [putF_new fun p hp => by
    rcases List.mem_cons.mp hp with z | z
    · rw [z]; exact h1
    · rcases List.mem_cons.mp z with z | z
      · rw [z]; exact h2
      · rw [List.mem_singleton.mp z]; exact h3]
  rfl
end Gd

namespace Gd
open L2 PyProof.Rows PySem.Spec PySem
/-! ### keywords -/
section
variable {P : Program} {w : World} {K : PySem.W.Frag} {mg : Str → Option Value} {base : Heap} {CX : CXT} {k : Nat} {f : Addr} {fd : FuncData} {ps ks : List Str}
theorem FnB.kw {sp : Sp} (F : FnB P w K mg base CX k f fd ps sp) (n : Nat) {g : List Value → List Value → List Value} {gV : List V → List V → List V}
    (hb : ∀ us ws : List Value, us.length = n → ws.length = ks.length → bindArgs fd ⟨us, ks.zip ws⟩ = pure (ps.zip (g us ws)))
    (hg : ∀ (vs : List V) (us : List Value) (zs : List V) (ws : List Value), vs.length = n → zs.length = ks.length → Vals vs us → Vals zs ws → Vals (gV vs zs) (g us ws)) :
    FnA P w K mg base CX k f ks (fun vs zs H Q E => vs.length = n ∧ zs.length = ks.length ∧ (gV vs zs).length = ps.length ∧ sp (gV vs zs) H Q E) := by
  refine F.to fun A outer s H us ws vs zs Q E e0 r1 r2 hs => ?_
  obtain ⟨l1, l2, l3, hs⟩ := hs
  have b := BindsTo.of_eq (s := s) (hb us ws (r1.length.symm.trans l1) (r2.length.symm.trans l2))
  exact bnd_of e0 b (hg vs us zs ws l1 l2 r1 r2) l3 hs
end
section
variable {X : Cx} {CX : CXT} {k : Nat} {f C : Addr} {sp : SpA} {E : XK} {x : Str} {p pos : Pos} {kws : List Keyword} {ks : List Str} {tk : TA}
def tMkK (C : Addr) (sp : SpA) (E : XK) (tk : TA) : TE := fun σ H Q => tk σ H fun zs H1 => ∀ x dx, H1 x = none → H1 dx = none → dx ≠ x →
  sp [.ref x] zs (upd (upd H1 dx (.own x)) x (.ins C dx [])) (fun v H2 => v = .non ∧ Q (.ref x) H2) E
theorem pe_mkK0 (M : Mk X.K C f) (F : FnA X.prog X.w X.K X.mg X.base CX k f ks sp) (hr : Rm (k + 1) X.A) (hg : Gl X x) (hm : X.mg x = some (.ref C)) (hx : Passes CX X E) (hkw : PK X kws tk)
    (hall : (backToKw pos (keywordEach kws X.env)).all (·.1.isSome) = true := by rfl) (hks : (backToKw pos (keywordEach kws X.env)).filterMap (·.1) = ks := by rfl) (hdb : (x == ("__debug__" : Str)) = false := by decide)
    (hpl : ((backTo pos (starEach [] X.env)).any (·.1) || (backToKw pos (keywordEach kws X.env)).any (·.1.isNone)) = false := by rfl) :
    PE X (.Call (.Name x p) [] kws pos) (tMkK C sp E tk) := by
  constructor
  intro pins s σ H Q I h
  refine wpAny_Call_Name_kw (ld_glob I hg hm ?_ hdb)
  refine PySem.W.callWith_KW0 (h₀ := X.base) I.ok.mod.kin M.kp hall ?_ hpl
  refine thn (hkw.run pos pins s σ H _ I h) ?_
  rintro ws s2 ⟨zs, H2, I2, rz, q2⟩
  refine ⟨I2.kIn, ?_⟩
  rw [hks]
  exact run_mkA (us := []) (vs := []) M F hr hx I2 .nil rz q2
end
/-! ### repr -/
section
variable {X : Cx} {CX : CXT} {k : Nat} {p pos : Pos} {e : Expr} {t : TA} {g : Addr} {sp : SpA} {E : XK}
theorem pe_repr (K : PySem.W.Frag) (hr : Rm k X.A) (hg : Gl X "repr") (hm : X.mg "repr" = none) (ha : PA X [e] t) (he : starEach [e] X.env = (false, eval e X.env) :: starEach [] X.env := by rfl)
    (hK : X.K = K := by rfl) : PE X (.Call (.Name "repr" p) [e] [] pos) (tCB (rRepr K) t) := hK ▸ pe_callB (call_repr hr) hg hm (by decide +kernel) ha (he := he)
theorem pe_reprOwn (K : PySem.W.Frag) (F : FnA X.prog X.w X.K X.mg X.base CX k g [] sp) (hr : Rm (k + 1) X.A) (hx : Passes CX X E) (hg : Gl X "repr") (hm : X.mg "repr" = none) (ha : PA X [e] t) (he : starEach [e] X.env = (false, eval e X.env) :: starEach [] X.env := by rfl)
    (hK : X.K = K := by rfl) : PE X (.Call (.Name "repr" p) [e] [] pos) (tCB (rReprOwn K g sp E) t) := hK ▸ pe_callB (call_reprOwn F hr hx) hg hm (by decide +kernel) ha (he := he)
end
/-! ### what a class call leaves -/
section
variable {H F H' : Hp} {x dx C : Addr} {o : HO}
theorem Gr.made (g : Gr [x] (upd (upd H dx (.own x)) x (.ins C dx [])) F H') (h1 : H x = none) (h2 : H dx = none) (ne : dx ≠ x) (e : H' x = some o) : Gr [] H (upd F x o) H' ∧ Same F (upd F x o) := by
  have h3 : (upd H dx (.own x)) x = none := by
    rw [upd_ne ne.symm]
    exact h1
  have g2 : Gr [x] H F H' := (g.off h3).off h2
  have fx : F x = none := g.nw.none upd_same
  have g3 := g2.add e h1
  refine ⟨{ nw := g3.nw, sb := g3.sb, kp := fun b u _ q => ?_, ex := g3.ex }, same_upd fx⟩
  refine g3.kp b u (fun m => ?_) q
  rw [List.mem_singleton.mp m, h1] at q
  cases q
end
/-! ### equality of data -/
theorem eqv_head {x y : Str} {ds es : List PyData} : PyData.eqv (.tuple (.str x :: ds)) (.tuple (.str y :: es)) = (x == y && PyData.eqv (.list ds) (.list es)) := by
  simp only [PyData.eqv, PyData.eqvAll]
theorem shaped_parts {n W : Nat} {w : Str} {ds : List PyData} (hw : PyData.strOk w = true) (h : ∀ d ∈ ds, Okd n W d) (hn : n < 64) : SeqAt.shaped (.tuple (.str w :: ds)) = true := by
  have z := okds h
  have d1 := z.dp
  unfold SeqAt.shaped
  rw [Bool.and_eq_true]
  refine ⟨by simp [PyData.canLay0, PyData.canLayAll0, hw, z.lay], decide_eq_true ?_⟩
  simp only [PyData.depth, PyData.depthAll]
  omega
end Gd
namespace Gd
open L2 PyProof.Rows PySem.Spec PySem
theorem lens_sum {B : Nat} : ∀ {ys : List Str}, (∀ y ∈ ys, y.length ≤ B) → (ys.map (fun x => x.length)).sum ≤ ys.length * B
  | [], _ => by simp
  | y :: ys, h => by
    have h1 := h y List.mem_cons_self
    have h2 := lens_sum (ys := ys) fun z hz => h z (List.mem_cons_of_mem _ hz)
    rw [List.map_cons, List.sum_cons, List.length_cons, Nat.succ_mul]
    omega
end Gd
namespace Gd
open L2 PyProof.Rows PySem.Spec PySem
/-! ### a and b, as one bool -/
def tAndC (ta tb : TE) : TE := fun σ H Q => ta σ H fun x H1 => ∃ c d : Bool, x = .bl c ∧ (c = true → ∀ R : VK, R (.bl d) H1 → tb σ H1 R) ∧ Q (.bl (c && d)) H1
section
variable {X : Cx} {a b : Expr} {rest : List Expr} {pos : Pos} {ta tb : TE}
theorem pe_andC (ha : PE X a ta) (hb : PE X (.BoolOp .And (b :: rest) pos) tb) : PE X (.BoolOp .And (a :: b :: rest) pos) (tAndC ta tb) := by
  constructor
  intro pins s σ H Q I h
  refine BoolOp_and (thn (ha.run pins s σ H _ I h) ?_)
  rintro v s1 ⟨x, H1, I1, r1, c, d, rfl, h2, q⟩
  cases r1
  refine wpAny_truthy_bool ?_
  cases c with
  | true => exact hb.run pins s1 σ H1 Q I1 (h2 rfl Q q)
  | false => exact ⟨.bl false, H1, I1, rfl, q⟩
end
theorem Gr.still {S : List Addr} {H0 F H H' : Hp} (g : Gr S H0 F H) (g' : Gr [] H emp H') : Gr S H0 F H' := by
  have h := g.call0 g'
  rwa [un_emp] at h
theorem ne_same (v : V) : (!decide (v = v)) = false := by simp
end Gd

namespace Gd
open L2 PyProof.Rows PySem.Spec PySem
/-! ### != of data with any texts -/
section
variable {X : Cx}
def rNeP (K : PySem.W.Frag) : R2 := fun x y H Q => ∃ d e, Dp K H x d ∧ Dp K H y e ∧ d.plain = true ∧ e.plain = true ∧ d.depth ≤ 60 ∧ Q (.bl (!PyData.eqv d e)) H
theorem op_neP (hu : X.A.units + 64 < cLine) : OpR X (compareOp .NotEq) (rNeP X.K) := by
  intro pins s σ H x y v u Q I rx ry h
  obtain ⟨d, e, hd, he, pd, pe, hdep, q⟩ := h
  obtain ⟨as, r1⟩ := Dp.reads I d x v hd rx
  obtain ⟨bs, r2⟩ := Dp.reads I e y u he ry
  exact PySem.SeqAt.ne_plain r1 r2 pd pe (by omega) ⟨.bl _, H, I, rfl, q⟩
theorem plain_strs : ∀ ys : List Str, PyData.plainAll (ys.map .str) = true
  | [] => rfl
  | y :: ys => by
    simp only [List.map_cons, PyData.plainAll, PyData.plain, Bool.true_and]
    exact plain_strs ys
theorem depth_strs : ∀ ys : List Str, PyData.depthAll (ys.map .str) ≤ 1
  | [] => by simp [PyData.depthAll]
  | y :: ys => by
    have := depth_strs ys
    simp only [List.map_cons, PyData.depthAll, PyData.depth]
    omega
theorem dp_strs {K : PySem.W.Frag} {H : Hp} : ∀ ys : List Str, DpAll K H (ys.map V.str) (ys.map .str)
  | [] => .nil
  | y :: ys => .cons (.str y) (dp_strs ys)
end
/-! ### (a, b, ..) as a target in a comprehension -/
section
variable {X : Cx}
theorem pg_tupK (K : PySem.W.Frag) {es : List Expr} {k : Nat} {pos : Pos} {t : TGs} {n : Nat} (hc : X.calm = true) (h : PGs X es t) (hK : X.K = K := by rfl)
    (hn : (assignEach es X.env).length = n := by rfl) (hst : (assignEach es X.env).findIdx? (·.1) = none := by rfl) : PG X (.Tuple es k pos) (gTup K n t) := hK ▸ pg_tup hc h hn hst
end
/-! ### more of how a heap grows -/
theorem Gr.more {S S' : List Addr} {H0 F H : Hp} (g : Gr S H0 F H) (h : ∀ b ∈ S, b ∈ S') : Gr S' H0 F H := { nw := g.nw, sb := g.sb, kp := fun b o n e => g.kp b o (fun m => n (h b m)) e, ex := g.ex }
end Gd

namespace Gd
open L2 PyProof.Rows PySem.Spec PySem
/-! ### the law's call from behind the top, for a promise that asks that no repr is under way -/
/-- what may be told of the heap there: the script alone, or nothing (the script is the module's own) -/
theorem told {P : Program} {w : World} {K : PySem.W.Frag} {h : Heap} {a : Addr} {us : List Value} {ns : List Int} (KX : K.In h) (ha : h.get? a = some { cls := .type "list", data := .seq us.toArray }) (hi : IntsAre us ns) (hl : ns.length ≤ sizeLine) :
    ∃ H : Hp, Only H ∧ SqL K H a (ns.map V.int) ∧ HOk P w H h ∧ ∀ b u, H b = some u → b = a ∧ K.lookup a = none := by
  have rv := vals_ints hi
  cases hk : K.lookup a with
  | none =>
    let T : HO := .frz { cls := .type "list", data := .seq us.toArray } (.lst (ns.map V.int))
    have at_a : (upd (fun _ => none) a T) a = some T := upd_same
    have off : ∀ b, b ≠ a → (upd (fun _ => none) a T) b = none := fun b n => upd_ne n
    refine ⟨upd (fun _ => none) a T, fun b => ?_, .inl (.inr ⟨_, at_a⟩), fun b u e => ?_, fun b u e => ?_⟩
    · by_cases z : b = a
      · subst z
        exact .inr ⟨_, _, at_a⟩
      · exact .inl (off b z)
    · by_cases z : b = a
      · subst z
        rw [at_a] at e
        cases e
        refine ⟨ha, ?_, us, _, rv, ha⟩
        rw [List.length_map]
        exact hl
      · rw [off b z] at e
        cases e
    · by_cases z : b = a
      · exact ⟨z, rfl⟩
      · rw [off b z] at e
        cases e
  | some o =>
    have e := KX a o hk
    rw [ha] at e
    cases e
    have hs : us.toArray.size ≤ sizeLine := by
      rw [List.size_toArray, hi.length]
      exact hl
    refine ⟨fun _ => none, fun _ => .inl rfl, .inr ⟨_, us.toArray, _, hk, rfl, rfl, rfl, hs, by simpa using rv⟩, fun b u z => ?_, fun b u z => ?_⟩
    · cases (show (none : Option HO) = some u from z)
    · cases (show (none : Option HO) = some u from z)
theorem top_call {P : Program} {w : World} {K : PySem.W.Frag} {mg mb : Str → Option Value} {k : Nat} {fa a : Addr} {sp : SpA} {s : Shared} {us : List Value} {ns : List Int}
    (KX : K.In s.heap) (G : s.heap.Ns mainGlobals mg) (B : s.heap.Ns builtinsNs mb) (hB : ∀ x : Str, x ≠ "__name__" → mb x = bootBuiltins x) (nl : s.heap.NoLimit) (ng : s.gens = #[])
    (ha : s.heap.get? a = some { cls := .type "list", data := .seq us.toArray }) (hi : IntsAre us ns) (hl : ns.length ≤ sizeLine) (hr : Rm k callerA)
    (F : ∀ base : Heap, K.In base → base.Ns mainGlobals mg → FnA P w K mg base CX0 k fa [] sp) (hsp : ∀ H : Hp, SqL K H a (ns.map V.int) → sp [.ref a] [] H (fun v _ => v = .bl true) fun _ _ _ => False) :
    codeAny (model P w) callerA (.call (.ref fa) ⟨[.ref a], []⟩) (fun r s2 => r = .ok (.ret (.bool true)) ∧ OldK s.heap s2.heap ∧ s2.os = s.os ∧ AllBare s2.gens) s := by
  obtain ⟨H, only, hS, hok, hA⟩ := told (P := P) (w := w) KX ha hi hl
  have isNone : ∀ {b : Addr} {o : Obj}, s.heap.get? b = some o → (b = a → False) → H b = none := by
    intro b o _ n
    cases q : H b with
    | none => rfl
    | some u => exact (n (hA b u q).1).elim
  have plain : ∀ {b : Addr} {o : Obj} {es : Array DictEntry} {ep : Nat}, s.heap.get? b = some o → o.data = .dict es ep → H b = none := by
    intro b o es ep e d
    refine isNone e fun z => ?_
    subst z
    rw [ha] at e
    cases e
    cases (show Data.seq us.toArray _ = Data.dict es ep from d)
  have ns' : ∀ {b : Addr} {m : Str → Option Value}, s.heap.Ns b m → (hidT s.heap H).Ns b m := by
    rintro b m ⟨o, es, ep, e, d, r⟩
    exact ⟨o, es, ep, hidT_get e (plain e d), d, r⟩
  have kin : K.In (hidT s.heap H) := by
    intro b o e
    refine hidT_get (KX b o e) ?_
    cases q : H b with
    | none => rfl
    | some u =>
      obtain ⟨z, n⟩ := hA b u q
      rw [z, n] at e
      cases e
  obtain ⟨mc, n1, n2⟩ := nl
  have M : Mod K mg (hidT s.heap H) := ⟨kin, ns' G, ⟨mb, ns' B, hB⟩, ⟨mc, ns' n1, n2⟩⟩
  have e0 : Env0 P w K mg (hidT s.heap H) callerA [] s H := ⟨rfl, M, fun b o e => of_hidT e, Nat.le_of_eq (hidT_size _ _), trivial, fun b hb => (nomatch (show b ∈ ([] : List Addr) from hb)), hok, .of_eq ng⟩
  have go := F _ kin (ns' G) callerA [] s H [.ref a] [] [.ref a] [] _ _ hr e0 (.cons rfl .nil) .nil (hsp H hS)
  refine codeAny_mono go ?_
  intro r s2 h
  cases r with
  | error e => exact False.elim h
  | ok fl =>
    cases fl with
    | ret u =>
      obtain ⟨v, H2, os, bare, un, hok2, rv, ev⟩ := h
      have ev2 : v = .bl true := ev
      subst ev2
      obtain rfl : u = Value.bool true := rv
      refine ⟨rfl, OldK.of_keep fun b o e => ?_, os, bare⟩
      cases q : H b with
      | none => exact un.keep b o e q (fun z => (nomatch (show b ∈ ([] : List Addr) from z))) (by simp)
      | some u =>
        rcases only b with z | ⟨ob, xs, z⟩
        · rw [q] at z
          cases z
        · have z2 := un.frzs b ob _ z
          have f1 := (hok b _ z).1
          have f2 := (hok2 b _ z2).1
          rw [e] at f1
          cases f1
          exact f2
    | next => exact False.elim h
    | brk => exact False.elim h
    | cont => exact False.elim h
theorem callerA_guards : callerA.guards = some [] := by rfl
/-- the goal case hc of a head, from the promise of the law's def -/
theorem top_walk {l : PySem.W.OpenLaw} {n k : Nat} {q : Program} {loose : List Str} {XP : (Str → Option Value) → Heap → Prop} {YP : World → Heap → Prop} {d : DefRec} (hn : l.most = some n) (hn2 : n ≤ sizeLine) (hdf : d.params.defaults = []) (hr : Room k callerA)
    (F : ∀ (w : World) (mg : Str → Option Value) (fa : Addr) (h : Heap), YP w h → h.Ns mainGlobals mg → mg d.name = some (.ref fa) →
      ∃ (K : PySem.W.Frag) (sp : SpA), K.In h ∧ (∀ (H : Hp) (a : Addr) (ns : List Int), ns.length ≤ n → SqL K H a (ns.map V.int) → sp [.ref a] [] H (fun v _ => v = .bl true) fun _ _ _ => False) ∧
        ∀ base : Heap, K.In base → base.Ns mainGlobals mg → FnA l.prog w K mg base CX0 k fa [] sp) :
    PySem.W.WalkO q loose XP YP l.row.toRowW d [] (fun f vs => PySem.call f vs) := by
  refine Att.attach_call hn hdf ?_
  intro w s0 s1 mg mb fa o pm cd doc a vs ns G Y ho hd hcd hmg hobj hints hlen hg
  obtain ⟨K, sp, KX, hsp, hF⟩ := F w mg fa _ Y G.T.g hmg
  exact top_call KX G.T.g G.T.b G.T.builtins G.T.nolimit hg hobj hints (Nat.le_trans hlen hn2) ⟨hr, callerA_guards⟩ hF fun H hS => hsp H a ns hlen hS
end Gd

namespace K77
open L2 PyProof.Rows PySem.Spec PySem Gd
def top (i : Nat) : Stmt := PySem.Challenge.pw_strayfiles_k77_cares_made.main.body.getD i (.Pass ⟨0, 0, 0, 0⟩)
/-- where the text's things stand -/
structure Ad where
  copied : Addr
  take : Addr
  bag : Addr
structure Tx0 (mg : Str → Option Value) (K : PySem.W.Frag) : Prop where
  b_len : mg "len" = none
  b_abs : mg "abs" = none
  b_int : mg "int" = none
abbrev FnD (K : PySem.W.Frag) (x : Str) (st : Stmt) (f : Addr) (fd : FuncData) : Prop := FunD K x x (defArgs st) (defBody st) (defScope st) [] [] f fd
local macro_rules | `(tactic| walk_at "rd0") => `(tactic| first
  | rfl
  | assumption
  | exact SqL.of (by assumption)
  | exact SqL.of upd_same
  | exact upd_same
  | exact SqT.of (by assumption)
  | exact SqT.of upd_same
  | decide
  | exact ⟨_, rfl⟩
  | exact ⟨by decide, by decide +kernel⟩
  | exact Or.inr ⟨by decide, by decide⟩
  | exact Or.inl ⟨_, by assumption, rfl⟩
  | exact Or.inl ⟨_, SqL.of (by assumption), rfl⟩
  | (simp only [List.length_cons, List.length_nil]; decide)
  | omega
  | decide +kernel
  | exact Or.inl ⟨by omega, by omega⟩)
local macro_rules | `(tactic| walk_at "rd1") => `(tactic| first
  | refine And.intro (by walk_at "rd0") ?_
  | apply Exists.intro
  | refine iteT ?_
  | (refine Or.inl ?_; apply Exists.intro; refine And.intro rfl ?_)
  | (refine Or.inr ?_; apply Exists.intro; refine And.intro rfl ?_)
  | (refine Or.inl ?_; apply Exists.intro; apply Exists.intro; refine And.intro rfl ?_; refine And.intro rfl ?_)
  | (refine Or.inr (Or.inl ?_); apply Exists.intro; apply Exists.intro; refine And.intro rfl ?_; refine And.intro rfl ?_))
local macro_rules | `(tactic| walk_at "rd") => `(tactic| repeat walk_at "rd1")
section
variable {P : Program} {w : World} {K : PySem.W.Frag} {mg : Str → Option Value} {base : Heap}
theorem sc__law_take : FnScope ["_law_bag_here", "_law_many", "_law_mixed", "_law_digit"] ["_law_bag_here", "_law_many"] (defScope (top 12)) := ⟨rfl, rfl, rfl, by decide +kernel, rfl, by decide +kernel, by decide +kernel⟩
theorem ok_take {f : Addr} {fd : FuncData} (F : FnD K "_law_take" ((top 12)) f fd) (T : Tx0 mg K) : FnA P w K mg base CX0 1 f [] spTake := by
  refine (okB (sp := fun vs H Q E => spTake vs [] H Q E) F sc__law_take fun cdv A outer s H vs Q E hr h => ?_).pos (FunD.bindsN F fun _ _ _ _ _ _ us hl => match us, hl with | [_, _], _ => rfl) (fun vs H Q E h => ?_) |>.imp fun vs zs H Q E h => ⟨h.1, h.1 ▸ h⟩
  · obtain ⟨_, p, n, rfl, h0, h9, ⟨d, m, c, eb⟩, k⟩ := h
    refine ⟨_, (pss_cons (ps_if (pt_cmpR op_gt (pe_ix ix_list (pv 0) pe_int (fun _ _ => rfl)) pe_int (nomark _)) (pss_cons (ps_set (i := 3) sc__law_take.nd rfl (Or.inl rfl) (pe_op op_mod (pe_callTy call_int1 (by rfl) T.b_int (by decide +kernel) (pa_cons (pe_ix ix_list (pv 0) pe_int (fun _ _ => rfl)) pa_nil)) (pv 1))) (pss_cons (ps_asg (pe_op op_fdivW (pe_ix ix_list (pv 0) pe_int (fun _ _ => rfl)) (pv 1)) (pg_sub (pv 0) pe_int set_list)) (pss_one (ps_ret (pv 3))))) pss_nil) (pss_cons (ps_asg (pe_op op_addA (pe_ix ix_list (pv 0) pe_int (fun _ _ => rfl)) pe_int) (pg_sub (pv 0) pe_int set_list)) (pss_cons (ps_set (i := 2) sc__law_take.nd rfl (Or.inl rfl) (pe_op op_mod (pe_callTy call_int1 (by rfl) T.b_int (by decide +kernel) (pa_cons (pe_op op_addA (pe_op op_addA (pe_op op_mul (pe_ix ix_list (pv 0) pe_int (fun _ _ => rfl)) pe_int) (pe_op op_mul (pe_ix ix_list (pv 0) pe_int (fun _ _ => rfl)) pe_int)) pe_int) pa_nil)) pe_int)) (pss_cons (ps_set (i := 2) sc__law_take.nd rfl (Or.inl rfl) (pe_op op_mod (pe_callTy call_int1 (by rfl) T.b_int (by decide +kernel) (pa_cons (pe_op op_addA (pe_op op_mul (pv 2) (pv 2)) (pe_op op_mul (pe_ix ix_list (pv 0) pe_int (fun _ _ => rfl)) pe_int)) pa_nil)) pe_int)) (pss_cons (ps_set (i := 2) sc__law_take.nd rfl (Or.inl rfl) (pe_op op_mod (pe_callTy call_int1 (by rfl) T.b_int (by decide +kernel) (pa_cons (pe_op op_addA (pe_op op_mul (pv 2) pe_int) (pe_ix ix_list (pv 0) pe_int (fun _ _ => rfl))) pa_nil)) pe_int)) (pss_one (ps_ret (pe_op op_mod (pe_callTy call_int1 (by rfl) T.b_int (by decide +kernel) (pa_cons (pe_op op_fdivW (pv 2) pe_int) pa_nil)) (pv 1))))))))), ?_⟩
    walk_at "rd"
    refine ite2 (fun hc => ?_) fun hc => ?_
    · walk_at "rd"
      refine And.intro ⟨h0, h9⟩ ?_
      walk_at "rd"
      exact k (d % n) (d / n) m c (Int.emod_nonneg _ (by omega)) (Int.emod_lt_of_pos _ h0)
    · walk_at "rd"
      exact k _ d m (c + 1) (Int.emod_nonneg _ (by omega)) (Int.emod_lt_of_pos _ h0)
  · obtain ⟨_, p, n, rfl, _⟩ := h
    rfl
theorem sc__law_bag : FnScope ["_law_script", "_law_at", "_law_cell"] ["_law_script", "_law_at"] (defScope (top 11)) := ⟨rfl, rfl, rfl, by decide +kernel, rfl, by decide +kernel, by decide +kernel⟩
theorem ok_bag {f : Addr} {fd : FuncData} (F : FnD K "_law_bag" ((top 11)) f fd) (T : Tx0 mg K) : FnA P w K mg base CX0 1 f [] (spBag K) := by
  refine (okB (sp := fun vs H Q E => spBag K vs [] H Q E) F sc__law_bag fun cdv A outer s H vs Q E hr h => ?_).pos (FunD.bindsN F fun _ _ _ _ _ _ us hl => match us, hl with | [_, _], _ => rfl) (fun vs H Q E h => ?_) |>.imp fun vs zs H Q E h => ⟨h.1, h.1 ▸ h⟩
  · obtain ⟨_, l, ns, i, rfl, hS, hl, h0, k⟩ := h
    refine ⟨_, (pss_cons (ps_set (i := 2) sc__law_bag.nd rfl (Or.inl rfl) (pe_ifExp (pt_cmpR op_lt (pv 1) (pe_callB call_len (by rfl) T.b_len (by decide +kernel) (pa_cons (pv 0) pa_nil)) (nomark _)) (pe_ix ix_list (pv 0) (pv 1) (fun _ _ => rfl)) (pv 1))) (pss_one (ps_ret (pe_lst (pa_cons (pe_ifExp (pt_cmpR op_ge (pe_callB call_abs (by rfl) T.b_abs (by decide +kernel) (pa_cons (pv 2) pa_nil)) (pe_op op_pow pe_int pe_int) (nomark _)) (pe_callB call_abs (by rfl) T.b_abs (by decide +kernel) (pa_cons (pv 2) pa_nil)) pe_int) (pa_cons (pe_op op_addA (pe_op op_mul (pe_callB call_abs (by rfl) T.b_abs (by decide +kernel) (pa_cons (pv 2) pa_nil)) pe_int) (pe_callTy call_int1 (by rfl) T.b_int (by decide +kernel) (pa_cons (pe_cmpR op_lt (pv 2) pe_int (nomark _)) pa_nil))) (pa_cons (pe_op op_addA (pe_op op_mul (pv 1) pe_int) pe_int) pa_nil))))))), ?_⟩
    have hlen : (ns.map V.int).length = ns.length := List.length_map ..
    have hat : i < (ns.length : Int) → atI (ns.map V.int) i = some (.int (ns.getD i.toNat 0)) := fun q => by
      obtain ⟨j, ej⟩ : ∃ j : Nat, i = (j : Int) := ⟨i.toNat, by omega⟩
      subst ej
      refine at_of (j := j) rfl ?_
      have lt : j < ns.length := by omega
      rw [List.getElem?_map, List.getElem?_eq_getElem lt]
      simp [List.getD, List.getElem?_eq_getElem lt]
    walk_at "rd"
    refine ite2 (fun hc => ?_) fun hc => ?_
    · walk_at "rd"
      refine And.intro (hat (by rw [hlen] at hc; exact of_decide_eq_true hc)) ?_
      walk_at "rd"
      refine ite2 (fun hc => ?_) fun hc => ?_
      all_goals
        walk_at "rd"
        exact fun p hp => k p _ _ _ hp
    · walk_at "rd"
      refine ite2 (fun hc => ?_) fun hc => ?_
      all_goals
        walk_at "rd"
        exact fun p hp => k p _ _ _ hp
  · obtain ⟨_, l, ns, i, rfl, _⟩ := h
    rfl
end
end K77

namespace K77
open L2 PyProof.Rows PySem.Spec PySem Gd
local macro_rules | `(tactic| walk_at "rd0") => `(tactic| first
  | rfl
  | assumption
  | exact SqL.of (by assumption)
  | exact SqL.of upd_same
  | exact upd_same
  | exact SqT.of (by assumption)
  | exact SqT.of upd_same
  | decide
  | exact ⟨_, rfl⟩
  | exact ⟨by decide, by decide +kernel⟩
  | exact Or.inr ⟨by decide, by decide⟩
  | exact Or.inl ⟨_, by assumption, rfl⟩
  | exact Or.inl ⟨_, SqL.of (by assumption), rfl⟩
  | (simp only [List.length_cons, List.length_nil]; decide)
  | omega
  | decide +kernel
  | exact Or.inl ⟨by omega, by omega⟩)
local macro_rules | `(tactic| walk_at "rd1") => `(tactic| first
  | refine And.intro (by walk_at "rd0") ?_
  | apply Exists.intro
  | refine iteT ?_
  | (refine Or.inl ?_; apply Exists.intro; refine And.intro rfl ?_)
  | (refine Or.inr ?_; apply Exists.intro; refine And.intro rfl ?_)
  | (refine Or.inl ?_; apply Exists.intro; apply Exists.intro; refine And.intro rfl ?_; refine And.intro rfl ?_)
  | (refine Or.inr (Or.inl ?_); apply Exists.intro; apply Exists.intro; refine And.intro rfl ?_; refine And.intro rfl ?_))
local macro_rules | `(tactic| walk_at "rd") => `(tactic| repeat walk_at "rd1")
/-! ### _law_value: some data -/
structure Tv (mg : Str → Option Value) (K : PySem.W.Frag) (take : Addr) : Prop where
  g__law_take : mg "_law_take" = some (.ref take)
  k__law_take : PySem.W.keepIn K (.ref take) = true
  b_range : mg "range" = none
  b_len : mg "len" = none
def alpha : Str := "abcdefghijklmnopqrstuvwxyz' "
theorem alpha_at {r : Int} (h0 : 0 ≤ r) (h1 : r < 28) : ∃ c, atI alpha.cps.toList r = some c ∧ c < 0x110000 := by
  obtain ⟨j, ej⟩ : ∃ j : Nat, r = (j : Int) := ⟨r.toNat, by omega⟩
  subst ej
  have hl : alpha.cps.toList.length = 28 := by decide +kernel
  have hj : j < alpha.cps.toList.length := by omega
  refine ⟨alpha.cps.toList[j], atI_nat (List.getElem?_eq_getElem hj), ?_⟩
  have all : (alpha.cps.toList.all fun c => decide (c < 0x110000)) = true := by decide +kernel
  exact of_decide_eq_true (List.all_eq_true.mp all _ (List.getElem_mem hj))
def spValue (K : PySem.W.Frag) : SpA := fun vs zs H Q _ => zs = [] ∧ ∃ p, vs = [.ref p] ∧ Bag H p ∧ ∀ v d F H', Gr [p] H F H' → Dp K F v d → Okd 3 2000 d → Bag H' p → Q v H'
section
variable {P : Program} {w : World} {K : PySem.W.Frag} {mg : Str → Option Value} {base : Heap}
theorem sc__law_value : FnScope ["_law_bag_here", "_law_letters", "_law_number", "_law_some", "_law_turn"] ["_law_bag_here"] (defScope (top 13)) := ⟨rfl, rfl, rfl, by decide +kernel, rfl, by decide +kernel, by decide +kernel⟩
theorem ok_value {f take : Addr} {fd : FuncData} (F : FnD K "_law_value" ((top 13)) f fd) (T : Tv mg K take) (F__law_take : FnA P w K mg base CX0 1 take [] spTake) : FnA P w K mg base CX0 2 f [] (spValue K) := by
  refine (okB (sp := fun vs H Q E => spValue K vs [] H Q E) F sc__law_value fun cdv A outer s H vs Q E hr h => ?_).pos (FunD.bindsN F fun _ _ _ _ _ _ us hl => match us, hl with | [_], _ => rfl) (fun vs H Q E h => ?_) |>.imp fun vs zs H Q E h => ⟨h.1, h.1 ▸ h⟩
  · obtain ⟨_, p, rfl, hb, k⟩ := h
    refine ⟨_, (pss_cons (ps_set (i := 1) sc__law_value.nd rfl (Or.inl rfl) (pe_join pe_str (pe_lc (own := [("_law_turn", 4)]) rfl sc__law_value.nd (pi_range1 (by rfl) T.b_range (pa_cons (pe_cl F__law_take (hr.mono (by decide)) rfl T.g__law_take T.k__law_take pass0 (pa_cons (pv 0) (pa_cons pe_int pa_nil))) pa_nil)) (blkOk_by (N := ["_law_bag_here", "_law_letters", "_law_number", "_law_some", "_law_turn"]) (sc := defScope (top 13)) (by decide +kernel)) (fun _ _ _ _ _ => (pg_name (i := 4) sc__law_value.nd rfl (Or.inl rfl))) (fun _ _ _ _ _ => pts_nil) (fun _ _ _ _ _ => (pe_ix ix_str pe_str (pe_cl F__law_take (hr.mono (by decide)) rfl T.g__law_take T.k__law_take pass0 (pa_cons (pv 0) (pa_cons pe_int pa_nil))) (fun _ _ => rfl)))))) (pss_cons (ps_set (i := 2) sc__law_value.nd rfl (Or.inl rfl) (pe_cl F__law_take (hr.mono (by decide)) rfl T.g__law_take T.k__law_take pass0 (pa_cons (pv 0) (pa_cons (pe_ix ix_list (pe_lst (pa_cons pe_int (pa_cons (pe_op op_pow pe_int pe_int) pa_nil))) (pe_cl F__law_take (hr.mono (by decide)) rfl T.g__law_take T.k__law_take pass0 (pa_cons (pv 0) (pa_cons pe_int pa_nil))) (fun _ _ => rfl)) pa_nil)))) (pss_cons (ps_set (i := 3) sc__law_value.nd rfl (Or.inl rfl) (pe_lst (pa_cons (pv 1) (pa_cons (pv 2) (pa_cons (pe_un un_neg (pv 2)) (pa_cons pe_non (pa_cons (pe_lst (pa_cons (pv 1) (pa_cons (pv 2) pa_nil))) (pa_cons (pe_tup (pa_cons (pv 2) (pa_cons (pe_lst (pa_cons (pv 1) pa_nil)) pa_nil))) (pa_cons (pe_lst pa_nil) (pa_cons (pe_tup pa_nil) (pa_cons pe_str (pa_cons pe_str (pa_cons pe_int (pa_cons pe_int pa_nil)))))))))))))) (pss_one (ps_ret (pe_ix ix_list (pv 3) (pe_cl F__law_take (hr.mono (by decide)) rfl T.g__law_take T.k__law_take pass0 (pa_cons (pv 0) (pa_cons (pe_callB call_len (by rfl) T.b_len (by decide +kernel) (pa_cons (pv 3) pa_nil)) pa_nil))) (fun _ _ => rfl))))))), ?_⟩
    walk_at "rd"
    intro r1 d1 m1 c1 h1 h1'
    walk_at "rd"
    intro D hD
    have hpD : D ≠ p := by
      intro z
      rw [z, upd_same] at hD
      cases hD
    have hD0 : H D = none := by rw [upd_ne hpD] at hD; exact hD
    have g1 : Gr [p] H emp (upd H p (.lst [.int d1, .int m1, .int c1])) := (Gr.refl [p] H).chg rfl (.inl List.mem_cons_self)
    refine lc_range (lo := 0) (n := r1.toNat) (fun i H1 => ∃ ys : List Str, H1 D = some (.lst (ys.map V.str)) ∧ ys.length = i ∧ (∀ y ∈ ys, ∃ c, y = ⟨#[c]⟩ ∧ c < 0x110000) ∧ Gr [p] H emp H1 ∧ Bag H1 p) ?_ ?_ ?_
    · exact ⟨[], upd_same, rfl, (fun y hy => by cases hy), g1.tmp hD, bag_upd.other hpD⟩
    · rintro i H1 hi ⟨ys, hys, hyl, hyc, g2, b2⟩
      walk_at "rd"
      intro r2 d2 m2 c2 h2 h2'
      obtain ⟨ch, hch, hcs⟩ := alpha_at h2 h2'
      refine ⟨alpha, _, ch, rfl, rfl, (by decide +kernel), hch, ys.map V.str, ?_, ?_, ys ++ [⟨#[ch]⟩], ?_, ?_, ?_, ?_, ?_⟩
      · rw [upd_ne hpD]
        exact hys
      · rw [List.length_map, hyl, sizeLine_eq]
        omega
      · rw [upd_same, List.map_append]
        rfl
      · rw [List.length_append, hyl]
        rfl
      · intro y hy
        rcases List.mem_append.mp hy with z | z
        · exact hyc y z
        · exact ⟨ch, List.mem_singleton.mp z, hcs⟩
      · exact (g2.chg rfl (.inl List.mem_cons_self)).chg rfl (.inr hD0)
      · exact bag_upd.other hpD
    · rintro H1 ⟨ys, hys, hyl, hyc, g2, b2⟩
      have hsum : ∀ zs : List Str, (∀ y ∈ zs, ∃ c, y = ⟨#[c]⟩ ∧ c < 0x110000) → (zs.map (·.length)).sum = zs.length := by
        intro zs
        induction zs with
        | nil => intro _; rfl
        | cons z zs ih =>
          intro hz
          obtain ⟨c, ec, _⟩ := hz z List.mem_cons_self
          rw [List.map_cons, List.sum_cons, ih fun y hy => hz y (List.mem_cons_of_mem _ hy), ec, List.length_cons]
          show 1 + zs.length = zs.length + 1
          omega
      have hs1 := hsum ys hyc
      have hel : (Str.ofString "").length = 0 := by decide +kernel
      refine ⟨_, D, ys, rfl, rfl, .inl (SqL.of hys), (by rw [hs1, hel, hyl]; omega), ?_⟩
      have hj : Okd 0 11 (.str (Txt.join (Str.ofString "") ys)) := by
        rw [txt_join]
        refine str_okd ?_ (join_codes (fun c hc => by cases hc) fun y hy c hc => ?_)
        · have := StrLaws.join_length_le (Str.ofString "") ys
          rw [hs1, hel, hyl] at this
          omega
        · obtain ⟨c', ec, hc'⟩ := hyc y hy
          subst ec
          have : c = c' := by simpa using hc
          rw [this]
          exact hc'
      generalize Txt.join (Str.ofString "") ys = letters at hj ⊢
      walk_at "rd"
      intro L1 hL1
      have nL1 : L1 ≠ p := fun z => b2.some (z ▸ hL1)
      have b3 := b2.other (o := .lst [.int 10, .int (10 ^ Int.toNat 30)]) nL1
      have g3 := g2.tmp (o := .lst [.int 10, .int (10 ^ Int.toNat 30)]) hL1
      walk_at "rd"
      intro r3 d3 m3 c3 h3 h3'
      have g4 := g3.chg (q := p) (o := .lst [.int d3, .int m3, .int c3]) rfl (.inl List.mem_cons_self)
      have b4 : Bag (upd (upd H1 L1 (.lst [.int 10, .int (10 ^ Int.toNat 30)])) p (.lst [.int d3, .int m3, .int c3])) p := bag_upd
      have e4 : (upd (upd H1 L1 (.lst [.int 10, .int (10 ^ Int.toNat 30)])) p (.lst [.int d3, .int m3, .int c3])) L1 = some (.lst [.int 10, .int (10 ^ Int.toNat 30)]) := by
        rw [upd_ne nL1, upd_same]
      generalize upd (upd H1 L1 (.lst [.int 10, .int (10 ^ Int.toNat 30)])) p (.lst [.int d3, .int m3, .int c3]) = H2 at g4 b4 e4 ⊢
      obtain ⟨n, hn, hn0, hn9, hn31⟩ : ∃ n : Int, atI [V.int 10, V.int (10 ^ Int.toNat 30)] r3 = some (.int n) ∧ 0 < n ∧ n.natAbs.log2 < 9000 ∧ n ≤ 10 ^ 30 := by
        have z : r3 = 0 ∨ r3 = 1 := by omega
        rcases z with z | z
        · subst z
          exact ⟨10, rfl, by decide, by decide +kernel, by decide +kernel⟩
        · subst z
          exact ⟨10 ^ Int.toNat 30, rfl, by decide +kernel, by decide +kernel, by decide +kernel⟩
      walk_at "rd"
      intro r5 d5 m5 c5 h5 h5'
      have g5 := g4.chg (q := p) (o := .lst [.int d5, .int m5, .int c5]) rfl (.inl List.mem_cons_self)
      have b5 : Bag (upd H2 p (.lst [.int d5, .int m5, .int c5])) p := bag_upd
      generalize upd H2 p (.lst [.int d5, .int m5, .int c5]) = H3 at g5 b5 ⊢
      have hi5 : Okd 0 104 (.int r5) := int_okd (by omega)
      have hi6 : Okd 0 104 (.int (-r5)) := int_okd (by omega)
      walk_at "rd"
      have y0 : Dp K emp (.str letters) (.str letters) := .str _
      have y1 : Dp K emp (.int r5) (.int r5) := .int _
      have y2 : Dp K emp (.int (-r5)) (.int (-r5)) := .int _
      intro l1 n1
      have s1 := same_upd (o := .lst [.str letters, .int r5]) (g5.fresh n1).1
      have g6 := g5.alloc (o := .lst [.str letters, .int r5]) n1
      have y3 : Dp K (upd emp l1 (.lst [.str letters, .int r5])) (.ref l1) (.list [.str letters, .int r5]) := .lst (SqL.of upd_same) (.cons (.str _) (.cons (.int _) .nil))
      have b6 : Bag (upd H3 l1 (.lst [.str letters, .int r5])) p := b5.other fun z => b5.some (z ▸ n1)
      generalize upd emp l1 (.lst [.str letters, .int r5]) = F1 at s1 g6 y3
      generalize upd H3 l1 (.lst [.str letters, .int r5]) = H4 at g6 b6 ⊢
      walk_at "rd"
      intro l2 n2
      have s2 := same_upd (o := .lst [.str letters]) (g6.fresh n2).1
      have g7 := g6.alloc (o := .lst [.str letters]) n2
      have y4 : Dp K (upd F1 l2 (.lst [.str letters])) (.ref l2) (.list [.str letters]) := .lst (SqL.of upd_same) (.cons (.str _) .nil)
      have b7 : Bag (upd H4 l2 (.lst [.str letters])) p := b6.other fun z => b6.some (z ▸ n2)
      generalize upd F1 l2 (.lst [.str letters]) = F2 at s2 g7 y4
      generalize upd H4 l2 (.lst [.str letters]) = H5 at g7 b7 ⊢
      walk_at "rd"
      intro l3 n3
      have s3 := same_upd (o := .tup [.int r5, .ref l2]) (g7.fresh n3).1
      have g8 := g7.alloc (o := .tup [.int r5, .ref l2]) n3
      have y5 : Dp K (upd F2 l3 (.tup [.int r5, .ref l2])) (.ref l3) (.tuple [.int r5, .list [.str letters]]) := .tup (SqT.of upd_same) (.cons (.int _) (.cons (dp_up s3 _ y4) .nil))
      have b8 : Bag (upd H5 l3 (.tup [.int r5, .ref l2])) p := b7.other fun z => b7.some (z ▸ n3)
      generalize upd F2 l3 (.tup [.int r5, .ref l2]) = F3 at s3 g8 y5
      generalize upd H5 l3 (.tup [.int r5, .ref l2]) = H6 at g8 b8 ⊢
      walk_at "rd"
      intro l4 n4
      have s4 := same_upd (o := .lst []) (g8.fresh n4).1
      have g9 := g8.alloc (o := .lst []) n4
      have y6 : Dp K (upd F3 l4 (.lst [])) (.ref l4) (.list []) := .lst (SqL.of upd_same) .nil
      have b9 : Bag (upd H6 l4 (.lst [])) p := b8.other fun z => b8.some (z ▸ n4)
      generalize upd F3 l4 (.lst []) = F4 at s4 g9 y6
      generalize upd H6 l4 (.lst []) = H7 at g9 b9 ⊢
      walk_at "rd"
      intro l5 n5
      have s5 := same_upd (o := .tup []) (g9.fresh n5).1
      have g10 := g9.alloc (o := .tup []) n5
      have y7 : Dp K (upd F4 l5 (.tup [])) (.ref l5) (.tuple []) := .tup (SqT.of upd_same) .nil
      have b10 : Bag (upd H7 l5 (.tup [])) p := b9.other fun z => b9.some (z ▸ n5)
      generalize upd F4 l5 (.tup []) = F5 at s5 g10 y7
      generalize upd H7 l5 (.tup []) = H8 at g10 b10 ⊢
      walk_at "rd"
      intro B nB
      have all : DpAll K F5 [V.str letters, V.int r5, V.int (-r5), V.non, V.ref l1, V.ref l3, V.ref l4, V.ref l5, V.str "touch", V.str "shared", V.int 0, V.int 1]
          [.str letters, .int r5, .int (-r5), .none, .list [.str letters, .int r5], .tuple [.int r5, .list [.str letters]], .list [], .tuple [], .str "touch", .str "shared", .int 0, .int 1] :=
        .cons (.str _) (.cons (.int _) (.cons (.int _) (.cons .non (.cons (dp_up s5 _ (dp_up s4 _ (dp_up s3 _ (dp_up s2 _ y3)))) (.cons (dp_up s5 _ (dp_up s4 _ y5)) (.cons (dp_up s5 _ y6) (.cons y7
          (.cons (.str _) (.cons (.str _) (.cons (.int _) (.cons (.int _) .nil)))))))))))
      generalize hvs : [V.str letters, V.int r5, V.int (-r5), V.non, V.ref l1, V.ref l3, V.ref l4, V.ref l5, V.str "touch", V.str "shared", V.int 0, V.int 1] = vs12 at all ⊢
      have hlen : vs12.length = 12 := by rw [← hvs]; rfl
      have g11 := g10.tmp (o := .lst vs12) nB
      have nBp : B ≠ p := fun z => b10.some (z ▸ nB)
      have b11 : Bag (upd H8 B (.lst vs12)) p := b10.other nBp
      have eB : (upd H8 B (.lst vs12)) B = some (.lst vs12) := upd_same
      generalize upd H8 B (.lst vs12) = H9 at g11 b11 eB ⊢
      walk_at "rd"
      rw [hlen]
      refine And.intro (by decide +kernel) (And.intro b11 ?_)
      intro r d m c hr0 hr1
      have hr1' : r < 12 := hr1
      have g12 := g11.chg (q := p) (o := .lst [.int d, .int m, .int c]) (hb.free g11) (.inl List.mem_cons_self)
      obtain ⟨jx, ejx⟩ : ∃ jx : Nat, r = (jx : Int) := ⟨r.toNat, by omega⟩
      subst ejx
      have hjx : jx < vs12.length := by omega
      obtain ⟨dx, hdx, hDp⟩ := dpAll_get all (List.getElem?_eq_getElem hjx)
      refine ⟨B, vs12, (jx : Int), vs12[jx], rfl, rfl, SqL.of (by rw [upd_ne nBp]; exact eB), atI_nat (List.getElem?_eq_getElem hjx), ?_⟩
      have hok : Okd 3 2000 dx := by
        have hmem := List.mem_of_getElem? hdx
        have hl1 : Okd 1 400 (.list [.str letters, .int r5]) := (Okd.list (n := 0) (W := 104) (k := 2) (fun d hd => by
          rcases List.mem_cons.mp hd with z | hd
          · rw [z]; exact hj.mono (Nat.le_refl _) (by decide)
          · rw [List.mem_singleton.mp hd]; exact hi5) (Nat.le_refl _)).mono (by decide) (by decide)
        have hl2 : Okd 1 104 (.list [.str letters]) := (Okd.list (n := 0) (W := 11) (k := 1) (fun d hd => by rw [List.mem_singleton.mp hd]; exact hj) (Nat.le_refl _)).mono (by decide) (by decide)
        have hl3 : Okd 2 2000 (.tuple [.int r5, .list [.str letters]]) := (Okd.tuple (n := 1) (W := 104) (k := 2) (fun d hd => by
          rcases List.mem_cons.mp hd with z | hd
          · rw [z]; exact hi5.mono (by decide) (by decide)
          · rw [List.mem_singleton.mp hd]; exact hl2) (Nat.le_refl _)).mono (by decide) (by decide)
        have hl4 : Okd 1 2000 (.list []) := (Okd.list (n := 0) (W := 0) (k := 0) (fun d hd => by cases hd) (by decide)).mono (by decide) (by decide)
        have hl5 : Okd 1 2000 (.tuple []) := (Okd.tuple (n := 0) (W := 0) (k := 0) (fun d hd => by cases hd) (by decide)).mono (by decide) (by decide)
        have ht : Okd 0 2000 (.str "touch") := (str_okd (n := 10) (by decide +kernel) (by decide +kernel)).mono (by decide) (by decide)
        have hsh : Okd 0 2000 (.str "shared") := (str_okd (n := 10) (by decide +kernel) (by decide +kernel)).mono (by decide) (by decide)
        have i0 : Okd 0 104 (.int 0) := int_okd (by decide)
        have i1 : Okd 0 104 (.int 1) := int_okd (by decide)
        simp only [List.mem_cons, List.not_mem_nil, or_false] at hmem
        rcases hmem with z | z | z | z | z | z | z | z | z | z | z | z <;> subst z
        · exact hj.mono (by decide) (by decide)
        · exact hi5.mono (by decide) (by decide)
        · exact hi6.mono (by decide) (by decide)
        · exact none_okd.mono (by decide) (by decide)
        · exact hl1.mono (by decide) (by decide)
        · exact hl3.mono (by decide) (by decide)
        · exact hl4.mono (by decide) (by decide)
        · exact hl5.mono (by decide) (by decide)
        · exact ht.mono (by decide) (by decide)
        · exact hsh.mono (by decide) (by decide)
        · exact i0.mono (by decide) (by decide)
        · exact i1.mono (by decide) (by decide)
      exact k vs12[jx] dx F5 _ g12 hDp hok bag_upd
  · obtain ⟨_, p, rfl, _⟩ := h
    rfl
end
end K77

namespace K77
open L2 PyProof.Rows PySem.Spec PySem Gd
local macro_rules | `(tactic| walk_at "rd0") => `(tactic| first
  | rfl
  | assumption
  | exact SqL.of (by assumption)
  | exact SqL.of upd_same
  | exact upd_same
  | exact SqT.of (by assumption)
  | exact SqT.of upd_same
  | decide
  | exact ⟨_, rfl⟩
  | exact ⟨by decide, by decide +kernel⟩
  | exact Or.inr ⟨by decide, by decide⟩
  | exact Or.inl ⟨_, by assumption, rfl⟩
  | exact Or.inl ⟨_, SqL.of (by assumption), rfl⟩
  | (simp only [List.length_cons, List.length_nil]; decide)
  | omega
  | decide +kernel
  | exact Or.inl ⟨by omega, by omega⟩)
local macro_rules | `(tactic| walk_at "rd1") => `(tactic| first
  | refine And.intro (by walk_at "rd0") ?_
  | apply Exists.intro
  | refine iteT ?_
  | (refine Or.inl ?_; apply Exists.intro; refine And.intro rfl ?_)
  | (refine Or.inr ?_; apply Exists.intro; refine And.intro rfl ?_)
  | (refine Or.inl ?_; apply Exists.intro; apply Exists.intro; refine And.intro rfl ?_; refine And.intro rfl ?_)
  | (refine Or.inr (Or.inl ?_); apply Exists.intro; apply Exists.intro; refine And.intro rfl ?_; refine And.intro rfl ?_))
local macro_rules | `(tactic| walk_at "rd") => `(tactic| repeat walk_at "rd1")
/-! ### copied -/
structure Tc (mg : Str → Option Value) (K : PySem.W.Frag) (copied : Addr) : Prop where
  g_copied : mg "copied" = some (.ref copied)
  k_copied : PySem.W.keepIn K (.ref copied) = true
  b_isinstance : mg "isinstance" = none
  b_list : mg "list" = none
  b_tuple : mg "tuple" = none
def spCopied (K : PySem.W.Frag) (n : Nat) : SpA := fun vs zs H Q _ => zs = [] ∧ ∃ v d, vs = [v] ∧ Dp K H v d ∧ Okd n 140000 d ∧ ∀ v' F H', Gr [] H F H' → Dp K F v' d → Q v' H'
section
variable {P : Program} {w : World} {K : PySem.W.Frag} {mg : Str → Option Value} {base : Heap}
theorem sc_copied : FnScope ["thing", "one"] ["thing"] (defScope (top 2)) := ⟨rfl, rfl, rfl, by decide +kernel, rfl, by decide +kernel, by decide +kernel⟩
theorem ok_copied {f : Addr} {fd : FuncData} (F : FnD K "copied" ((top 2)) f fd) (T : Tc mg K f) : ∀ n, FnA P w K mg base CX0 (n + 1) f [] (spCopied K n) := by
  intro n
  induction n with
  | zero =>
    refine (okB (sp := fun vs H Q E => spCopied K 0 vs [] H Q E) F sc_copied fun cdv A outer s H vs Q E hr h => ?_).pos (FunD.bindsN F fun _ _ _ _ _ _ us hl => match us, hl with | [_], _ => rfl) (fun vs H Q E h => ?_) |>.imp fun vs zs H Q E h => ⟨h.1, h.1 ▸ h⟩
    · obtain ⟨_, v, d, rfl, hd, ho, k⟩ := h
      refine ⟨_, pss_cons (ps_if (pt_val (pe_callB call_isi (by rfl) T.b_isinstance (by decide +kernel) (pa_cons (pv 0) (pa_cons (pe_bltn (v := .ty "list") (by rfl) T.b_list (by decide +kernel) rfl) pa_nil)))) pss_never pss_nil)
        (pss_cons (ps_if (pt_val (pe_callB call_isi (by rfl) T.b_isinstance (by decide +kernel) (pa_cons (pv 0) (pa_cons (pe_bltn (v := .ty "tuple") (by rfl) T.b_tuple (by decide +kernel) rfl) pa_nil)))) pss_never pss_nil) (pss_one (ps_ret (pv 0)))), ?_⟩
      have ht := ty_of_dp hd
      have nl : isLst d = false := by
        cases d with
        | list ds => exact absurd ho.listPos (by rintro ⟨m, z⟩; omega)
        | _ => rfl
      have nt : isTup d = false := by
        cases d with
        | tuple ds => exact absurd ho.tuplePos (by rintro ⟨m, z⟩; omega)
        | _ => rfl
      refine ⟨_, rfl, v, .ty "list", _, _, isLst d, rfl, .ty _, ht, kit_list d, _, rfl, ?_⟩
      rw [nl]
      refine iteF ?_
      refine ⟨_, rfl, v, .ty "tuple", _, _, isTup d, rfl, .ty _, ht, kit_tuple d, _, rfl, ?_⟩
      rw [nt]
      refine iteF ?_
      refine ⟨_, rfl, ?_⟩
      refine k v emp H (Gr.refl [] H) ?_
      cases hd with
      | non => exact .non
      | bl b => exact .bl b
      | int i => exact .int i
      | str x => exact .str x
      | lst _ _ => exact absurd ho.listPos (by rintro ⟨m, z⟩; omega)
      | tup _ _ => exact absurd ho.tuplePos (by rintro ⟨m, z⟩; omega)
    · obtain ⟨_, v, d, rfl, _⟩ := h
      rfl
  | succ n ih =>
    have F_copied := ih
    refine (okB (sp := fun vs H Q E => spCopied K (n + 1) vs [] H Q E) F sc_copied fun cdv A outer s H vs Q E hr h => ?_).pos (FunD.bindsN F fun _ _ _ _ _ _ us hl => match us, hl with | [_], _ => rfl) (fun vs H Q E h => ?_) |>.imp fun vs zs H Q E h => ⟨h.1, h.1 ▸ h⟩
    · obtain ⟨_, v, d, rfl, hd, ho, k⟩ := h
      refine ⟨_, (pss_cons (ps_if (pt_val (pe_callB call_isi (by rfl) T.b_isinstance (by decide +kernel) (pa_cons (pv 0) (pa_cons (pe_bltn (v := .ty "list") (by rfl) T.b_list (by decide +kernel) rfl) pa_nil)))) (pss_one (ps_ret (pe_lc (own := [("one", 1)]) rfl sc_copied.nd (pi_list (pv 0)) (blkOk_by (N := ["thing", "one"]) (sc := defScope (top 2)) (by decide +kernel)) (fun _ _ _ _ _ => (pg_name (i := 1) sc_copied.nd rfl (Or.inl rfl))) (fun _ _ _ _ _ => pts_nil) (fun _ _ _ _ _ => (pe_cl F_copied (hr.mono (by first | decide | omega)) rfl T.g_copied T.k_copied pass0 (pa_cons (pv 1) pa_nil)))))) pss_nil) (pss_cons (ps_if (pt_val (pe_callB call_isi (by rfl) T.b_isinstance (by decide +kernel) (pa_cons (pv 0) (pa_cons (pe_bltn (v := .ty "tuple") (by rfl) T.b_tuple (by decide +kernel) rfl) pa_nil)))) (pss_one (ps_ret (pe_callTy call_tuple_of (by rfl) T.b_tuple (by decide +kernel) (pa_cons (pe_lc (own := [("one", 1)]) rfl sc_copied.nd (pi_tup (pv 0)) (blkOk_by (N := ["thing", "one"]) (sc := defScope (top 2)) (by decide +kernel)) (fun _ _ _ _ _ => (pg_name (i := 1) sc_copied.nd rfl (Or.inl rfl))) (fun _ _ _ _ _ => pts_nil) (fun _ _ _ _ _ => (pe_cl F_copied (hr.mono (by first | decide | omega)) rfl T.g_copied T.k_copied pass0 (pa_cons (pv 1) pa_nil)))) pa_nil)))) pss_nil) (pss_one (ps_ret (pv 0))))), ?_⟩
      have ht := ty_of_dp hd
      refine ⟨_, rfl, v, .ty "list", _, _, isLst d, rfl, .ty _, ht, kit_list d, _, rfl, ?_⟩
      cases d with
      | list ds =>
        refine iteT ?_
        obtain ⟨hlen, hits⟩ := ho.ofList
        cases hd with
        | @lst a xs _ hS hD =>
          refine ⟨_, rfl, a, rfl, ⟨_, hS⟩, ?_⟩
          intro D hDn
          have hl := dpAll_len hD
          refine lc_list (K := K) (a := a) (xs := xs) (fun i H1 => ∃ ys F, H1 D = some (.lst ys) ∧ ys.length = i ∧ Gr [] H F H1 ∧ F D = none ∧ DpAll K F ys (ds.take i)) ?_ ?_ ?_ ?_
          · exact ⟨[], emp, upd_same, rfl, (Gr.refl [] H).tmp hDn, rfl, .nil⟩
          · rintro i H1 _ ⟨ys, F, e1, e2, g, e4, e5⟩
            exact g.same.seq hS
          · rintro i x H1 hx ⟨ys, F, e1, e2, g, e4, e5⟩
            obtain ⟨dx, m1, m2, m3⟩ := dpAll_at hD hx
            have hi : i < xs.length := (List.getElem?_eq_some_iff.mp hx).1
            refine And.intro rfl ?_
            refine ⟨_, rfl, rfl, x, dx, rfl, dp_up g.same _ m3, hits dx m1, fun v' F' H' g' q' => ?_⟩
            have nF : F' D = none := g'.nw.none e1
            have eD : H' D = some (.lst ys) := g'.same _ _ e1
            have gg := (g.call0 g').chg (q := D) (o := .lst (ys ++ [v'])) (un_none e4 nF) (.inr hDn)
            refine ⟨ys, eD, by rw [e2, sizeLine_eq]; omega, ys ++ [v'], un F F', upd_same, by rw [List.length_append, e2]; rfl, gg, un_none e4 nF, ?_⟩
            exact dpAll_snoc (dpAll_up (un_left F F') _ e5) m2 (dp_up (g.un_r g') _ q')
          · rintro H1 ⟨ys, F, e1, e2, g, e4, e5⟩
            rw [hl, List.take_length] at e5
            refine k (.ref D) (upd F D (.lst ys)) H1 (g.add e1 hDn) (.lst (SqL.of upd_same) (dpAll_up (same_upd e4) _ e5))
      | tuple ds =>
        refine iteF ?_
        refine ⟨_, rfl, v, .ty "tuple", _, _, true, rfl, .ty _, ht, kit_tuple (.tuple ds), _, rfl, iteT ?_⟩
        obtain ⟨hlen, hits⟩ := ho.ofTuple
        cases hd with
        | @tup a xs _ hS hD =>
          refine ⟨_, rfl, a, rfl, ⟨_, hS⟩, ?_⟩
          intro D hDn
          have hl := dpAll_len hD
          refine lc_tup (K := K) (a := a) (xs := xs) (fun i H1 => ∃ ys F, H1 D = some (.lst ys) ∧ ys.length = i ∧ Gr [] H F H1 ∧ F D = none ∧ DpAll K F ys (ds.take i)) ?_ ?_ ?_ ?_
          · exact ⟨[], emp, upd_same, rfl, (Gr.refl [] H).tmp hDn, rfl, .nil⟩
          · rintro i H1 _ ⟨ys, F, e1, e2, g, e4, e5⟩
            exact seqT_up g.same hS
          · rintro i x H1 hx ⟨ys, F, e1, e2, g, e4, e5⟩
            obtain ⟨dx, m1, m2, m3⟩ := dpAll_at hD hx
            have hi : i < xs.length := (List.getElem?_eq_some_iff.mp hx).1
            refine And.intro rfl ?_
            refine ⟨_, rfl, rfl, x, dx, rfl, dp_up g.same _ m3, hits dx m1, fun v' F' H' g' q' => ?_⟩
            have nF : F' D = none := g'.nw.none e1
            have eD : H' D = some (.lst ys) := g'.same _ _ e1
            have gg := (g.call0 g').chg (q := D) (o := .lst (ys ++ [v'])) (un_none e4 nF) (.inr hDn)
            refine ⟨ys, eD, by rw [e2, sizeLine_eq]; omega, ys ++ [v'], un F F', upd_same, by rw [List.length_append, e2]; rfl, gg, un_none e4 nF, ?_⟩
            exact dpAll_snoc (dpAll_up (un_left F F') _ e5) m2 (dp_up (g.un_r g') _ q')
          · rintro H1 ⟨ys, F, e1, e2, g, e4, e5⟩
            rw [hl, List.take_length] at e5
            refine ⟨D, ys, rfl, .inl ⟨SqL.of e1, fun l hln => ?_⟩⟩
            exact k (.ref l) (upd F l (.tup ys)) _ (g.alloc hln) (.tup (SqT.of upd_same) (dpAll_up (same_upd (g.fresh hln).1) _ e5))
      | dict _ => cases hd
      | none =>
        refine iteF ?_
        refine ⟨_, rfl, v, .ty "tuple", _, _, false, rfl, .ty _, ht, kit_tuple _, _, rfl, iteF ?_⟩
        cases hd
        exact ⟨_, rfl, k _ emp H (Gr.refl [] H) .non⟩
      | bool b =>
        refine iteF ?_
        refine ⟨_, rfl, v, .ty "tuple", _, _, false, rfl, .ty _, ht, kit_tuple (.bool b), _, rfl, iteF ?_⟩
        cases hd
        exact ⟨_, rfl, k _ emp H (Gr.refl [] H) (.bl b)⟩
      | int b =>
        refine iteF ?_
        refine ⟨_, rfl, v, .ty "tuple", _, _, false, rfl, .ty _, ht, kit_tuple (.int b), _, rfl, iteF ?_⟩
        cases hd
        exact ⟨_, rfl, k _ emp H (Gr.refl [] H) (.int b)⟩
      | str b =>
        refine iteF ?_
        refine ⟨_, rfl, v, .ty "tuple", _, _, false, rfl, .ty _, ht, kit_tuple (.str b), _, rfl, iteF ?_⟩
        cases hd
        exact ⟨_, rfl, k _ emp H (Gr.refl [] H) (.str b)⟩
    · obtain ⟨_, v, d, rfl, _⟩ := h
      rfl
end
end K77

namespace K77
open L2 PyProof.Rows PySem.Spec PySem Gd
local macro_rules | `(tactic| walk_at "rd0") => `(tactic| first
  | rfl
  | assumption
  | exact SqL.of (by assumption)
  | exact SqL.of upd_same
  | exact upd_same
  | exact SqT.of (by assumption)
  | exact SqT.of upd_same
  | decide
  | exact ⟨_, rfl⟩
  | exact ⟨by decide, by decide +kernel⟩
  | exact Or.inr ⟨by decide, by decide⟩
  | exact Or.inl ⟨_, by assumption, rfl⟩
  | exact Or.inl ⟨_, SqL.of (by assumption), rfl⟩
  | (simp only [List.length_cons, List.length_nil]; decide)
  | omega
  | decide +kernel
  | exact Or.inl ⟨by omega, by omega⟩)
local macro_rules | `(tactic| walk_at "rd1") => `(tactic| first
  | refine And.intro (by walk_at "rd0") ?_
  | apply Exists.intro
  | refine iteT ?_
  | (refine Or.inl ?_; apply Exists.intro; refine And.intro rfl ?_)
  | (refine Or.inr ?_; apply Exists.intro; refine And.intro rfl ?_)
  | (refine Or.inl ?_; apply Exists.intro; apply Exists.intro; refine And.intro rfl ?_; refine And.intro rfl ?_)
  | (refine Or.inr (Or.inl ?_); apply Exists.intro; apply Exists.intro; refine And.intro rfl ?_; refine And.intro rfl ?_))
local macro_rules | `(tactic| walk_at "rd") => `(tactic| repeat walk_at "rd1")
/-! ### the classes -/
def attrs : List Str := ["parts", "name", "at", "text", "condition", "age", "names"]
structure ClsF (K : PySem.W.Frag) (C care eqA reprA initA : Addr) : Prop where
  cl : Cls K C
  na : ∀ f ∈ attrs, NoAttr K C f
  eq : Meth K C "__eq__" eqA
  rp : Meth K C "__repr__" reprA
  ca : PySem.W.findIn K (.ref C) "__class__" = some (some (.builtin "object.__class__"))
  cn : PySem.W.specialIn K (.builtin "object.__class__") "__get__" = some (some (.builtin "getset_descriptor.__get__"))
  ct : PySem.W.takesIn K (.builtin "object.__class__") = some true
  cm : PySem.W.mroIn K C (.type "object") = some true
  kit : PySem.W.kitOne K (.ref C) (.ref care) = some true
  sup : SupTo K C C initA
/-- the parts of a care: its word and copies of its fields, new -/
def Parts (K : PySem.W.Frag) (F : Hp) (t : Addr) (word : Str) (vs : List V) (ds : List PyData) : Prop := F t = some (.tup (.str word :: vs)) ∧ DpAll K F vs ds
def spBase (K : PySem.W.Frag) (care eqA reprA initA : Addr) : SpA := fun vs zs H Q _ => zs = [] ∧ ∃ (a C dx : Addr) (word : Str) (vals : List V) (ds : List PyData), vs = .ref a :: .str word :: vals ∧ H a = some (.ins C dx []) ∧ ClsF K C care eqA reprA initA ∧
  DpAll K H vals ds ∧ (∀ d ∈ ds, Okd 8 140000 d) ∧ vals.length ≤ 3 ∧
  ∀ F H' t vs', Gr [a] H F H' → Parts K F t word vs' ds → H' a = some (.ins C dx [("parts", .ref t)]) → Q .non H'
section
variable {P : Program} {w : World} {K : PySem.W.Frag} {mg : Str → Option Value} {base : Heap}
theorem sc_Care___init__ : FnScope ["self", "word", "fields", "one"] ["self", "word", "fields"] (defScope (inClass (top 3) 0)) := ⟨rfl, rfl, rfl, by decide +kernel, rfl, by decide +kernel, by decide +kernel⟩
theorem ok_base {f copied care eqA reprA : Addr} {fd : FuncData} (F : FunD K "__init__" "Care.__init__" (defArgs ((inClass (top 3) 0))) (defBody ((inClass (top 3) 0))) (defScope (inClass (top 3) 0)) [] [] f fd)
    (T : Tc mg K copied) (F_copied : FnA P w K mg base CX0 9 copied [] (spCopied K 8)) : FnA P w K mg base CX0 10 f [] (spBase K care eqA reprA f) := by
  have B : FnB P w K mg base CX0 10 f fd ["self", "word", "fields"] (fun vs H Q E => ∃ (a C dx p : Addr) (word : Str) (vals : List V) (ds : List PyData), vs = [.ref a, .str word, .ref p] ∧ H a = some (.ins C dx []) ∧ ClsF K C care eqA reprA f ∧
      H p = some (.tup vals) ∧ DpAll K H vals ds ∧ (∀ d ∈ ds, Okd 8 140000 d) ∧ vals.length ≤ 3 ∧
      ∀ F H' t vs', Gr [a] H F H' → Parts K F t word vs' ds → H' a = some (.ins C dx [("parts", .ref t)]) → Q .non H') := by
    refine okB F sc_Care___init__ fun cdv A outer s H vs Q E hr h => ?_
    obtain ⟨a, C, dx, p, word, vals, ds, rfl, ha, hC, hp, hD, hok, hl3, k⟩ := h
    refine ⟨_, (pss_one (ps_fld (pv 0) (pe_tup (pa_cons (pv 1) (StX.pa_star (pe_lc (own := [("one", 3)]) rfl sc_Care___init__.nd (pi_tup (pv 2)) (blkOk_by (N := ["self", "word", "fields", "one"]) (sc := defScope (inClass (top 3) 0)) (by decide +kernel)) (fun _ _ _ _ _ => (pg_name (i := 3) sc_Care___init__.nd rfl (Or.inl rfl))) (fun _ _ _ _ _ => pts_nil) (fun _ _ _ _ _ => (pe_cl F_copied (hr.mono (by first | decide | omega)) rfl T.g_copied T.k_copied pass0 (pa_cons (pv 3) pa_nil)))) pa_nil))) rfl)), ?_⟩
    have hl := dpAll_len hD
    refine ⟨_, rfl, _, rfl, p, rfl, ⟨_, SqT.of hp⟩, ?_⟩
    intro D hDn
    have nDa : D ≠ a := fun z => by subst z; rw [ha] at hDn; cases hDn
    refine lc_tup (K := K) (a := p) (xs := vals) (fun i H1 => ∃ ys F, H1 D = some (.lst ys) ∧ ys.length = i ∧ Gr [] H F H1 ∧ F D = none ∧ DpAll K F ys (ds.take i)) ?_ ?_ ?_ ?_
    · exact ⟨[], emp, upd_same, rfl, (Gr.refl [] H).tmp hDn, rfl, .nil⟩
    · rintro i H1 _ ⟨ys, F, e1, e2, g, e4, e5⟩
      exact seqT_up g.same (SqT.of hp)
    · rintro i x H1 hx ⟨ys, F, e1, e2, g, e4, e5⟩
      obtain ⟨dy, m1, m2, m3⟩ := dpAll_at hD hx
      have hi : i < vals.length := (List.getElem?_eq_some_iff.mp hx).1
      refine And.intro rfl ?_
      refine ⟨_, rfl, rfl, x, dy, rfl, dp_up g.same _ m3, hok dy m1, fun v' F' H' g' q' => ?_⟩
      have nF : F' D = none := g'.nw.none e1
      have eD : H' D = some (.lst ys) := g'.same _ _ e1
      have gg := (g.call0 g').chg (q := D) (o := .lst (ys ++ [v'])) (un_none e4 nF) (.inr hDn)
      refine ⟨ys, eD, by rw [e2, sizeLine_eq]; omega, ys ++ [v'], un F F', upd_same, by rw [List.length_append, e2]; rfl, gg, un_none e4 nF, ?_⟩
      exact dpAll_snoc (dpAll_up (un_left F F') _ e5) m2 (dp_up (g.un_r g') _ q')
    · rintro H1 ⟨ys, F, e1, e2, g, e4, e5⟩
      rw [hl, List.take_length] at e5
      have hyl := dpAll_len e5
      refine ⟨D, ys, rfl, .inr (SqL.of e1), ?_⟩
      refine ⟨(by show (V.str word :: (ys ++ [])).length ≤ sizeLine; rw [List.append_nil, List.length_cons, sizeLine_eq]; omega), fun t ht => ?_⟩
      rw [List.append_nil]
      have ta : a ≠ t := fun z => by subst z; rw [g.same _ _ ha] at ht; cases ht
      have ea : upd H1 t (.tup (.str word :: ys)) a = some (.ins C dx []) := (upd_ne ta).trans (g.same _ _ ha)
      refine ⟨_, rfl, a, C, dx, [], rfl, ea, hC.cl, hC.na _ (by decide +kernel), (by show 0 < 1000; decide), ?_⟩
      have gt := g.alloc (o := .tup (.str word :: ys)) ht
      have fa : (upd F t (.tup (.str word :: ys))) a = none := by
        rw [upd_ne ta]
        exact g.nw.none ha
      have g2 : Gr [a] H (upd F t (.tup (.str word :: ys))) (upd (upd H1 t (.tup (.str word :: ys))) a (.ins C dx (putF "parts" (.ref t) []))) := by
        refine Gr.chg (S := [a]) { nw := gt.nw, sb := gt.sb, kp := fun b o _ e => gt.same b o e, ex := gt.ex } fa (.inl List.mem_cons_self)
      refine k _ _ t ys g2 ⟨upd_same, dpAll_up (same_upd (g.fresh ht).1) _ e5⟩ upd_same
  refine B.to fun A outer s H us ws vs zs Q E e0 r1 r2 hs => ?_
  obtain ⟨ez, a, C, dx, word, vals, ds, ev, ha, hC, hD, hok, hl3, k⟩ := hs
  subst ez ev
  cases r2
  obtain ⟨u1, u2, eu, q1, q2⟩ := vals_parts (ws := [.ref a, .str word]) (rest := vals) r1
  subst eu
  obtain ⟨oc, od, dV, kV, doc, pm, an, cdv, ct, osl, rfl, _, _, hDV, _⟩ := F.ex
  obtain rfl : dV = .none := by
    rcases hDV with ⟨_, z⟩ | ⟨z, _⟩
    · exact z
    · exact absurd rfl z
  have hb := StX.bind_star2 (B := fun as => bindArgs (PySem.W.fnOf "__init__" "Care.__init__" (defArgs ((inClass (top 3) 0))) (defBody ((inClass (top 3) 0))) (defScope (inClass (top 3) 0)) .none kV doc pm an cdv ct) ⟨as, []⟩) (p1 := "self") (p2 := "word") (pv := "fields")
    (fun a b => rfl) (fun a b r rs => rfl) u1 u2 (by rw [← q1.length]; rfl)
  refine bnd_star (ps := ["self", "word"]) (pv := "fields") StX.cxUp_none e0 hb q1 q2 rfl (by rw [sizeLine_eq]; omega) fun p hp => ?_
  have na : a ≠ p := fun z => by subst z; rw [ha] at hp; cases hp
  refine ⟨a, C, dx, p, word, vals, ds, rfl, (upd_ne na).trans ha, hC, upd_same, dpAll_up (same_upd hp) _ hD, hok, hl3, fun F' H' t vs' g q1 q2 => ?_⟩
  exact k F' H' t vs' (g.off hp) q1 q2
end
end K77

namespace K77
open L2 PyProof.Rows PySem.Spec PySem Gd
local macro_rules | `(tactic| walk_at "rd0") => `(tactic| first
  | rfl
  | assumption
  | exact SqL.of (by assumption)
  | exact SqL.of upd_same
  | exact upd_same
  | exact SqT.of (by assumption)
  | exact SqT.of upd_same
  | decide
  | exact ⟨_, rfl⟩
  | exact ⟨by decide, by decide +kernel⟩
  | exact Or.inr ⟨by decide, by decide⟩
  | exact Or.inl ⟨_, by assumption, rfl⟩
  | exact Or.inl ⟨_, SqL.of (by assumption), rfl⟩
  | (simp only [List.length_cons, List.length_nil]; decide)
  | omega
  | decide +kernel
  | exact Or.inl ⟨by omega, by omega⟩)
local macro_rules | `(tactic| walk_at "rd1") => `(tactic| first
  | refine And.intro (by walk_at "rd0") ?_
  | apply Exists.intro
  | refine iteT ?_
  | (refine Or.inl ?_; apply Exists.intro; refine And.intro rfl ?_)
  | (refine Or.inr ?_; apply Exists.intro; refine And.intro rfl ?_)
  | (refine Or.inl ?_; apply Exists.intro; apply Exists.intro; refine And.intro rfl ?_; refine And.intro rfl ?_)
  | (refine Or.inr (Or.inl ?_); apply Exists.intro; apply Exists.intro; refine And.intro rfl ?_; refine And.intro rfl ?_))
local macro_rules | `(tactic| walk_at "rd") => `(tactic| repeat walk_at "rd1")
/-! ### each class's __init__ -/
theorem list1 {α : Type} {l : List α} (h : l.length = 1) : ∃ a, l = [a] := match l, h with
  | [a], _ => ⟨a, rfl⟩
theorem list2 {α : Type} {l : List α} (h : l.length = 2) : ∃ a b, l = [a, b] := match l, h with
  | [a, b], _ => ⟨a, b, rfl⟩
theorem list3 {α : Type} {l : List α} (h : l.length = 3) : ∃ a b c, l = [a, b, c] := match l, h with
  | [a, b, c], _ => ⟨a, b, c, rfl⟩
def spInit (K : PySem.W.Frag) (care eqA reprA initA C : Addr) (word : Str) (names : List Str) : SpA := fun vs zs H Q _ => zs = [] ∧ ∃ (a dx : Addr) (vals : List V) (ds : List PyData), vs = .ref a :: vals ∧ H a = some (.ins C dx []) ∧ vals.length = names.length ∧
  DpAll K H vals ds ∧ (∀ d ∈ ds, Okd 8 140000 d) ∧
  ∀ F H' t vs', Gr [a] H F H' → Parts K F t word vs' ds → H' a = some (.ins C dx (("parts", .ref t) :: names.zip vs')) → Q .non H'
section
variable {P : Program} {w : World} {K : PySem.W.Frag} {mg : Str → Option Value} {base : Heap}
theorem sc_Insert___init__ : SupScope ["self", "name", "at", "text", "_"] ["self", "name", "at", "text"] (defScope (inClass (top 4) 0)) := ⟨rfl, rfl, rfl, by decide +kernel, rfl, by decide +kernel, by decide +kernel, by decide +kernel⟩
theorem fnB_Insert {f cc C care eqA reprA initA : Addr} {fd : FuncData} {cl : Value} {cd : Option Addr} {csl : Array (Option Value)} (F : FunX K "__init__" "Insert.__init__" (defArgs ((inClass (top 4) 0))) (defBody ((inClass (top 4) 0))) (defScope (inClass (top 4) 0)) [("__class__", cc)] [] [] f fd)
    (hcc : K.lookup cc = some ⟨cl, cd, .cell (some (.ref C)), csl⟩) (hC : ClsF K C care eqA reprA initA) (hfile : codeFile K fd.code P.main.file = true) (htop : (P.main.scope.names.lookup ("super" : Str)).isSome = false) (bs : mg "super" = none)
    (FB : FnA P w K mg base CX0 10 initA [] (spBase K care eqA reprA initA)) : FnB P w K mg base CX0 11 f fd ["self", "name", "at", "text"] (fun vs H Q E => spInit K care eqA reprA initA C "Insert" ["name", "at", "text"] vs [] H Q E) := by
  refine okS F sc_Insert___init__ hcc fun oc od osl cdv A outer s H vs Q E lk hpar hcd hcode hr h => ?_
  obtain ⟨_, a, dx, vals, ds, rfl, ha, hlen, hD, hok, k⟩ := h
  obtain ⟨x1, x2, x3, rfl⟩ := list3 hlen
  have Z : SupDef (cxS CX0 P w K mg base ["self", "name", "at", "text", "_"] "Insert.__init__" (defScope (inClass (top 4) 0)) f cdv cc A outer s H E) C "self" :=
    { ks := rfl, kc := rfl, kl := rfl, slot := rfl
      fns := ⟨f, oc, od, fd, osl, ⟨"self", _, _⟩, rfl, lk, by rw [hpar]; rfl, rfl⟩
      code := by rw [← hcode] at *; exact hfile
      cell := ⟨cc, cl, cd, csl, rfl, hcc⟩, free := bs, top := htop }
  refine ⟨_, psa_super (pl := _) Z FB (hr.mono (by decide)) pass0 rfl (PSs.up (pss_one (ps_asg (pe_fld (pv 0) rfl) (pg_tup rfl (pgs_cons (pg_name (i := 4) sc_Insert___init__.nd rfl (Or.inl rfl)) (pgs_cons (pg_fld (pv 0)) (pgs_cons (pg_fld (pv 0)) (pgs_cons (pg_fld (pv 0)) pgs_nil)))))))) (pa_cons pe_str (pa_cons (pv 1) (pa_cons (pv 2) (pa_cons (pv 3) pa_nil)))), ?_⟩
  refine ⟨a, C, dx, [], rfl, ha, hC.sup, _, rfl, _, rfl, _, rfl, rfl, a, C, dx, "Insert", [x1, x2, x3], ds, rfl, ha, hC, hD, hok, (by show 3 ≤ 3; decide), fun F' H' t vs' g pt ea => ?_⟩
  have hl := dpAll_len pt.2
  have hl2 := dpAll_len hD
  obtain ⟨y1, y2, y3, rfl⟩ := list3 (hl.trans hl2.symm)
  have st : SqT K H' t [V.str "Insert", y1, y2, y3] := SqT.of (g.sb _ _ pt.1)
  refine ⟨_, rfl, a, C, dx, _, _, rfl, ea, hC.cl, hC.na _ (by decide +kernel), lk_hd, t, _, rfl, st, rfl, _, _, rfl, _, _, rfl, _, rfl, a, C, dx, _, rfl, ea, hC.cl, hC.na _ (by decide +kernel), (by show 1 < 1000; decide), _, _, rfl, _, rfl, a, C, dx, _, rfl, upd_same, hC.cl, hC.na _ (by decide +kernel), (by show 2 < 1000; decide), _, _, rfl, _, rfl, a, C, dx, _, rfl, upd_same, hC.cl, hC.na _ (by decide +kernel), (by show 3 < 1000; decide), rfl, ?_⟩
  have fa : F' a = none := g.nw.none ha
  have el : putF "text" y3 (putF "at" y2 (putF "name" y1 [(("parts" : Str), V.ref t)])) = ((("parts" : Str), V.ref t) :: (["name", "at", "text"] : List Str).zip [y1, y2, y3]) := by
    rw [fs1 (n0 := "parts") (n1 := "name") (by decide +kernel), fs2 (n0 := "parts") (n1 := "name") (n2 := "at") (by decide +kernel) (by decide +kernel), fs3 (n0 := "parts") (n1 := "name") (n2 := "at") (n3 := "text") (by decide +kernel) (by decide +kernel) (by decide +kernel)]
    rfl
  refine k F' _ t [y1, y2, y3] ?_ pt (by rw [upd_same, el])
  exact (((g.chg fa (.inl List.mem_cons_self)).chg fa (.inl List.mem_cons_self)).chg fa (.inl List.mem_cons_self))
theorem ok_Insert {f C care eqA reprA initA : Addr} {fd : FuncData} {cc : Addr} (F : FunX K "__init__" "Insert.__init__" (defArgs ((inClass (top 4) 0))) (defBody ((inClass (top 4) 0))) (defScope (inClass (top 4) 0)) [("__class__", cc)] [] [] f fd)
    (B : FnB P w K mg base CX0 11 f fd ["self", "name", "at", "text"] (fun vs H Q E => spInit K care eqA reprA initA C "Insert" ["name", "at", "text"] vs [] H Q E)) : FnA P w K mg base CX0 11 f [] (spInit K care eqA reprA initA C "Insert" ["name", "at", "text"]) := by
  refine B.pos (Binds.all fun us hu => ?_) (fun vs H Q E h => ?_) |>.imp fun vs zs H Q E h => ⟨h.1, h.1 ▸ h⟩
  · obtain ⟨oc, od, dV, kV, doc, pm, an, cdv, ct, osl, rfl, _, _, hDV, _⟩ := F.ex
    obtain rfl : dV = .none := by
      rcases hDV with ⟨_, z⟩ | ⟨z, _⟩
      · exact z
      · exact absurd rfl z
    match us, hu with
    | [_, _, _, _], _ => rfl
  · obtain ⟨_, a, dx, vals, ds, rfl, ha, hlen, _⟩ := h
    show vals.length + 1 = _
    rw [hlen]
    rfl
/-- with names, in the order ["text", "at", "name"] -/
def kw_Insert {α : Type} : List α → List α → List α
  | [a], [z1, z2, z3] => [a, z3, z2, z1]
  | _, _ => []
theorem ok_Insert_text_at_name {f C care eqA reprA initA : Addr} {fd : FuncData} {cc : Addr} (F : FunX K "__init__" "Insert.__init__" (defArgs ((inClass (top 4) 0))) (defBody ((inClass (top 4) 0))) (defScope (inClass (top 4) 0)) [("__class__", cc)] [] [] f fd)
    (B : FnB P w K mg base CX0 11 f fd ["self", "name", "at", "text"] (fun vs H Q E => spInit K care eqA reprA initA C "Insert" ["name", "at", "text"] vs [] H Q E)) :
    FnA P w K mg base CX0 11 f ["text", "at", "name"] (fun vs zs H Q E => vs.length = 1 ∧ zs.length = 3 ∧ (kw_Insert vs zs).length = 3 + 1 ∧ spInit K care eqA reprA initA C "Insert" ["name", "at", "text"] (kw_Insert vs zs) [] H Q E) := by
  refine B.kw (ks := ["text", "at", "name"]) 1 (g := kw_Insert) (gV := kw_Insert) (fun us ws h1 h2 => ?_) fun vs us zs ws h1 h2 r1 r2 => ?_
  · obtain ⟨oc, od, dV, kV, doc, pm, an, cdv, ct, osl, rfl, _, _, hDV, _⟩ := F.ex
    obtain rfl : dV = .none := by
      rcases hDV with ⟨_, z⟩ | ⟨z, _⟩
      · exact z
      · exact absurd rfl z
    obtain ⟨u, rfl⟩ := list1 h1
    obtain ⟨z1, z2, z3, rfl⟩ := list3 h2
    rfl
  · obtain ⟨v, rfl⟩ := list1 h1
    obtain ⟨z1, z2, z3, rfl⟩ := list3 h2
    cases r1 with
    | cons a1 t =>
      cases t
      cases r2 with
      | cons b1 t =>
        cases t with
        | cons b2 t =>
          cases t with
          | cons b3 t =>
            cases t
            exact .cons a1 (.cons b3 (.cons b2 (.cons b1 .nil)))
theorem sc_Under___init__ : SupScope ["self", "name", "at", "condition", "_"] ["self", "name", "at", "condition"] (defScope (inClass (top 5) 0)) := ⟨rfl, rfl, rfl, by decide +kernel, rfl, by decide +kernel, by decide +kernel, by decide +kernel⟩
theorem fnB_Under {f cc C care eqA reprA initA : Addr} {fd : FuncData} {cl : Value} {cd : Option Addr} {csl : Array (Option Value)} (F : FunX K "__init__" "Under.__init__" (defArgs ((inClass (top 5) 0))) (defBody ((inClass (top 5) 0))) (defScope (inClass (top 5) 0)) [("__class__", cc)] [] [] f fd)
    (hcc : K.lookup cc = some ⟨cl, cd, .cell (some (.ref C)), csl⟩) (hC : ClsF K C care eqA reprA initA) (hfile : codeFile K fd.code P.main.file = true) (htop : (P.main.scope.names.lookup ("super" : Str)).isSome = false) (bs : mg "super" = none)
    (FB : FnA P w K mg base CX0 10 initA [] (spBase K care eqA reprA initA)) : FnB P w K mg base CX0 11 f fd ["self", "name", "at", "condition"] (fun vs H Q E => spInit K care eqA reprA initA C "Under" ["name", "at", "condition"] vs [] H Q E) := by
  refine okS F sc_Under___init__ hcc fun oc od osl cdv A outer s H vs Q E lk hpar hcd hcode hr h => ?_
  obtain ⟨_, a, dx, vals, ds, rfl, ha, hlen, hD, hok, k⟩ := h
  obtain ⟨x1, x2, x3, rfl⟩ := list3 hlen
  have Z : SupDef (cxS CX0 P w K mg base ["self", "name", "at", "condition", "_"] "Under.__init__" (defScope (inClass (top 5) 0)) f cdv cc A outer s H E) C "self" :=
    { ks := rfl, kc := rfl, kl := rfl, slot := rfl
      fns := ⟨f, oc, od, fd, osl, ⟨"self", _, _⟩, rfl, lk, by rw [hpar]; rfl, rfl⟩
      code := by rw [← hcode] at *; exact hfile
      cell := ⟨cc, cl, cd, csl, rfl, hcc⟩, free := bs, top := htop }
  refine ⟨_, psa_super (pl := _) Z FB (hr.mono (by decide)) pass0 rfl (PSs.up (pss_one (ps_asg (pe_fld (pv 0) rfl) (pg_tup rfl (pgs_cons (pg_name (i := 4) sc_Under___init__.nd rfl (Or.inl rfl)) (pgs_cons (pg_fld (pv 0)) (pgs_cons (pg_fld (pv 0)) (pgs_cons (pg_fld (pv 0)) pgs_nil)))))))) (pa_cons pe_str (pa_cons (pv 1) (pa_cons (pv 2) (pa_cons (pv 3) pa_nil)))), ?_⟩
  refine ⟨a, C, dx, [], rfl, ha, hC.sup, _, rfl, _, rfl, _, rfl, rfl, a, C, dx, "Under", [x1, x2, x3], ds, rfl, ha, hC, hD, hok, (by show 3 ≤ 3; decide), fun F' H' t vs' g pt ea => ?_⟩
  have hl := dpAll_len pt.2
  have hl2 := dpAll_len hD
  obtain ⟨y1, y2, y3, rfl⟩ := list3 (hl.trans hl2.symm)
  have st : SqT K H' t [V.str "Under", y1, y2, y3] := SqT.of (g.sb _ _ pt.1)
  refine ⟨_, rfl, a, C, dx, _, _, rfl, ea, hC.cl, hC.na _ (by decide +kernel), lk_hd, t, _, rfl, st, rfl, _, _, rfl, _, _, rfl, _, rfl, a, C, dx, _, rfl, ea, hC.cl, hC.na _ (by decide +kernel), (by show 1 < 1000; decide), _, _, rfl, _, rfl, a, C, dx, _, rfl, upd_same, hC.cl, hC.na _ (by decide +kernel), (by show 2 < 1000; decide), _, _, rfl, _, rfl, a, C, dx, _, rfl, upd_same, hC.cl, hC.na _ (by decide +kernel), (by show 3 < 1000; decide), rfl, ?_⟩
  have fa : F' a = none := g.nw.none ha
  have el : putF "condition" y3 (putF "at" y2 (putF "name" y1 [(("parts" : Str), V.ref t)])) = ((("parts" : Str), V.ref t) :: (["name", "at", "condition"] : List Str).zip [y1, y2, y3]) := by
    rw [fs1 (n0 := "parts") (n1 := "name") (by decide +kernel), fs2 (n0 := "parts") (n1 := "name") (n2 := "at") (by decide +kernel) (by decide +kernel), fs3 (n0 := "parts") (n1 := "name") (n2 := "at") (n3 := "condition") (by decide +kernel) (by decide +kernel) (by decide +kernel)]
    rfl
  refine k F' _ t [y1, y2, y3] ?_ pt (by rw [upd_same, el])
  exact (((g.chg fa (.inl List.mem_cons_self)).chg fa (.inl List.mem_cons_self)).chg fa (.inl List.mem_cons_self))
theorem ok_Under {f C care eqA reprA initA : Addr} {fd : FuncData} {cc : Addr} (F : FunX K "__init__" "Under.__init__" (defArgs ((inClass (top 5) 0))) (defBody ((inClass (top 5) 0))) (defScope (inClass (top 5) 0)) [("__class__", cc)] [] [] f fd)
    (B : FnB P w K mg base CX0 11 f fd ["self", "name", "at", "condition"] (fun vs H Q E => spInit K care eqA reprA initA C "Under" ["name", "at", "condition"] vs [] H Q E)) : FnA P w K mg base CX0 11 f [] (spInit K care eqA reprA initA C "Under" ["name", "at", "condition"]) := by
  refine B.pos (Binds.all fun us hu => ?_) (fun vs H Q E h => ?_) |>.imp fun vs zs H Q E h => ⟨h.1, h.1 ▸ h⟩
  · obtain ⟨oc, od, dV, kV, doc, pm, an, cdv, ct, osl, rfl, _, _, hDV, _⟩ := F.ex
    obtain rfl : dV = .none := by
      rcases hDV with ⟨_, z⟩ | ⟨z, _⟩
      · exact z
      · exact absurd rfl z
    match us, hu with
    | [_, _, _, _], _ => rfl
  · obtain ⟨_, a, dx, vals, ds, rfl, ha, hlen, _⟩ := h
    show vals.length + 1 = _
    rw [hlen]
    rfl
/-- with names, in the order ["name", "condition", "at"] -/
def kw_Under {α : Type} : List α → List α → List α
  | [a], [z1, z2, z3] => [a, z1, z3, z2]
  | _, _ => []
theorem ok_Under_name_condition_at {f C care eqA reprA initA : Addr} {fd : FuncData} {cc : Addr} (F : FunX K "__init__" "Under.__init__" (defArgs ((inClass (top 5) 0))) (defBody ((inClass (top 5) 0))) (defScope (inClass (top 5) 0)) [("__class__", cc)] [] [] f fd)
    (B : FnB P w K mg base CX0 11 f fd ["self", "name", "at", "condition"] (fun vs H Q E => spInit K care eqA reprA initA C "Under" ["name", "at", "condition"] vs [] H Q E)) :
    FnA P w K mg base CX0 11 f ["name", "condition", "at"] (fun vs zs H Q E => vs.length = 1 ∧ zs.length = 3 ∧ (kw_Under vs zs).length = 3 + 1 ∧ spInit K care eqA reprA initA C "Under" ["name", "at", "condition"] (kw_Under vs zs) [] H Q E) := by
  refine B.kw (ks := ["name", "condition", "at"]) 1 (g := kw_Under) (gV := kw_Under) (fun us ws h1 h2 => ?_) fun vs us zs ws h1 h2 r1 r2 => ?_
  · obtain ⟨oc, od, dV, kV, doc, pm, an, cdv, ct, osl, rfl, _, _, hDV, _⟩ := F.ex
    obtain rfl : dV = .none := by
      rcases hDV with ⟨_, z⟩ | ⟨z, _⟩
      · exact z
      · exact absurd rfl z
    obtain ⟨u, rfl⟩ := list1 h1
    obtain ⟨z1, z2, z3, rfl⟩ := list3 h2
    rfl
  · obtain ⟨v, rfl⟩ := list1 h1
    obtain ⟨z1, z2, z3, rfl⟩ := list3 h2
    cases r1 with
    | cons a1 t =>
      cases t
      cases r2 with
      | cons b1 t =>
        cases t with
        | cons b2 t =>
          cases t with
          | cons b3 t =>
            cases t
            exact .cons a1 (.cons b1 (.cons b3 (.cons b2 .nil)))
theorem sc_Without___init__ : SupScope ["self", "name", "at", "_"] ["self", "name", "at"] (defScope (inClass (top 6) 0)) := ⟨rfl, rfl, rfl, by decide +kernel, rfl, by decide +kernel, by decide +kernel, by decide +kernel⟩
theorem fnB_Without {f cc C care eqA reprA initA : Addr} {fd : FuncData} {cl : Value} {cd : Option Addr} {csl : Array (Option Value)} (F : FunX K "__init__" "Without.__init__" (defArgs ((inClass (top 6) 0))) (defBody ((inClass (top 6) 0))) (defScope (inClass (top 6) 0)) [("__class__", cc)] [] [] f fd)
    (hcc : K.lookup cc = some ⟨cl, cd, .cell (some (.ref C)), csl⟩) (hC : ClsF K C care eqA reprA initA) (hfile : codeFile K fd.code P.main.file = true) (htop : (P.main.scope.names.lookup ("super" : Str)).isSome = false) (bs : mg "super" = none)
    (FB : FnA P w K mg base CX0 10 initA [] (spBase K care eqA reprA initA)) : FnB P w K mg base CX0 11 f fd ["self", "name", "at"] (fun vs H Q E => spInit K care eqA reprA initA C "Without" ["name", "at"] vs [] H Q E) := by
  refine okS F sc_Without___init__ hcc fun oc od osl cdv A outer s H vs Q E lk hpar hcd hcode hr h => ?_
  obtain ⟨_, a, dx, vals, ds, rfl, ha, hlen, hD, hok, k⟩ := h
  obtain ⟨x1, x2, rfl⟩ := list2 hlen
  have Z : SupDef (cxS CX0 P w K mg base ["self", "name", "at", "_"] "Without.__init__" (defScope (inClass (top 6) 0)) f cdv cc A outer s H E) C "self" :=
    { ks := rfl, kc := rfl, kl := rfl, slot := rfl
      fns := ⟨f, oc, od, fd, osl, ⟨"self", _, _⟩, rfl, lk, by rw [hpar]; rfl, rfl⟩
      code := by rw [← hcode] at *; exact hfile
      cell := ⟨cc, cl, cd, csl, rfl, hcc⟩, free := bs, top := htop }
  refine ⟨_, psa_super (pl := _) Z FB (hr.mono (by decide)) pass0 rfl (PSs.up (pss_one (ps_asg (pe_fld (pv 0) rfl) (pg_tup rfl (pgs_cons (pg_name (i := 3) sc_Without___init__.nd rfl (Or.inl rfl)) (pgs_cons (pg_fld (pv 0)) (pgs_cons (pg_fld (pv 0)) pgs_nil))))))) (pa_cons pe_str (pa_cons (pv 1) (pa_cons (pv 2) pa_nil))), ?_⟩
  refine ⟨a, C, dx, [], rfl, ha, hC.sup, _, rfl, _, rfl, rfl, a, C, dx, "Without", [x1, x2], ds, rfl, ha, hC, hD, hok, (by show 2 ≤ 3; decide), fun F' H' t vs' g pt ea => ?_⟩
  have hl := dpAll_len pt.2
  have hl2 := dpAll_len hD
  obtain ⟨y1, y2, rfl⟩ := list2 (hl.trans hl2.symm)
  have st : SqT K H' t [V.str "Without", y1, y2] := SqT.of (g.sb _ _ pt.1)
  refine ⟨_, rfl, a, C, dx, _, _, rfl, ea, hC.cl, hC.na _ (by decide +kernel), lk_hd, t, _, rfl, st, rfl, _, _, rfl, _, _, rfl, _, rfl, a, C, dx, _, rfl, ea, hC.cl, hC.na _ (by decide +kernel), (by show 1 < 1000; decide), _, _, rfl, _, rfl, a, C, dx, _, rfl, upd_same, hC.cl, hC.na _ (by decide +kernel), (by show 2 < 1000; decide), rfl, ?_⟩
  have fa : F' a = none := g.nw.none ha
  have el : putF "at" y2 (putF "name" y1 [(("parts" : Str), V.ref t)]) = ((("parts" : Str), V.ref t) :: (["name", "at"] : List Str).zip [y1, y2]) := by
    rw [fs1 (n0 := "parts") (n1 := "name") (by decide +kernel), fs2 (n0 := "parts") (n1 := "name") (n2 := "at") (by decide +kernel) (by decide +kernel)]
    rfl
  refine k F' _ t [y1, y2] ?_ pt (by rw [upd_same, el])
  exact ((g.chg fa (.inl List.mem_cons_self)).chg fa (.inl List.mem_cons_self))
theorem ok_Without {f C care eqA reprA initA : Addr} {fd : FuncData} {cc : Addr} (F : FunX K "__init__" "Without.__init__" (defArgs ((inClass (top 6) 0))) (defBody ((inClass (top 6) 0))) (defScope (inClass (top 6) 0)) [("__class__", cc)] [] [] f fd)
    (B : FnB P w K mg base CX0 11 f fd ["self", "name", "at"] (fun vs H Q E => spInit K care eqA reprA initA C "Without" ["name", "at"] vs [] H Q E)) : FnA P w K mg base CX0 11 f [] (spInit K care eqA reprA initA C "Without" ["name", "at"]) := by
  refine B.pos (Binds.all fun us hu => ?_) (fun vs H Q E h => ?_) |>.imp fun vs zs H Q E h => ⟨h.1, h.1 ▸ h⟩
  · obtain ⟨oc, od, dV, kV, doc, pm, an, cdv, ct, osl, rfl, _, _, hDV, _⟩ := F.ex
    obtain rfl : dV = .none := by
      rcases hDV with ⟨_, z⟩ | ⟨z, _⟩
      · exact z
      · exact absurd rfl z
    match us, hu with
    | [_, _, _], _ => rfl
  · obtain ⟨_, a, dx, vals, ds, rfl, ha, hlen, _⟩ := h
    show vals.length + 1 = _
    rw [hlen]
    rfl
/-- with names, in the order ["at", "name"] -/
def kw_Without {α : Type} : List α → List α → List α
  | [a], [z1, z2] => [a, z2, z1]
  | _, _ => []
theorem ok_Without_at_name {f C care eqA reprA initA : Addr} {fd : FuncData} {cc : Addr} (F : FunX K "__init__" "Without.__init__" (defArgs ((inClass (top 6) 0))) (defBody ((inClass (top 6) 0))) (defScope (inClass (top 6) 0)) [("__class__", cc)] [] [] f fd)
    (B : FnB P w K mg base CX0 11 f fd ["self", "name", "at"] (fun vs H Q E => spInit K care eqA reprA initA C "Without" ["name", "at"] vs [] H Q E)) :
    FnA P w K mg base CX0 11 f ["at", "name"] (fun vs zs H Q E => vs.length = 1 ∧ zs.length = 2 ∧ (kw_Without vs zs).length = 2 + 1 ∧ spInit K care eqA reprA initA C "Without" ["name", "at"] (kw_Without vs zs) [] H Q E) := by
  refine B.kw (ks := ["at", "name"]) 1 (g := kw_Without) (gV := kw_Without) (fun us ws h1 h2 => ?_) fun vs us zs ws h1 h2 r1 r2 => ?_
  · obtain ⟨oc, od, dV, kV, doc, pm, an, cdv, ct, osl, rfl, _, _, hDV, _⟩ := F.ex
    obtain rfl : dV = .none := by
      rcases hDV with ⟨_, z⟩ | ⟨z, _⟩
      · exact z
      · exact absurd rfl z
    obtain ⟨u, rfl⟩ := list1 h1
    obtain ⟨z1, z2, rfl⟩ := list2 h2
    rfl
  · obtain ⟨v, rfl⟩ := list1 h1
    obtain ⟨z1, z2, rfl⟩ := list2 h2
    cases r1 with
    | cons a1 t =>
      cases t
      cases r2 with
      | cons b1 t =>
        cases t with
        | cons b2 t =>
          cases t
          exact .cons a1 (.cons b2 (.cons b1 .nil))
theorem sc_Alone___init__ : SupScope ["self", "name", "_"] ["self", "name"] (defScope (inClass (top 7) 0)) := ⟨rfl, rfl, rfl, by decide +kernel, rfl, by decide +kernel, by decide +kernel, by decide +kernel⟩
theorem fnB_Alone {f cc C care eqA reprA initA : Addr} {fd : FuncData} {cl : Value} {cd : Option Addr} {csl : Array (Option Value)} (F : FunX K "__init__" "Alone.__init__" (defArgs ((inClass (top 7) 0))) (defBody ((inClass (top 7) 0))) (defScope (inClass (top 7) 0)) [("__class__", cc)] [] [] f fd)
    (hcc : K.lookup cc = some ⟨cl, cd, .cell (some (.ref C)), csl⟩) (hC : ClsF K C care eqA reprA initA) (hfile : codeFile K fd.code P.main.file = true) (htop : (P.main.scope.names.lookup ("super" : Str)).isSome = false) (bs : mg "super" = none)
    (FB : FnA P w K mg base CX0 10 initA [] (spBase K care eqA reprA initA)) : FnB P w K mg base CX0 11 f fd ["self", "name"] (fun vs H Q E => spInit K care eqA reprA initA C "Alone" ["name"] vs [] H Q E) := by
  refine okS F sc_Alone___init__ hcc fun oc od osl cdv A outer s H vs Q E lk hpar hcd hcode hr h => ?_
  obtain ⟨_, a, dx, vals, ds, rfl, ha, hlen, hD, hok, k⟩ := h
  obtain ⟨x1, rfl⟩ := list1 hlen
  have Z : SupDef (cxS CX0 P w K mg base ["self", "name", "_"] "Alone.__init__" (defScope (inClass (top 7) 0)) f cdv cc A outer s H E) C "self" :=
    { ks := rfl, kc := rfl, kl := rfl, slot := rfl
      fns := ⟨f, oc, od, fd, osl, ⟨"self", _, _⟩, rfl, lk, by rw [hpar]; rfl, rfl⟩
      code := by rw [← hcode] at *; exact hfile
      cell := ⟨cc, cl, cd, csl, rfl, hcc⟩, free := bs, top := htop }
  refine ⟨_, psa_super (pl := _) Z FB (hr.mono (by decide)) pass0 rfl (PSs.up (pss_one (ps_asg (pe_fld (pv 0) rfl) (pg_tup rfl (pgs_cons (pg_name (i := 2) sc_Alone___init__.nd rfl (Or.inl rfl)) (pgs_cons (pg_fld (pv 0)) pgs_nil)))))) (pa_cons pe_str (pa_cons (pv 1) pa_nil)), ?_⟩
  refine ⟨a, C, dx, [], rfl, ha, hC.sup, _, rfl, rfl, a, C, dx, "Alone", [x1], ds, rfl, ha, hC, hD, hok, (by show 1 ≤ 3; decide), fun F' H' t vs' g pt ea => ?_⟩
  have hl := dpAll_len pt.2
  have hl2 := dpAll_len hD
  obtain ⟨y1, rfl⟩ := list1 (hl.trans hl2.symm)
  have st : SqT K H' t [V.str "Alone", y1] := SqT.of (g.sb _ _ pt.1)
  refine ⟨_, rfl, a, C, dx, _, _, rfl, ea, hC.cl, hC.na _ (by decide +kernel), lk_hd, t, _, rfl, st, rfl, _, _, rfl, _, _, rfl, _, rfl, a, C, dx, _, rfl, ea, hC.cl, hC.na _ (by decide +kernel), (by show 1 < 1000; decide), rfl, ?_⟩
  have fa : F' a = none := g.nw.none ha
  have el : putF "name" y1 [(("parts" : Str), V.ref t)] = ((("parts" : Str), V.ref t) :: (["name"] : List Str).zip [y1]) := by
    rw [fs1 (n0 := "parts") (n1 := "name") (by decide +kernel)]
    rfl
  refine k F' _ t [y1] ?_ pt (by rw [upd_same, el])
  exact (g.chg fa (.inl List.mem_cons_self))
theorem ok_Alone {f C care eqA reprA initA : Addr} {fd : FuncData} {cc : Addr} (F : FunX K "__init__" "Alone.__init__" (defArgs ((inClass (top 7) 0))) (defBody ((inClass (top 7) 0))) (defScope (inClass (top 7) 0)) [("__class__", cc)] [] [] f fd)
    (B : FnB P w K mg base CX0 11 f fd ["self", "name"] (fun vs H Q E => spInit K care eqA reprA initA C "Alone" ["name"] vs [] H Q E)) : FnA P w K mg base CX0 11 f [] (spInit K care eqA reprA initA C "Alone" ["name"]) := by
  refine B.pos (Binds.all fun us hu => ?_) (fun vs H Q E h => ?_) |>.imp fun vs zs H Q E h => ⟨h.1, h.1 ▸ h⟩
  · obtain ⟨oc, od, dV, kV, doc, pm, an, cdv, ct, osl, rfl, _, _, hDV, _⟩ := F.ex
    obtain rfl : dV = .none := by
      rcases hDV with ⟨_, z⟩ | ⟨z, _⟩
      · exact z
      · exact absurd rfl z
    match us, hu with
    | [_, _], _ => rfl
  · obtain ⟨_, a, dx, vals, ds, rfl, ha, hlen, _⟩ := h
    show vals.length + 1 = _
    rw [hlen]
    rfl
/-- with names, in the order ["name"] -/
def kw_Alone {α : Type} : List α → List α → List α
  | [a], [z1] => [a, z1]
  | _, _ => []
theorem ok_Alone_name {f C care eqA reprA initA : Addr} {fd : FuncData} {cc : Addr} (F : FunX K "__init__" "Alone.__init__" (defArgs ((inClass (top 7) 0))) (defBody ((inClass (top 7) 0))) (defScope (inClass (top 7) 0)) [("__class__", cc)] [] [] f fd)
    (B : FnB P w K mg base CX0 11 f fd ["self", "name"] (fun vs H Q E => spInit K care eqA reprA initA C "Alone" ["name"] vs [] H Q E)) :
    FnA P w K mg base CX0 11 f ["name"] (fun vs zs H Q E => vs.length = 1 ∧ zs.length = 1 ∧ (kw_Alone vs zs).length = 1 + 1 ∧ spInit K care eqA reprA initA C "Alone" ["name"] (kw_Alone vs zs) [] H Q E) := by
  refine B.kw (ks := ["name"]) 1 (g := kw_Alone) (gV := kw_Alone) (fun us ws h1 h2 => ?_) fun vs us zs ws h1 h2 r1 r2 => ?_
  · obtain ⟨oc, od, dV, kV, doc, pm, an, cdv, ct, osl, rfl, _, _, hDV, _⟩ := F.ex
    obtain rfl : dV = .none := by
      rcases hDV with ⟨_, z⟩ | ⟨z, _⟩
      · exact z
      · exact absurd rfl z
    obtain ⟨u, rfl⟩ := list1 h1
    obtain ⟨z1, rfl⟩ := list1 h2
    rfl
  · obtain ⟨v, rfl⟩ := list1 h1
    obtain ⟨z1, rfl⟩ := list1 h2
    cases r1 with
    | cons a1 t =>
      cases t
      cases r2 with
      | cons b1 t =>
        cases t
        exact .cons a1 (.cons b1 .nil)
theorem sc_Waiting___init__ : SupScope ["self", "age", "_"] ["self", "age"] (defScope (inClass (top 8) 0)) := ⟨rfl, rfl, rfl, by decide +kernel, rfl, by decide +kernel, by decide +kernel, by decide +kernel⟩
theorem fnB_Waiting {f cc C care eqA reprA initA : Addr} {fd : FuncData} {cl : Value} {cd : Option Addr} {csl : Array (Option Value)} (F : FunX K "__init__" "Waiting.__init__" (defArgs ((inClass (top 8) 0))) (defBody ((inClass (top 8) 0))) (defScope (inClass (top 8) 0)) [("__class__", cc)] [] [] f fd)
    (hcc : K.lookup cc = some ⟨cl, cd, .cell (some (.ref C)), csl⟩) (hC : ClsF K C care eqA reprA initA) (hfile : codeFile K fd.code P.main.file = true) (htop : (P.main.scope.names.lookup ("super" : Str)).isSome = false) (bs : mg "super" = none)
    (FB : FnA P w K mg base CX0 10 initA [] (spBase K care eqA reprA initA)) : FnB P w K mg base CX0 11 f fd ["self", "age"] (fun vs H Q E => spInit K care eqA reprA initA C "Waiting" ["age"] vs [] H Q E) := by
  refine okS F sc_Waiting___init__ hcc fun oc od osl cdv A outer s H vs Q E lk hpar hcd hcode hr h => ?_
  obtain ⟨_, a, dx, vals, ds, rfl, ha, hlen, hD, hok, k⟩ := h
  obtain ⟨x1, rfl⟩ := list1 hlen
  have Z : SupDef (cxS CX0 P w K mg base ["self", "age", "_"] "Waiting.__init__" (defScope (inClass (top 8) 0)) f cdv cc A outer s H E) C "self" :=
    { ks := rfl, kc := rfl, kl := rfl, slot := rfl
      fns := ⟨f, oc, od, fd, osl, ⟨"self", _, _⟩, rfl, lk, by rw [hpar]; rfl, rfl⟩
      code := by rw [← hcode] at *; exact hfile
      cell := ⟨cc, cl, cd, csl, rfl, hcc⟩, free := bs, top := htop }
  refine ⟨_, psa_super (pl := _) Z FB (hr.mono (by decide)) pass0 rfl (PSs.up (pss_one (ps_asg (pe_fld (pv 0) rfl) (pg_tup rfl (pgs_cons (pg_name (i := 2) sc_Waiting___init__.nd rfl (Or.inl rfl)) (pgs_cons (pg_fld (pv 0)) pgs_nil)))))) (pa_cons pe_str (pa_cons (pv 1) pa_nil)), ?_⟩
  refine ⟨a, C, dx, [], rfl, ha, hC.sup, _, rfl, rfl, a, C, dx, "Waiting", [x1], ds, rfl, ha, hC, hD, hok, (by show 1 ≤ 3; decide), fun F' H' t vs' g pt ea => ?_⟩
  have hl := dpAll_len pt.2
  have hl2 := dpAll_len hD
  obtain ⟨y1, rfl⟩ := list1 (hl.trans hl2.symm)
  have st : SqT K H' t [V.str "Waiting", y1] := SqT.of (g.sb _ _ pt.1)
  refine ⟨_, rfl, a, C, dx, _, _, rfl, ea, hC.cl, hC.na _ (by decide +kernel), lk_hd, t, _, rfl, st, rfl, _, _, rfl, _, _, rfl, _, rfl, a, C, dx, _, rfl, ea, hC.cl, hC.na _ (by decide +kernel), (by show 1 < 1000; decide), rfl, ?_⟩
  have fa : F' a = none := g.nw.none ha
  have el : putF "age" y1 [(("parts" : Str), V.ref t)] = ((("parts" : Str), V.ref t) :: (["age"] : List Str).zip [y1]) := by
    rw [fs1 (n0 := "parts") (n1 := "age") (by decide +kernel)]
    rfl
  refine k F' _ t [y1] ?_ pt (by rw [upd_same, el])
  exact (g.chg fa (.inl List.mem_cons_self))
theorem ok_Waiting {f C care eqA reprA initA : Addr} {fd : FuncData} {cc : Addr} (F : FunX K "__init__" "Waiting.__init__" (defArgs ((inClass (top 8) 0))) (defBody ((inClass (top 8) 0))) (defScope (inClass (top 8) 0)) [("__class__", cc)] [] [] f fd)
    (B : FnB P w K mg base CX0 11 f fd ["self", "age"] (fun vs H Q E => spInit K care eqA reprA initA C "Waiting" ["age"] vs [] H Q E)) : FnA P w K mg base CX0 11 f [] (spInit K care eqA reprA initA C "Waiting" ["age"]) := by
  refine B.pos (Binds.all fun us hu => ?_) (fun vs H Q E h => ?_) |>.imp fun vs zs H Q E h => ⟨h.1, h.1 ▸ h⟩
  · obtain ⟨oc, od, dV, kV, doc, pm, an, cdv, ct, osl, rfl, _, _, hDV, _⟩ := F.ex
    obtain rfl : dV = .none := by
      rcases hDV with ⟨_, z⟩ | ⟨z, _⟩
      · exact z
      · exact absurd rfl z
    match us, hu with
    | [_, _], _ => rfl
  · obtain ⟨_, a, dx, vals, ds, rfl, ha, hlen, _⟩ := h
    show vals.length + 1 = _
    rw [hlen]
    rfl
/-- with names, in the order ["age"] -/
def kw_Waiting {α : Type} : List α → List α → List α
  | [a], [z1] => [a, z1]
  | _, _ => []
theorem ok_Waiting_age {f C care eqA reprA initA : Addr} {fd : FuncData} {cc : Addr} (F : FunX K "__init__" "Waiting.__init__" (defArgs ((inClass (top 8) 0))) (defBody ((inClass (top 8) 0))) (defScope (inClass (top 8) 0)) [("__class__", cc)] [] [] f fd)
    (B : FnB P w K mg base CX0 11 f fd ["self", "age"] (fun vs H Q E => spInit K care eqA reprA initA C "Waiting" ["age"] vs [] H Q E)) :
    FnA P w K mg base CX0 11 f ["age"] (fun vs zs H Q E => vs.length = 1 ∧ zs.length = 1 ∧ (kw_Waiting vs zs).length = 1 + 1 ∧ spInit K care eqA reprA initA C "Waiting" ["age"] (kw_Waiting vs zs) [] H Q E) := by
  refine B.kw (ks := ["age"]) 1 (g := kw_Waiting) (gV := kw_Waiting) (fun us ws h1 h2 => ?_) fun vs us zs ws h1 h2 r1 r2 => ?_
  · obtain ⟨oc, od, dV, kV, doc, pm, an, cdv, ct, osl, rfl, _, _, hDV, _⟩ := F.ex
    obtain rfl : dV = .none := by
      rcases hDV with ⟨_, z⟩ | ⟨z, _⟩
      · exact z
      · exact absurd rfl z
    obtain ⟨u, rfl⟩ := list1 h1
    obtain ⟨z1, rfl⟩ := list1 h2
    rfl
  · obtain ⟨v, rfl⟩ := list1 h1
    obtain ⟨z1, rfl⟩ := list1 h2
    cases r1 with
    | cons a1 t =>
      cases t
      cases r2 with
      | cons b1 t =>
        cases t
        exact .cons a1 (.cons b1 .nil)
theorem sc_Naming___init__ : SupScope ["self", "names", "_"] ["self", "names"] (defScope (inClass (top 9) 0)) := ⟨rfl, rfl, rfl, by decide +kernel, rfl, by decide +kernel, by decide +kernel, by decide +kernel⟩
theorem fnB_Naming {f cc C care eqA reprA initA : Addr} {fd : FuncData} {cl : Value} {cd : Option Addr} {csl : Array (Option Value)} (F : FunX K "__init__" "Naming.__init__" (defArgs ((inClass (top 9) 0))) (defBody ((inClass (top 9) 0))) (defScope (inClass (top 9) 0)) [("__class__", cc)] [] [] f fd)
    (hcc : K.lookup cc = some ⟨cl, cd, .cell (some (.ref C)), csl⟩) (hC : ClsF K C care eqA reprA initA) (hfile : codeFile K fd.code P.main.file = true) (htop : (P.main.scope.names.lookup ("super" : Str)).isSome = false) (bs : mg "super" = none)
    (FB : FnA P w K mg base CX0 10 initA [] (spBase K care eqA reprA initA)) : FnB P w K mg base CX0 11 f fd ["self", "names"] (fun vs H Q E => spInit K care eqA reprA initA C "Naming" ["names"] vs [] H Q E) := by
  refine okS F sc_Naming___init__ hcc fun oc od osl cdv A outer s H vs Q E lk hpar hcd hcode hr h => ?_
  obtain ⟨_, a, dx, vals, ds, rfl, ha, hlen, hD, hok, k⟩ := h
  obtain ⟨x1, rfl⟩ := list1 hlen
  have Z : SupDef (cxS CX0 P w K mg base ["self", "names", "_"] "Naming.__init__" (defScope (inClass (top 9) 0)) f cdv cc A outer s H E) C "self" :=
    { ks := rfl, kc := rfl, kl := rfl, slot := rfl
      fns := ⟨f, oc, od, fd, osl, ⟨"self", _, _⟩, rfl, lk, by rw [hpar]; rfl, rfl⟩
      code := by rw [← hcode] at *; exact hfile
      cell := ⟨cc, cl, cd, csl, rfl, hcc⟩, free := bs, top := htop }
  refine ⟨_, psa_super (pl := _) Z FB (hr.mono (by decide)) pass0 rfl (PSs.up (pss_one (ps_asg (pe_fld (pv 0) rfl) (pg_tup rfl (pgs_cons (pg_name (i := 2) sc_Naming___init__.nd rfl (Or.inl rfl)) (pgs_cons (pg_fld (pv 0)) pgs_nil)))))) (pa_cons pe_str (pa_cons (pv 1) pa_nil)), ?_⟩
  refine ⟨a, C, dx, [], rfl, ha, hC.sup, _, rfl, rfl, a, C, dx, "Naming", [x1], ds, rfl, ha, hC, hD, hok, (by show 1 ≤ 3; decide), fun F' H' t vs' g pt ea => ?_⟩
  have hl := dpAll_len pt.2
  have hl2 := dpAll_len hD
  obtain ⟨y1, rfl⟩ := list1 (hl.trans hl2.symm)
  have st : SqT K H' t [V.str "Naming", y1] := SqT.of (g.sb _ _ pt.1)
  refine ⟨_, rfl, a, C, dx, _, _, rfl, ea, hC.cl, hC.na _ (by decide +kernel), lk_hd, t, _, rfl, st, rfl, _, _, rfl, _, _, rfl, _, rfl, a, C, dx, _, rfl, ea, hC.cl, hC.na _ (by decide +kernel), (by show 1 < 1000; decide), rfl, ?_⟩
  have fa : F' a = none := g.nw.none ha
  have el : putF "names" y1 [(("parts" : Str), V.ref t)] = ((("parts" : Str), V.ref t) :: (["names"] : List Str).zip [y1]) := by
    rw [fs1 (n0 := "parts") (n1 := "names") (by decide +kernel)]
    rfl
  refine k F' _ t [y1] ?_ pt (by rw [upd_same, el])
  exact (g.chg fa (.inl List.mem_cons_self))
theorem ok_Naming {f C care eqA reprA initA : Addr} {fd : FuncData} {cc : Addr} (F : FunX K "__init__" "Naming.__init__" (defArgs ((inClass (top 9) 0))) (defBody ((inClass (top 9) 0))) (defScope (inClass (top 9) 0)) [("__class__", cc)] [] [] f fd)
    (B : FnB P w K mg base CX0 11 f fd ["self", "names"] (fun vs H Q E => spInit K care eqA reprA initA C "Naming" ["names"] vs [] H Q E)) : FnA P w K mg base CX0 11 f [] (spInit K care eqA reprA initA C "Naming" ["names"]) := by
  refine B.pos (Binds.all fun us hu => ?_) (fun vs H Q E h => ?_) |>.imp fun vs zs H Q E h => ⟨h.1, h.1 ▸ h⟩
  · obtain ⟨oc, od, dV, kV, doc, pm, an, cdv, ct, osl, rfl, _, _, hDV, _⟩ := F.ex
    obtain rfl : dV = .none := by
      rcases hDV with ⟨_, z⟩ | ⟨z, _⟩
      · exact z
      · exact absurd rfl z
    match us, hu with
    | [_, _], _ => rfl
  · obtain ⟨_, a, dx, vals, ds, rfl, ha, hlen, _⟩ := h
    show vals.length + 1 = _
    rw [hlen]
    rfl
/-- with names, in the order ["names"] -/
def kw_Naming {α : Type} : List α → List α → List α
  | [a], [z1] => [a, z1]
  | _, _ => []
theorem ok_Naming_names {f C care eqA reprA initA : Addr} {fd : FuncData} {cc : Addr} (F : FunX K "__init__" "Naming.__init__" (defArgs ((inClass (top 9) 0))) (defBody ((inClass (top 9) 0))) (defScope (inClass (top 9) 0)) [("__class__", cc)] [] [] f fd)
    (B : FnB P w K mg base CX0 11 f fd ["self", "names"] (fun vs H Q E => spInit K care eqA reprA initA C "Naming" ["names"] vs [] H Q E)) :
    FnA P w K mg base CX0 11 f ["names"] (fun vs zs H Q E => vs.length = 1 ∧ zs.length = 1 ∧ (kw_Naming vs zs).length = 1 + 1 ∧ spInit K care eqA reprA initA C "Naming" ["names"] (kw_Naming vs zs) [] H Q E) := by
  refine B.kw (ks := ["names"]) 1 (g := kw_Naming) (gV := kw_Naming) (fun us ws h1 h2 => ?_) fun vs us zs ws h1 h2 r1 r2 => ?_
  · obtain ⟨oc, od, dV, kV, doc, pm, an, cdv, ct, osl, rfl, _, _, hDV, _⟩ := F.ex
    obtain rfl : dV = .none := by
      rcases hDV with ⟨_, z⟩ | ⟨z, _⟩
      · exact z
      · exact absurd rfl z
    obtain ⟨u, rfl⟩ := list1 h1
    obtain ⟨z1, rfl⟩ := list1 h2
    rfl
  · obtain ⟨v, rfl⟩ := list1 h1
    obtain ⟨z1, rfl⟩ := list1 h2
    cases r1 with
    | cons a1 t =>
      cases t
      cases r2 with
      | cons b1 t =>
        cases t
        exact .cons a1 (.cons b1 .nil)
end
end K77

namespace K77
open L2 PyProof.Rows PySem.Spec PySem Gd
local macro_rules | `(tactic| walk_at "rd0") => `(tactic| first
  | rfl
  | assumption
  | exact SqL.of (by assumption)
  | exact SqL.of upd_same
  | exact upd_same
  | exact SqT.of (by assumption)
  | exact SqT.of upd_same
  | decide
  | exact ⟨_, rfl⟩
  | exact ⟨by decide, by decide +kernel⟩
  | exact Or.inr ⟨by decide, by decide⟩
  | exact Or.inl ⟨_, by assumption, rfl⟩
  | exact Or.inl ⟨_, SqL.of (by assumption), rfl⟩
  | (simp only [List.length_cons, List.length_nil]; decide)
  | omega
  | decide +kernel
  | exact Or.inl ⟨by omega, by omega⟩)
local macro_rules | `(tactic| walk_at "rd1") => `(tactic| first
  | refine And.intro (by walk_at "rd0") ?_
  | apply Exists.intro
  | refine iteT ?_
  | (refine Or.inl ?_; apply Exists.intro; refine And.intro rfl ?_)
  | (refine Or.inr ?_; apply Exists.intro; refine And.intro rfl ?_)
  | (refine Or.inl ?_; apply Exists.intro; apply Exists.intro; refine And.intro rfl ?_; refine And.intro rfl ?_)
  | (refine Or.inr (Or.inl ?_); apply Exists.intro; apply Exists.intro; refine And.intro rfl ?_; refine And.intro rfl ?_))
local macro_rules | `(tactic| walk_at "rd") => `(tactic| repeat walk_at "rd1")
/-! ### made cares -/
structure MadeIn (K : PySem.W.Frag) (cs : List Addr) (care eqA reprA : Addr) (F : Hp) (x : Addr) (word : Str) (ns : List Str) (ds : List PyData) : Prop where
  ex : ∃ (C initA dx t : Addr) (vs : List V), C ∈ cs ∧ ClsF K C care eqA reprA initA ∧ F x = some (.ins C dx (("parts", .ref t) :: ns.zip vs)) ∧ F t = some (.tup (.str word :: vs)) ∧ DpAll K F vs ds
  ln : ns.length = ds.length
  l3 : ds.length ≤ 3
  ok : ∀ d ∈ ds, Okd 8 40000 d
  wd : PyData.strOk word = true ∧ word.length ≤ 7
theorem MadeIn.up {K : PySem.W.Frag} {cs : List Addr} {care eqA reprA : Addr} {F F' : Hp} {x : Addr} {word : Str} {ns : List Str} {ds : List PyData} (m : MadeIn K cs care eqA reprA F x word ns ds) (s : Same F F') : MadeIn K cs care eqA reprA F' x word ns ds := by
  obtain ⟨C, initA, dx, t, vs, h1, h2, h3, h4, h5⟩ := m.ex
  exact { ex := ⟨C, initA, dx, t, vs, h1, h2, s _ _ h3, s _ _ h4, dpAll_up s _ h5⟩, ln := m.ln, l3 := m.l3, ok := m.ok, wd := m.wd }
def sameCare (w w' : Str) (ds ds' : List PyData) : Bool := w == w' && PyData.eqv (.list ds) (.list ds')
def shownCare (w : Str) (ds : List PyData) : Str := ((w ++ "(") ++ Txt.join ", " (ds.map PyData.shown)) ++ ")"
structure Te (mg : Str → Option Value) (K : PySem.W.Frag) (cs : List Addr) (care : Addr) : Prop where
  g_Care : mg "Care" = some (.ref care)
  b_isinstance : mg "isinstance" = none
  b_repr : mg "repr" = none
  first : ∀ C ∈ cs, ∀ D ∈ cs, PySem.W.notFirst K C (.ref D) = true
  fstr : ∀ C ∈ cs, PySem.W.notFirst K C (.type "str") = true
  flst : ∀ C ∈ cs, PySem.W.notFirst K C (.type "list") = true
  kstr : PySem.W.kitOne K (.type "str") (.ref care) = some false
  klst : PySem.W.kitOne K (.type "list") (.ref care) = some false
def spEq (K : PySem.W.Frag) (cs : List Addr) (care eqA reprA : Addr) : SpA := fun vs zs H Q _ => zs = [] ∧ ∃ (a : Addr) (y : V) (w : Str) (ns : List Str) (ds : List PyData), vs = [.ref a, y] ∧ MadeIn K cs care eqA reprA H a w ns ds ∧
  ((∃ (b : Addr) (w' : Str) (ns' : List Str) (ds' : List PyData), y = .ref b ∧ MadeIn K cs care eqA reprA H b w' ns' ds' ∧ Q (.bl (sameCare w w' ds ds')) H) ∨ (∃ tb, TyX K H y tb ∧ PySem.W.kitOne K tb (.ref care) = some false ∧ Q (.bl false) H))
def spRepr (K : PySem.W.Frag) (cs : List Addr) (care eqA reprA : Addr) : SpA := fun vs zs H Q _ => zs = [] ∧ ∃ (a : Addr) (w : Str) (ns : List Str) (ds : List PyData), vs = [.ref a] ∧ MadeIn K cs care eqA reprA H a w ns ds ∧
  ∀ H', Gr [] H emp H' → Q (.str (shownCare w ds)) H'
section
variable {P : Program} {w : World} {K : PySem.W.Frag} {mg : Str → Option Value} {base : Heap}
theorem ClsF.ty {C care eqA reprA initA : Addr} (c : ClsF K C care eqA reprA initA) {H : Hp} {a dx : Addr} {fs : List (Str × V)} (e : H a = some (.ins C dx fs)) : TyX K H (.ref a) (.ref C) := .base (.ins e c.cl c.ca c.cn c.ct c.cm)
theorem sc_Care___eq__ : FnScope ["self", "other"] ["self", "other"] (defScope (inClass (top 3) 1)) := ⟨rfl, rfl, rfl, by decide +kernel, rfl, by decide +kernel, by decide +kernel⟩
theorem ok_eq {f care reprA : Addr} {cs : List Addr} {fd : FuncData} (F : FunD K "__eq__" "Care.__eq__" (defArgs ((inClass (top 3) 1))) (defBody ((inClass (top 3) 1))) (defScope (inClass (top 3) 1)) [] [] f fd) (T : Te mg K cs care) :
    FnA P w K mg base CX0 1 f [] (spEq K cs care f reprA) := by
  refine (okB (sp := fun vs H Q E => spEq K cs care f reprA vs [] H Q E) F sc_Care___eq__ fun cdv A outer s H vs Q E hr h => ?_).pos (FunD.bindsN F fun _ _ _ _ _ _ us hl => match us, hl with | [_, _], _ => rfl) (fun vs H Q E h => ?_) |>.imp fun vs zs H Q E h => ⟨h.1, h.1 ▸ h⟩
  · obtain ⟨_, a, y, wd, ns, ds, rfl, m, h⟩ := h
    obtain ⟨C, initA, dx, t, xs, h1, h2, h3, h4, h5⟩ := m.ex
    refine ⟨_, (pss_cons (ps_if (pt_not (pt_val (pe_callB call_isi (by rfl) T.b_isinstance (by decide +kernel) (pa_cons (pv 1) (pa_cons (pe_glob (v := .ref _) (by rfl) T.g_Care rfl) pa_nil))))) (pss_one (ps_ret pe_bl)) pss_nil) (pss_one (ps_ret (pe_cmpR (op_eqD hr.r.units) (pe_fld (pv 0) rfl) (pe_fld (pv 1) rfl) (nomark _))))), ?_⟩
    rcases h with ⟨b, wd', ns', ds', rfl, m', q⟩ | ⟨tb, ty, kt, q⟩
    · obtain ⟨C', initA', dx', t', xs', g1, g2, g3, g4, g5⟩ := m'.ex
      refine ⟨_, rfl, .ref b, .ref care, _, _, true, rfl, .own _, g2.ty g3, g2.kit, _, rfl, iteF ?_⟩
      refine ⟨_, rfl, a, C, dx, _, _, rfl, h3, h2.cl, h2.na _ (by decide +kernel), lk_hd, ?_⟩
      refine ⟨_, rfl, b, C', dx', _, _, rfl, g3, g2.cl, g2.na _ (by decide +kernel), lk_hd, ?_⟩
      refine ⟨.tuple (.str wd :: ds), .tuple (.str wd' :: ds'), .tup (SqT.of h4) (.cons (.str _) h5), .tup (SqT.of g4) (.cons (.str _) g5), shaped_parts m.wd.1 m.ok (by decide), shaped_parts m'.wd.1 m'.ok (by decide), ?_⟩
      rw [eqv_head]
      exact q
    · refine ⟨_, rfl, y, .ref care, _, _, false, rfl, .own _, ty, kt, _, rfl, iteT ?_⟩
      exact q
  · obtain ⟨_, a, y, wd, ns, ds, rfl, _⟩ := h
    rfl
theorem sc_Care___repr__ : FnScope ["self", "inside", "one"] ["self"] (defScope (inClass (top 3) 2)) := ⟨rfl, rfl, rfl, by decide +kernel, rfl, by decide +kernel, by decide +kernel⟩
theorem ok_repr {f care eqA : Addr} {cs : List Addr} {fd : FuncData} (F : FunD K "__repr__" "Care.__repr__" (defArgs ((inClass (top 3) 2))) (defBody ((inClass (top 3) 2))) (defScope (inClass (top 3) 2)) [] [] f fd) (T : Te mg K cs care) :
    FnA P w K mg base CX0 1 f [] (spRepr K cs care eqA f) := by
  refine (okB (sp := fun vs H Q E => spRepr K cs care eqA f vs [] H Q E) F sc_Care___repr__ fun cdv A outer s H vs Q E hr h => ?_).pos (FunD.bindsN F fun _ _ _ _ _ _ us hl => match us, hl with | [_], _ => rfl) (fun vs H Q E h => ?_) |>.imp fun vs zs H Q E h => ⟨h.1, h.1 ▸ h⟩
  · obtain ⟨_, a, wd, ns, ds, rfl, m, q⟩ := h
    obtain ⟨C, initA, dx, t, xs, h1, h2, h3, h4, h5⟩ := m.ex
    refine ⟨_, (pss_cons (ps_set (i := 1) sc_Care___repr__.nd rfl (Or.inl rfl) (pe_join pe_str (pe_lc (own := [("one", 2)]) rfl sc_Care___repr__.nd (pi_tup (pe_slice sl_tup (pe_fld (pv 0) rfl) (po_some pe_int) po_none)) (blkOk_by (N := ["self", "inside", "one"]) (sc := defScope (inClass (top 3) 2)) (by decide +kernel)) (fun _ _ _ _ _ => (pg_name (i := 2) sc_Care___repr__.nd rfl (Or.inl rfl))) (fun _ _ _ _ _ => pts_nil) (fun _ _ _ _ _ => (pe_repr K hr (by rfl) T.b_repr (pa_cons (pv 2) pa_nil)))))) (pss_one (ps_ret (pe_joined (.cons (pe_fmt (pe_ix ix_tup (pe_fld (pv 0) rfl) pe_int (fun _ _ => rfl))) (.cons pe_str (.cons (pe_fmt (pv 1)) (.cons pe_str .nil)))))))), ?_⟩
    have hl := dpAll_len h5
    walk_at "rd"
    refine ⟨h2.cl, h2.na _ (by decide +kernel), lk_hd, ?_⟩
    walk_at "rd"
    have hs1 : HT.sIx (V.str wd :: xs).length 0 (some 1) = 1 := by
      show (if (1 : Int) < 0 then ((1 : Int) + ((xs.length + 1 : Nat) : Int)).toNat else min (Int.toNat 1) (xs.length + 1)) = 1
      rw [if_neg (by decide)]
      show min 1 (xs.length + 1) = 1
      omega
    have hcut : cutV (V.str wd :: xs) (some 1) none = xs := by
      unfold cutV
      rw [hs1]
      show (xs.take ((xs.length + 1) - 1)) = xs
      rw [show xs.length + 1 - 1 = xs.length by omega, List.take_length]
    refine ⟨fun z => (by rw [hs1] at z; exact absurd z.1 (by decide)), fun p hp => ?_⟩
    rw [hcut]
    have g0 := (Gr.refl [] H).tmp (o := .tup xs) hp
    refine ⟨p, rfl, ⟨_, SqT.of upd_same⟩, fun D hD => ?_⟩
    have ne : p ≠ D := fun z => by
      subst z
      rw [upd_same] at hD
      cases hD
    refine lc_tup (K := K) (a := p) (xs := xs) (fun i H1 => H1 D = some (.lst (((ds.take i).map PyData.shown).map V.str)) ∧ Gr [] H emp H1 ∧ H1 p = some (.tup xs)) ?_ ?_ ?_ ?_
    · exact ⟨upd_same, g0.tmp hD, (upd_ne ne).trans upd_same⟩
    · rintro i H1 _ ⟨_, _, e⟩
      exact SqT.of e
    · rintro i x H1 hx ⟨e1, g, e2⟩
      obtain ⟨dx', m1, m2, m3⟩ := dpAll_at h5 hx
      have ok := m.ok dx' m1
      have hi : i < xs.length := (List.getElem?_eq_some_iff.mp hx).1
      refine And.intro rfl ?_
      refine ⟨_, rfl, x, dx', rfl, dp_up g.same _ m3, ok.sh, ok.noDict, Nat.le_trans ok.dp (by decide), ok.shown_fits (by decide), ?_⟩
      refine ⟨_, e1, by rw [List.length_map, List.length_map, List.length_take, sizeLine_eq]; have := m.l3; omega, ?_, ?_, ?_⟩
      · rw [upd_same, List.take_add_one, m2, List.map_append, List.map_append]
        rfl
      · exact g.chg rfl (.inr (off_none hp hD))
      · exact (upd_ne ne).trans e2
    · rintro H1 ⟨e1, g, e2⟩
      rw [hl, List.take_length] at e1
      have hB : ∀ y ∈ ds.map PyData.shown, y.length ≤ 4480110 := fun y hy => by
        obtain ⟨d, hd, e⟩ := List.mem_map.mp hy
        rw [← e]
        exact (m.ok d hd).shown_le
      have hS := lens_sum hB
      have hj := StrLaws.join_length_le (", " : Str) (ds.map PyData.shown)
      have hc : (", " : Str).length = 2 := by decide +kernel
      have h3' := m.l3
      rw [List.length_map] at hS
      rw [List.length_map, hc] at hj
      refine ⟨", ", D, ds.map PyData.shown, rfl, rfl, .inl (SqL.of e1), by rw [List.length_map, hc]; omega, ?_⟩
      rw [← txt_join] at hj
      unfold shownCare at q
      generalize Txt.join (", " : Str) (ds.map PyData.shown) = jt at hj q ⊢
      have w7 := m.wd.2
      have o1 : ("(" : Str).length = 1 := by decide +kernel
      have o2 : (")" : Str).length = 1 := by decide +kernel
      refine ⟨_, rfl, a, C, dx, _, _, rfl, g.same _ _ h3, h2.cl, h2.na _ (by decide +kernel), lk_hd, ?_⟩
      refine ⟨t, V.str wd :: xs, 0, .str wd, rfl, rfl, SqT.of (g.same _ _ h4), atI_nat (j := 0) rfl, .inl ⟨wd, rfl, by rw [sizeLine_eq]; omega, ?_⟩⟩
      refine ⟨wd, rfl, by rw [Str.empty_append, sizeLine_eq]; omega, ?_⟩
      rw [Str.empty_append]
      refine ⟨"(", rfl, by rw [Str.length_append, o1, sizeLine_eq]; omega, ?_⟩
      refine ⟨_, rfl, .inl ⟨jt, rfl, by rw [sizeLine_eq]; omega, jt, rfl, by rw [Str.length_append, Str.length_append, o1, sizeLine_eq]; omega, ?_⟩⟩
      refine ⟨")", rfl, by rw [Str.length_append, Str.length_append, Str.length_append, o1, o2, sizeLine_eq]; omega, ?_⟩
      exact q H1 g
  · obtain ⟨_, a, wd, ns, ds, rfl, _⟩ := h
    rfl
end
end K77

namespace K77
open L2 PyProof.Rows PySem.Spec PySem Gd
local macro_rules | `(tactic| walk_at "rd0") => `(tactic| first
  | rfl
  | assumption
  | exact SqL.of (by assumption)
  | exact SqL.of upd_same
  | exact upd_same
  | exact SqT.of (by assumption)
  | exact SqT.of upd_same
  | decide
  | exact ⟨_, rfl⟩
  | exact ⟨by decide, by decide +kernel⟩
  | exact Or.inr ⟨by decide, by decide⟩
  | exact Or.inl ⟨_, by assumption, rfl⟩
  | exact Or.inl ⟨_, SqL.of (by assumption), rfl⟩
  | (simp only [List.length_cons, List.length_nil]; decide)
  | omega
  | decide +kernel
  | exact Or.inl ⟨by omega, by omega⟩)
local macro_rules | `(tactic| walk_at "rd1") => `(tactic| first
  | refine And.intro (by walk_at "rd0") ?_
  | apply Exists.intro
  | refine iteT ?_
  | (refine Or.inl ?_; apply Exists.intro; refine And.intro rfl ?_)
  | (refine Or.inr ?_; apply Exists.intro; refine And.intro rfl ?_)
  | (refine Or.inl ?_; apply Exists.intro; apply Exists.intro; refine And.intro rfl ?_; refine And.intro rfl ?_)
  | (refine Or.inr (Or.inl ?_); apply Exists.intro; apply Exists.intro; refine And.intro rfl ?_; refine And.intro rfl ?_))
local macro_rules | `(tactic| walk_at "rd") => `(tactic| repeat walk_at "rd1")
/-! ### making cares -/
section
variable {K : PySem.W.Frag} {cs : List Addr} {care eqA reprA initA C : Addr} {H0 F H : Hp} {word : Str} {ns : List Str} {vals : List V} {ds : List PyData}
theorem made {R : VK} {E : XK} {x dx : Addr} (h1 : H x = none) (h2 : H dx = none) (ne : dx ≠ x) (g : Gr [] H0 F H) (hC : ClsF K C care eqA reprA initA) (hm : C ∈ cs) (hD : DpAll K H0 vals ds) (ok : ∀ d ∈ ds, Okd 8 40000 d) (ln : vals.length = ns.length) (l3 : ns.length ≤ 3) (wd : PyData.strOk word = true ∧ word.length ≤ 7)
    (k : ∀ F' H', Gr [] H0 F' H' → Same F F' → MadeIn K cs care eqA reprA F' x word ns ds → R .non H') :
    spInit K care eqA reprA initA C word ns (.ref x :: vals) [] (upd (upd H dx (.own x)) x (.ins C dx [])) R E := by
  have f1 : (upd H dx (.own x)) x = none := (upd_ne ne.symm).trans h1
  have lv := dpAll_len hD
  have hD2 := dpAll_up g.same _ hD
  refine ⟨rfl, x, dx, vals, ds, rfl, upd_same, ln, dpAll_up (same_upd f1) _ (dpAll_up (same_upd h2) _ hD2), fun d hd => (ok d hd).mono (by decide) (by decide), fun F' H' t vs' g' pt e => ?_⟩
  obtain ⟨g2, s2⟩ := g'.made h1 h2 ne e
  have g3 := g.call0 g2
  have s3 := g.un_r g2
  refine k _ _ g3 (un_left _ _) { ex := ⟨C, initA, dx, t, vs', hm, hC, s3 _ _ upd_same, s3 _ _ (s2 _ _ pt.1), dpAll_up s3 _ (dpAll_up s2 _ pt.2)⟩, ln := by omega, l3 := by omega, ok := ok, wd := wd }
structure Row where
  w : Str
  ns : List Str
  vs : List V
  ds : List PyData
def TripIn (K : PySem.W.Frag) (cs : List Addr) (care eqA reprA : Addr) (F : Hp) (v : V) (r : Row) : Prop := ∃ p x fl, v = .ref p ∧ F p = some (.tup [.ref x, .str r.w, .ref fl]) ∧ F fl = some (.lst r.vs) ∧ MadeIn K cs care eqA reprA F x r.w r.ns r.ds
def NamedIn (K : PySem.W.Frag) (cs : List Addr) (care eqA reprA : Addr) (F : Hp) (v : V) (r : Row) : Prop := ∃ x, v = .ref x ∧ MadeIn K cs care eqA reprA F x r.w r.ns r.ds
theorem TripIn.up {F' : Hp} {v : V} {r : Row} (s : Same F F') (h : TripIn K cs care eqA reprA F v r) : TripIn K cs care eqA reprA F' v r := by
  obtain ⟨p, x, fl, h1, h2, h3, h4⟩ := h
  exact ⟨p, x, fl, h1, s _ _ h2, s _ _ h3, h4.up s⟩
theorem NamedIn.up {F' : Hp} {v : V} {r : Row} (s : Same F F') (h : NamedIn K cs care eqA reprA F v r) : NamedIn K cs care eqA reprA F' v r := by
  obtain ⟨x, h1, h4⟩ := h
  exact ⟨x, h1, h4.up s⟩
theorem trip {x fl p : Addr} (g : Gr [] H0 F H) (m : MadeIn K cs care eqA reprA F x word ns ds) (h1 : H fl = none) (h2 : (upd H fl (.lst vals)) p = none) :
    ∃ F', Gr [] H0 F' (upd (upd H fl (.lst vals)) p (.tup [.ref x, .str word, .ref fl])) ∧ Same F F' ∧ TripIn K cs care eqA reprA F' (.ref p) ⟨word, ns, vals, ds⟩ := by
  have g1 := g.alloc (o := .lst vals) h1
  have g2 := g1.alloc (o := .tup [.ref x, .str word, .ref fl]) h2
  have s1 := same_upd (o := .lst vals) (g.fresh h1).1
  have s2 := same_upd (o := .tup [.ref x, .str word, .ref fl]) (g1.fresh h2).1
  have s : Same F _ := fun b u e => s2 b u (s1 b u e)
  exact ⟨_, g2, s, p, x, fl, rfl, upd_same, s2 _ _ upd_same, m.up s⟩
theorem kept {l : Addr} {o : HO} (g : Gr [] H0 F H) (h : H l = none) : ∃ F', Gr [] H0 F' (upd H l o) ∧ Same F F' ∧ F' l = some o := ⟨_, g.alloc h, same_upd (g.fresh h).1, upd_same⟩
end
def rows (v1 v2 v3 : V) (d1 d2 d3 : PyData) : List Row := [⟨"Insert", ["name", "at", "text"], [v1, v2, v3], [d1, d2, d3]⟩,
  ⟨"Under", ["name", "at", "condition"], [v1, v2, v3], [d1, d2, d3]⟩,
  ⟨"Without", ["name", "at"], [v1, v2], [d1, d2]⟩,
  ⟨"Alone", ["name"], [v1], [d1]⟩,
  ⟨"Waiting", ["age"], [v2], [d2]⟩,
  ⟨"Naming", ["names"], [v3], [d3]⟩,
  ⟨"Waiting", ["age"], [v1], [d1]⟩,
  ⟨"Naming", ["names"], [v1], [d1]⟩]
structure Tm (mg : Str → Option Value) (K : PySem.W.Frag) (cs : List Addr) (care eqA reprA initA cInsert iInsert cUnder iUnder cWithout iWithout cAlone iAlone cWaiting iWaiting cNaming iNaming : Addr) : Prop where
  g_Insert : mg "Insert" = some (.ref cInsert)
  m_Insert : Mk K cInsert iInsert
  f_Insert : ClsF K cInsert care eqA reprA initA
  s_Insert : cInsert ∈ cs
  g_Under : mg "Under" = some (.ref cUnder)
  m_Under : Mk K cUnder iUnder
  f_Under : ClsF K cUnder care eqA reprA initA
  s_Under : cUnder ∈ cs
  g_Without : mg "Without" = some (.ref cWithout)
  m_Without : Mk K cWithout iWithout
  f_Without : ClsF K cWithout care eqA reprA initA
  s_Without : cWithout ∈ cs
  g_Alone : mg "Alone" = some (.ref cAlone)
  m_Alone : Mk K cAlone iAlone
  f_Alone : ClsF K cAlone care eqA reprA initA
  s_Alone : cAlone ∈ cs
  g_Waiting : mg "Waiting" = some (.ref cWaiting)
  m_Waiting : Mk K cWaiting iWaiting
  f_Waiting : ClsF K cWaiting care eqA reprA initA
  s_Waiting : cWaiting ∈ cs
  g_Naming : mg "Naming" = some (.ref cNaming)
  m_Naming : Mk K cNaming iNaming
  f_Naming : ClsF K cNaming care eqA reprA initA
  s_Naming : cNaming ∈ cs
def spThree (K : PySem.W.Frag) (R : Hp → List V → List Row → Prop) : SpA := fun vs zs H Q _ => zs = [] ∧ ∃ v1 v2 v3 d1 d2 d3, vs = [v1, v2, v3] ∧ Dp K H v1 d1 ∧ Dp K H v2 d2 ∧ Dp K H v3 d3 ∧ Okd 8 40000 d1 ∧ Okd 8 40000 d2 ∧ Okd 8 40000 d3 ∧
  ∀ L xs F H', Gr [] H F H' → F L = some (.lst xs) → R F xs (rows v1 v2 v3 d1 d2 d3) → Q (.ref L) H'
section
variable {P : Program} {w : World} {K : PySem.W.Frag} {mg : Str → Option Value} {base : Heap}
theorem sc__law_all : FnScope ["_law_one", "_law_other", "_law_third", "_law_made"] ["_law_one", "_law_other", "_law_third"] (defScope (top 14)) := ⟨rfl, rfl, rfl, by decide +kernel, rfl, by decide +kernel, by decide +kernel⟩
theorem ok_law_all {f care eqA reprA initA cInsert iInsert cUnder iUnder cWithout iWithout cAlone iAlone cWaiting iWaiting cNaming iNaming : Addr} {cs : List Addr} {fd : FuncData} (F : FnD K "_law_all" ((top 14)) f fd) (T : Tm mg K cs care eqA reprA initA cInsert iInsert cUnder iUnder cWithout iWithout cAlone iAlone cWaiting iWaiting cNaming iNaming)
    (F_Insert : FnA P w K mg base CX0 11 iInsert [] (spInit K care eqA reprA initA cInsert "Insert" ["name", "at", "text"]))
    (F_Under : FnA P w K mg base CX0 11 iUnder [] (spInit K care eqA reprA initA cUnder "Under" ["name", "at", "condition"]))
    (F_Without : FnA P w K mg base CX0 11 iWithout [] (spInit K care eqA reprA initA cWithout "Without" ["name", "at"]))
    (F_Alone : FnA P w K mg base CX0 11 iAlone [] (spInit K care eqA reprA initA cAlone "Alone" ["name"]))
    (F_Waiting : FnA P w K mg base CX0 11 iWaiting [] (spInit K care eqA reprA initA cWaiting "Waiting" ["age"]))
    (F_Naming : FnA P w K mg base CX0 11 iNaming [] (spInit K care eqA reprA initA cNaming "Naming" ["names"])) : FnA P w K mg base CX0 13 f [] (spThree K (fun F => Paired (TripIn K cs care eqA reprA F))) := by
  refine (okB (sp := fun vs H Q E => spThree K (fun F => Paired (TripIn K cs care eqA reprA F)) vs [] H Q E) F sc__law_all fun cdv A outer s H vs Q E hr h => ?_).pos (FunD.bindsN F fun _ _ _ _ _ _ us hl => match us, hl with | [_, _, _], _ => rfl) (fun vs H Q E h => ?_) |>.imp fun vs zs H Q E h => ⟨h.1, h.1 ▸ h⟩
  · obtain ⟨_, v1, v2, v3, d1, d2, d3, rfl, D1, D2, D3, o1, o2, o3, k⟩ := h
    refine ⟨_, (pss_cons (ps_set (i := 3) sc__law_all.nd rfl (Or.inl rfl) (pe_lst (pa_cons (pe_tup (pa_cons (pe_mk T.m_Insert F_Insert (hr.mono (by first | decide | omega)) rfl T.g_Insert pass0 (pa_cons (pv 0) (pa_cons (pv 1) (pa_cons (pv 2) pa_nil)))) (pa_cons pe_str (pa_cons (pe_lst (pa_cons (pv 0) (pa_cons (pv 1) (pa_cons (pv 2) pa_nil)))) pa_nil)))) (pa_cons (pe_tup (pa_cons (pe_mk T.m_Under F_Under (hr.mono (by first | decide | omega)) rfl T.g_Under pass0 (pa_cons (pv 0) (pa_cons (pv 1) (pa_cons (pv 2) pa_nil)))) (pa_cons pe_str (pa_cons (pe_lst (pa_cons (pv 0) (pa_cons (pv 1) (pa_cons (pv 2) pa_nil)))) pa_nil)))) pa_nil)))) (pss_cons (ps_set (i := 3) sc__law_all.nd rfl (Or.inl rfl) (pe_op op_addA (pv 3) (pe_lst (pa_cons (pe_tup (pa_cons (pe_mk T.m_Without F_Without (hr.mono (by first | decide | omega)) rfl T.g_Without pass0 (pa_cons (pv 0) (pa_cons (pv 1) pa_nil))) (pa_cons pe_str (pa_cons (pe_lst (pa_cons (pv 0) (pa_cons (pv 1) pa_nil))) pa_nil)))) (pa_cons (pe_tup (pa_cons (pe_mk T.m_Alone F_Alone (hr.mono (by first | decide | omega)) rfl T.g_Alone pass0 (pa_cons (pv 0) pa_nil)) (pa_cons pe_str (pa_cons (pe_lst (pa_cons (pv 0) pa_nil)) pa_nil)))) (pa_cons (pe_tup (pa_cons (pe_mk T.m_Waiting F_Waiting (hr.mono (by first | decide | omega)) rfl T.g_Waiting pass0 (pa_cons (pv 1) pa_nil)) (pa_cons pe_str (pa_cons (pe_lst (pa_cons (pv 1) pa_nil)) pa_nil)))) pa_nil)))))) (pss_one (ps_ret (pe_op op_addA (pv 3) (pe_lst (pa_cons (pe_tup (pa_cons (pe_mk T.m_Naming F_Naming (hr.mono (by first | decide | omega)) rfl T.g_Naming pass0 (pa_cons (pv 2) pa_nil)) (pa_cons pe_str (pa_cons (pe_lst (pa_cons (pv 2) pa_nil)) pa_nil)))) (pa_cons (pe_tup (pa_cons (pe_mk T.m_Waiting F_Waiting (hr.mono (by first | decide | omega)) rfl T.g_Waiting pass0 (pa_cons (pv 0) pa_nil)) (pa_cons pe_str (pa_cons (pe_lst (pa_cons (pv 0) pa_nil)) pa_nil)))) (pa_cons (pe_tup (pa_cons (pe_mk T.m_Naming F_Naming (hr.mono (by first | decide | omega)) rfl T.g_Naming pass0 (pa_cons (pv 0) pa_nil)) (pa_cons pe_str (pa_cons (pe_lst (pa_cons (pv 0) pa_nil)) pa_nil)))) pa_nil))))))))), ?_⟩
    have g0 := Gr.refl [] H
    walk_at "rd"
    intro x1 dx h1 h2 ne
    refine made (word := "Insert") (ns := ["name", "at", "text"]) (ds := [d1, d2, d3]) (vals := [v1, v2, v3]) h1 h2 ne g0 T.f_Insert T.s_Insert (.cons D1 (.cons D2 (.cons D3 .nil))) (fun d hd => by simp only [List.mem_cons, List.not_mem_nil, or_false] at hd; rcases hd with rfl | rfl | rfl <;> assumption) rfl (by decide) ⟨by decide +kernel, by decide +kernel⟩ ?_
    clear ne h1 h2 dx
    intro F1a H1a ga1 sa1 m1
    refine ⟨rfl, ?_⟩
    walk_at "rd"
    intro fl nfl
    walk_at "rd"
    intro p1 np
    obtain ⟨F1, g1, sb1, t1⟩ := trip ga1 m1 nfl np
    generalize upd (upd H1a fl _) p1 _ = H1 at g1 ⊢
    clear np nfl
    walk_at "rd"
    intro x2 dx h1 h2 ne
    refine made (word := "Under") (ns := ["name", "at", "condition"]) (ds := [d1, d2, d3]) (vals := [v1, v2, v3]) h1 h2 ne g1 T.f_Under T.s_Under (.cons D1 (.cons D2 (.cons D3 .nil))) (fun d hd => by simp only [List.mem_cons, List.not_mem_nil, or_false] at hd; rcases hd with rfl | rfl | rfl <;> assumption) rfl (by decide) ⟨by decide +kernel, by decide +kernel⟩ ?_
    clear ne h1 h2 dx
    intro F2a H2a ga2 sa2 m2
    refine ⟨rfl, ?_⟩
    walk_at "rd"
    intro fl nfl
    walk_at "rd"
    intro p2 np
    obtain ⟨F2, g2, sb2, t2⟩ := trip ga2 m2 nfl np
    generalize upd (upd H2a fl _) p2 _ = H2 at g2 ⊢
    clear np nfl
    have t1 := t1.up (fun b u e => sb2 b u (sa2 b u e))
    walk_at "rd"
    intro La nl
    obtain ⟨F3, g3, s3, ea⟩ := kept g2 nl
    generalize upd _ La _ = H3 at g3 ⊢
    clear nl
    have t1 := t1.up s3
    have t2 := t2.up s3
    walk_at "rd"
    walk_at "rd"
    intro x4 dx h1 h2 ne
    refine made (word := "Without") (ns := ["name", "at"]) (ds := [d1, d2]) (vals := [v1, v2]) h1 h2 ne g3 T.f_Without T.s_Without (.cons D1 (.cons D2 .nil)) (fun d hd => by simp only [List.mem_cons, List.not_mem_nil, or_false] at hd; rcases hd with rfl | rfl <;> assumption) rfl (by decide) ⟨by decide +kernel, by decide +kernel⟩ ?_
    clear ne h1 h2 dx
    intro F4a H4a ga4 sa4 m4
    refine ⟨rfl, ?_⟩
    walk_at "rd"
    intro fl nfl
    walk_at "rd"
    intro p4 np
    obtain ⟨F4, g4, sb4, t3⟩ := trip ga4 m4 nfl np
    generalize upd (upd H4a fl _) p4 _ = H4 at g4 ⊢
    clear np nfl
    have t1 := t1.up (fun b u e => sb4 b u (sa4 b u e))
    have t2 := t2.up (fun b u e => sb4 b u (sa4 b u e))
    have ea := (fun b u e => sb4 b u (sa4 b u e)) _ _ ea
    walk_at "rd"
    intro x5 dx h1 h2 ne
    refine made (word := "Alone") (ns := ["name"]) (ds := [d1]) (vals := [v1]) h1 h2 ne g4 T.f_Alone T.s_Alone (.cons D1 .nil) (fun d hd => by simp only [List.mem_cons, List.not_mem_nil, or_false] at hd; rcases hd with rfl <;> assumption) rfl (by decide) ⟨by decide +kernel, by decide +kernel⟩ ?_
    clear ne h1 h2 dx
    intro F5a H5a ga5 sa5 m5
    refine ⟨rfl, ?_⟩
    walk_at "rd"
    intro fl nfl
    walk_at "rd"
    intro p5 np
    obtain ⟨F5, g5, sb5, t4⟩ := trip ga5 m5 nfl np
    generalize upd (upd H5a fl _) p5 _ = H5 at g5 ⊢
    clear np nfl
    have t1 := t1.up (fun b u e => sb5 b u (sa5 b u e))
    have t2 := t2.up (fun b u e => sb5 b u (sa5 b u e))
    have t3 := t3.up (fun b u e => sb5 b u (sa5 b u e))
    have ea := (fun b u e => sb5 b u (sa5 b u e)) _ _ ea
    walk_at "rd"
    intro x6 dx h1 h2 ne
    refine made (word := "Waiting") (ns := ["age"]) (ds := [d2]) (vals := [v2]) h1 h2 ne g5 T.f_Waiting T.s_Waiting (.cons D2 .nil) (fun d hd => by simp only [List.mem_cons, List.not_mem_nil, or_false] at hd; rcases hd with rfl <;> assumption) rfl (by decide) ⟨by decide +kernel, by decide +kernel⟩ ?_
    clear ne h1 h2 dx
    intro F6a H6a ga6 sa6 m6
    refine ⟨rfl, ?_⟩
    walk_at "rd"
    intro fl nfl
    walk_at "rd"
    intro p6 np
    obtain ⟨F6, g6, sb6, t5⟩ := trip ga6 m6 nfl np
    generalize upd (upd H6a fl _) p6 _ = H6 at g6 ⊢
    clear np nfl
    have t1 := t1.up (fun b u e => sb6 b u (sa6 b u e))
    have t2 := t2.up (fun b u e => sb6 b u (sa6 b u e))
    have t3 := t3.up (fun b u e => sb6 b u (sa6 b u e))
    have t4 := t4.up (fun b u e => sb6 b u (sa6 b u e))
    have ea := (fun b u e => sb6 b u (sa6 b u e)) _ _ ea
    walk_at "rd"
    intro Lb nl
    obtain ⟨F7, g7, s7, eb⟩ := kept g6 nl
    generalize upd _ Lb _ = H7 at g7 ⊢
    clear nl
    have t1 := t1.up s7
    have t2 := t2.up s7
    have t3 := t3.up s7
    have t4 := t4.up s7
    have t5 := t5.up s7
    have ea := s7 _ _ ea
    refine .inr (.inr (.inl ⟨La, Lb, _, _, rfl, rfl, g7.sb _ _ ea, g7.sb _ _ eb, (by simp only [List.length_append, List.length_cons, List.length_nil]; decide), ?_⟩))
    walk_at "rd"
    intro Lc nl
    obtain ⟨F8, g8, s8, ec⟩ := kept g7 nl
    generalize upd _ Lc _ = H8 at g8 ⊢
    clear nl
    have t1 := t1.up s8
    have t2 := t2.up s8
    have t3 := t3.up s8
    have t4 := t4.up s8
    have t5 := t5.up s8
    have ea := s8 _ _ ea
    have eb := s8 _ _ eb
    walk_at "rd"
    walk_at "rd"
    intro x9 dx h1 h2 ne
    refine made (word := "Naming") (ns := ["names"]) (ds := [d3]) (vals := [v3]) h1 h2 ne g8 T.f_Naming T.s_Naming (.cons D3 .nil) (fun d hd => by simp only [List.mem_cons, List.not_mem_nil, or_false] at hd; rcases hd with rfl <;> assumption) rfl (by decide) ⟨by decide +kernel, by decide +kernel⟩ ?_
    clear ne h1 h2 dx
    intro F9a H9a ga9 sa9 m9
    refine ⟨rfl, ?_⟩
    walk_at "rd"
    intro fl nfl
    walk_at "rd"
    intro p9 np
    obtain ⟨F9, g9, sb9, t6⟩ := trip ga9 m9 nfl np
    generalize upd (upd H9a fl _) p9 _ = H9 at g9 ⊢
    clear np nfl
    have t1 := t1.up (fun b u e => sb9 b u (sa9 b u e))
    have t2 := t2.up (fun b u e => sb9 b u (sa9 b u e))
    have t3 := t3.up (fun b u e => sb9 b u (sa9 b u e))
    have t4 := t4.up (fun b u e => sb9 b u (sa9 b u e))
    have t5 := t5.up (fun b u e => sb9 b u (sa9 b u e))
    have ea := (fun b u e => sb9 b u (sa9 b u e)) _ _ ea
    have eb := (fun b u e => sb9 b u (sa9 b u e)) _ _ eb
    have ec := (fun b u e => sb9 b u (sa9 b u e)) _ _ ec
    walk_at "rd"
    intro x10 dx h1 h2 ne
    refine made (word := "Waiting") (ns := ["age"]) (ds := [d1]) (vals := [v1]) h1 h2 ne g9 T.f_Waiting T.s_Waiting (.cons D1 .nil) (fun d hd => by simp only [List.mem_cons, List.not_mem_nil, or_false] at hd; rcases hd with rfl <;> assumption) rfl (by decide) ⟨by decide +kernel, by decide +kernel⟩ ?_
    clear ne h1 h2 dx
    intro F10a H10a ga10 sa10 m10
    refine ⟨rfl, ?_⟩
    walk_at "rd"
    intro fl nfl
    walk_at "rd"
    intro p10 np
    obtain ⟨F10, g10, sb10, t7⟩ := trip ga10 m10 nfl np
    generalize upd (upd H10a fl _) p10 _ = H10 at g10 ⊢
    clear np nfl
    have t1 := t1.up (fun b u e => sb10 b u (sa10 b u e))
    have t2 := t2.up (fun b u e => sb10 b u (sa10 b u e))
    have t3 := t3.up (fun b u e => sb10 b u (sa10 b u e))
    have t4 := t4.up (fun b u e => sb10 b u (sa10 b u e))
    have t5 := t5.up (fun b u e => sb10 b u (sa10 b u e))
    have t6 := t6.up (fun b u e => sb10 b u (sa10 b u e))
    have ea := (fun b u e => sb10 b u (sa10 b u e)) _ _ ea
    have eb := (fun b u e => sb10 b u (sa10 b u e)) _ _ eb
    have ec := (fun b u e => sb10 b u (sa10 b u e)) _ _ ec
    walk_at "rd"
    intro x11 dx h1 h2 ne
    refine made (word := "Naming") (ns := ["names"]) (ds := [d1]) (vals := [v1]) h1 h2 ne g10 T.f_Naming T.s_Naming (.cons D1 .nil) (fun d hd => by simp only [List.mem_cons, List.not_mem_nil, or_false] at hd; rcases hd with rfl <;> assumption) rfl (by decide) ⟨by decide +kernel, by decide +kernel⟩ ?_
    clear ne h1 h2 dx
    intro F11a H11a ga11 sa11 m11
    refine ⟨rfl, ?_⟩
    walk_at "rd"
    intro fl nfl
    walk_at "rd"
    intro p11 np
    obtain ⟨F11, g11, sb11, t8⟩ := trip ga11 m11 nfl np
    generalize upd (upd H11a fl _) p11 _ = H11 at g11 ⊢
    clear np nfl
    have t1 := t1.up (fun b u e => sb11 b u (sa11 b u e))
    have t2 := t2.up (fun b u e => sb11 b u (sa11 b u e))
    have t3 := t3.up (fun b u e => sb11 b u (sa11 b u e))
    have t4 := t4.up (fun b u e => sb11 b u (sa11 b u e))
    have t5 := t5.up (fun b u e => sb11 b u (sa11 b u e))
    have t6 := t6.up (fun b u e => sb11 b u (sa11 b u e))
    have t7 := t7.up (fun b u e => sb11 b u (sa11 b u e))
    have ea := (fun b u e => sb11 b u (sa11 b u e)) _ _ ea
    have eb := (fun b u e => sb11 b u (sa11 b u e)) _ _ eb
    have ec := (fun b u e => sb11 b u (sa11 b u e)) _ _ ec
    walk_at "rd"
    intro Ld nl
    obtain ⟨F12, g12, s12, ed⟩ := kept g11 nl
    generalize upd _ Ld _ = H12 at g12 ⊢
    clear nl
    have t1 := t1.up s12
    have t2 := t2.up s12
    have t3 := t3.up s12
    have t4 := t4.up s12
    have t5 := t5.up s12
    have t6 := t6.up s12
    have t7 := t7.up s12
    have t8 := t8.up s12
    have ea := s12 _ _ ea
    have eb := s12 _ _ eb
    have ec := s12 _ _ ec
    refine .inr (.inr (.inl ⟨Lc, Ld, _, _, rfl, rfl, g12.sb _ _ ec, g12.sb _ _ ed, (by simp only [List.length_append, List.length_cons, List.length_nil]; decide), ?_⟩))
    walk_at "rd"
    intro Le nl
    obtain ⟨F13, g13, s13, ee⟩ := kept g12 nl
    generalize upd _ Le _ = H13 at g13 ⊢
    clear nl
    have t1 := t1.up s13
    have t2 := t2.up s13
    have t3 := t3.up s13
    have t4 := t4.up s13
    have t5 := t5.up s13
    have t6 := t6.up s13
    have t7 := t7.up s13
    have t8 := t8.up s13
    have ea := s13 _ _ ea
    have eb := s13 _ _ eb
    have ec := s13 _ _ ec
    have ed := s13 _ _ ed
    exact k _ _ _ _ g13 ee (.cons t1 (.cons t2 (.cons t3 (.cons t4 (.cons t5 (.cons t6 (.cons t7 (.cons t8 .nil))))))))
  · obtain ⟨_, v1, v2, v3, d1, d2, d3, rfl, _⟩ := h
    rfl
theorem sc__law_named : FnScope ["_law_one", "_law_other", "_law_third", "_law_made"] ["_law_one", "_law_other", "_law_third"] (defScope (top 15)) := ⟨rfl, rfl, rfl, by decide +kernel, rfl, by decide +kernel, by decide +kernel⟩
theorem ok_law_named {f care eqA reprA initA cInsert iInsert cUnder iUnder cWithout iWithout cAlone iAlone cWaiting iWaiting cNaming iNaming : Addr} {cs : List Addr} {fd : FuncData} (F : FnD K "_law_named" ((top 15)) f fd) (T : Tm mg K cs care eqA reprA initA cInsert iInsert cUnder iUnder cWithout iWithout cAlone iAlone cWaiting iWaiting cNaming iNaming)
    (F_Insert_text_at_name : FnA P w K mg base CX0 11 iInsert ["text", "at", "name"] (fun vs zs H Q E => vs.length = 1 ∧ zs.length = 3 ∧ (kw_Insert vs zs).length = 3 + 1 ∧ spInit K care eqA reprA initA cInsert "Insert" ["name", "at", "text"] (kw_Insert vs zs) [] H Q E))
    (F_Under_name_condition_at : FnA P w K mg base CX0 11 iUnder ["name", "condition", "at"] (fun vs zs H Q E => vs.length = 1 ∧ zs.length = 3 ∧ (kw_Under vs zs).length = 3 + 1 ∧ spInit K care eqA reprA initA cUnder "Under" ["name", "at", "condition"] (kw_Under vs zs) [] H Q E))
    (F_Without_at_name : FnA P w K mg base CX0 11 iWithout ["at", "name"] (fun vs zs H Q E => vs.length = 1 ∧ zs.length = 2 ∧ (kw_Without vs zs).length = 2 + 1 ∧ spInit K care eqA reprA initA cWithout "Without" ["name", "at"] (kw_Without vs zs) [] H Q E))
    (F_Alone_name : FnA P w K mg base CX0 11 iAlone ["name"] (fun vs zs H Q E => vs.length = 1 ∧ zs.length = 1 ∧ (kw_Alone vs zs).length = 1 + 1 ∧ spInit K care eqA reprA initA cAlone "Alone" ["name"] (kw_Alone vs zs) [] H Q E))
    (F_Waiting_age : FnA P w K mg base CX0 11 iWaiting ["age"] (fun vs zs H Q E => vs.length = 1 ∧ zs.length = 1 ∧ (kw_Waiting vs zs).length = 1 + 1 ∧ spInit K care eqA reprA initA cWaiting "Waiting" ["age"] (kw_Waiting vs zs) [] H Q E))
    (F_Naming_names : FnA P w K mg base CX0 11 iNaming ["names"] (fun vs zs H Q E => vs.length = 1 ∧ zs.length = 1 ∧ (kw_Naming vs zs).length = 1 + 1 ∧ spInit K care eqA reprA initA cNaming "Naming" ["names"] (kw_Naming vs zs) [] H Q E)) : FnA P w K mg base CX0 13 f [] (spThree K (fun F => Paired (NamedIn K cs care eqA reprA F))) := by
  refine (okB (sp := fun vs H Q E => spThree K (fun F => Paired (NamedIn K cs care eqA reprA F)) vs [] H Q E) F sc__law_named fun cdv A outer s H vs Q E hr h => ?_).pos (FunD.bindsN F fun _ _ _ _ _ _ us hl => match us, hl with | [_, _, _], _ => rfl) (fun vs H Q E h => ?_) |>.imp fun vs zs H Q E h => ⟨h.1, h.1 ▸ h⟩
  · obtain ⟨_, v1, v2, v3, d1, d2, d3, rfl, D1, D2, D3, o1, o2, o3, k⟩ := h
    refine ⟨_, (pss_cons (ps_set (i := 3) sc__law_named.nd rfl (Or.inl rfl) (pe_lst (pa_cons (pe_mkK0 T.m_Insert F_Insert_text_at_name (hr.mono (by first | decide | omega)) rfl T.g_Insert pass0 (pk_cons (pv 2) (pk_cons (pv 1) (pk_cons (pv 0) pk_nil)))) (pa_cons (pe_mkK0 T.m_Under F_Under_name_condition_at (hr.mono (by first | decide | omega)) rfl T.g_Under pass0 (pk_cons (pv 0) (pk_cons (pv 2) (pk_cons (pv 1) pk_nil)))) (pa_cons (pe_mkK0 T.m_Without F_Without_at_name (hr.mono (by first | decide | omega)) rfl T.g_Without pass0 (pk_cons (pv 1) (pk_cons (pv 0) pk_nil))) pa_nil))))) (pss_one (ps_ret (pe_op op_addA (pv 3) (pe_lst (pa_cons (pe_mkK0 T.m_Alone F_Alone_name (hr.mono (by first | decide | omega)) rfl T.g_Alone pass0 (pk_cons (pv 0) pk_nil)) (pa_cons (pe_mkK0 T.m_Waiting F_Waiting_age (hr.mono (by first | decide | omega)) rfl T.g_Waiting pass0 (pk_cons (pv 1) pk_nil)) (pa_cons (pe_mkK0 T.m_Naming F_Naming_names (hr.mono (by first | decide | omega)) rfl T.g_Naming pass0 (pk_cons (pv 2) pk_nil)) (pa_cons (pe_mkK0 T.m_Waiting F_Waiting_age (hr.mono (by first | decide | omega)) rfl T.g_Waiting pass0 (pk_cons (pv 0) pk_nil)) (pa_cons (pe_mkK0 T.m_Naming F_Naming_names (hr.mono (by first | decide | omega)) rfl T.g_Naming pass0 (pk_cons (pv 0) pk_nil)) pa_nil)))))))))), ?_⟩
    have g0 := Gr.refl [] H
    walk_at "rd"
    intro x1 dx h1 h2 ne
    refine ⟨rfl, rfl, rfl, made (word := "Insert") (ns := ["name", "at", "text"]) (ds := [d1, d2, d3]) (vals := [v1, v2, v3]) h1 h2 ne g0 T.f_Insert T.s_Insert (.cons D1 (.cons D2 (.cons D3 .nil))) (fun d hd => by simp only [List.mem_cons, List.not_mem_nil, or_false] at hd; rcases hd with rfl | rfl | rfl <;> assumption) rfl (by decide) ⟨by decide +kernel, by decide +kernel⟩ ?_⟩
    clear ne h1 h2 dx
    intro F1a H1a ga1 sa1 m1
    refine ⟨rfl, ?_⟩
    have t1 : NamedIn K cs care eqA reprA F1a (.ref x1) ⟨"Insert", ["name", "at", "text"], [v1, v2, v3], [d1, d2, d3]⟩ := ⟨_, rfl, m1⟩
    have g1 := ga1
    walk_at "rd"
    intro x2 dx h1 h2 ne
    refine ⟨rfl, rfl, rfl, made (word := "Under") (ns := ["name", "at", "condition"]) (ds := [d1, d2, d3]) (vals := [v1, v2, v3]) h1 h2 ne g1 T.f_Under T.s_Under (.cons D1 (.cons D2 (.cons D3 .nil))) (fun d hd => by simp only [List.mem_cons, List.not_mem_nil, or_false] at hd; rcases hd with rfl | rfl | rfl <;> assumption) rfl (by decide) ⟨by decide +kernel, by decide +kernel⟩ ?_⟩
    clear ne h1 h2 dx
    intro F2a H2a ga2 sa2 m2
    refine ⟨rfl, ?_⟩
    have t2 : NamedIn K cs care eqA reprA F2a (.ref x2) ⟨"Under", ["name", "at", "condition"], [v1, v2, v3], [d1, d2, d3]⟩ := ⟨_, rfl, m2⟩
    have g2 := ga2
    have t1 := t1.up sa2
    walk_at "rd"
    intro x3 dx h1 h2 ne
    refine ⟨rfl, rfl, rfl, made (word := "Without") (ns := ["name", "at"]) (ds := [d1, d2]) (vals := [v1, v2]) h1 h2 ne g2 T.f_Without T.s_Without (.cons D1 (.cons D2 .nil)) (fun d hd => by simp only [List.mem_cons, List.not_mem_nil, or_false] at hd; rcases hd with rfl | rfl <;> assumption) rfl (by decide) ⟨by decide +kernel, by decide +kernel⟩ ?_⟩
    clear ne h1 h2 dx
    intro F3a H3a ga3 sa3 m3
    refine ⟨rfl, ?_⟩
    have t3 : NamedIn K cs care eqA reprA F3a (.ref x3) ⟨"Without", ["name", "at"], [v1, v2], [d1, d2]⟩ := ⟨_, rfl, m3⟩
    have g3 := ga3
    have t1 := t1.up sa3
    have t2 := t2.up sa3
    walk_at "rd"
    intro La nl
    obtain ⟨F4, g4, s4, ea⟩ := kept g3 nl
    generalize upd _ La _ = H4 at g4 ⊢
    clear nl
    have t1 := t1.up s4
    have t2 := t2.up s4
    have t3 := t3.up s4
    walk_at "rd"
    walk_at "rd"
    intro x5 dx h1 h2 ne
    refine ⟨rfl, rfl, rfl, made (word := "Alone") (ns := ["name"]) (ds := [d1]) (vals := [v1]) h1 h2 ne g4 T.f_Alone T.s_Alone (.cons D1 .nil) (fun d hd => by simp only [List.mem_cons, List.not_mem_nil, or_false] at hd; rcases hd with rfl <;> assumption) rfl (by decide) ⟨by decide +kernel, by decide +kernel⟩ ?_⟩
    clear ne h1 h2 dx
    intro F5a H5a ga5 sa5 m5
    refine ⟨rfl, ?_⟩
    have t4 : NamedIn K cs care eqA reprA F5a (.ref x5) ⟨"Alone", ["name"], [v1], [d1]⟩ := ⟨_, rfl, m5⟩
    have g5 := ga5
    have t1 := t1.up sa5
    have t2 := t2.up sa5
    have t3 := t3.up sa5
    have ea := sa5 _ _ ea
    walk_at "rd"
    intro x6 dx h1 h2 ne
    refine ⟨rfl, rfl, rfl, made (word := "Waiting") (ns := ["age"]) (ds := [d2]) (vals := [v2]) h1 h2 ne g5 T.f_Waiting T.s_Waiting (.cons D2 .nil) (fun d hd => by simp only [List.mem_cons, List.not_mem_nil, or_false] at hd; rcases hd with rfl <;> assumption) rfl (by decide) ⟨by decide +kernel, by decide +kernel⟩ ?_⟩
    clear ne h1 h2 dx
    intro F6a H6a ga6 sa6 m6
    refine ⟨rfl, ?_⟩
    have t5 : NamedIn K cs care eqA reprA F6a (.ref x6) ⟨"Waiting", ["age"], [v2], [d2]⟩ := ⟨_, rfl, m6⟩
    have g6 := ga6
    have t1 := t1.up sa6
    have t2 := t2.up sa6
    have t3 := t3.up sa6
    have t4 := t4.up sa6
    have ea := sa6 _ _ ea
    walk_at "rd"
    intro x7 dx h1 h2 ne
    refine ⟨rfl, rfl, rfl, made (word := "Naming") (ns := ["names"]) (ds := [d3]) (vals := [v3]) h1 h2 ne g6 T.f_Naming T.s_Naming (.cons D3 .nil) (fun d hd => by simp only [List.mem_cons, List.not_mem_nil, or_false] at hd; rcases hd with rfl <;> assumption) rfl (by decide) ⟨by decide +kernel, by decide +kernel⟩ ?_⟩
    clear ne h1 h2 dx
    intro F7a H7a ga7 sa7 m7
    refine ⟨rfl, ?_⟩
    have t6 : NamedIn K cs care eqA reprA F7a (.ref x7) ⟨"Naming", ["names"], [v3], [d3]⟩ := ⟨_, rfl, m7⟩
    have g7 := ga7
    have t1 := t1.up sa7
    have t2 := t2.up sa7
    have t3 := t3.up sa7
    have t4 := t4.up sa7
    have t5 := t5.up sa7
    have ea := sa7 _ _ ea
    walk_at "rd"
    intro x8 dx h1 h2 ne
    refine ⟨rfl, rfl, rfl, made (word := "Waiting") (ns := ["age"]) (ds := [d1]) (vals := [v1]) h1 h2 ne g7 T.f_Waiting T.s_Waiting (.cons D1 .nil) (fun d hd => by simp only [List.mem_cons, List.not_mem_nil, or_false] at hd; rcases hd with rfl <;> assumption) rfl (by decide) ⟨by decide +kernel, by decide +kernel⟩ ?_⟩
    clear ne h1 h2 dx
    intro F8a H8a ga8 sa8 m8
    refine ⟨rfl, ?_⟩
    have t7 : NamedIn K cs care eqA reprA F8a (.ref x8) ⟨"Waiting", ["age"], [v1], [d1]⟩ := ⟨_, rfl, m8⟩
    have g8 := ga8
    have t1 := t1.up sa8
    have t2 := t2.up sa8
    have t3 := t3.up sa8
    have t4 := t4.up sa8
    have t5 := t5.up sa8
    have t6 := t6.up sa8
    have ea := sa8 _ _ ea
    walk_at "rd"
    intro x9 dx h1 h2 ne
    refine ⟨rfl, rfl, rfl, made (word := "Naming") (ns := ["names"]) (ds := [d1]) (vals := [v1]) h1 h2 ne g8 T.f_Naming T.s_Naming (.cons D1 .nil) (fun d hd => by simp only [List.mem_cons, List.not_mem_nil, or_false] at hd; rcases hd with rfl <;> assumption) rfl (by decide) ⟨by decide +kernel, by decide +kernel⟩ ?_⟩
    clear ne h1 h2 dx
    intro F9a H9a ga9 sa9 m9
    refine ⟨rfl, ?_⟩
    have t8 : NamedIn K cs care eqA reprA F9a (.ref x9) ⟨"Naming", ["names"], [v1], [d1]⟩ := ⟨_, rfl, m9⟩
    have g9 := ga9
    have t1 := t1.up sa9
    have t2 := t2.up sa9
    have t3 := t3.up sa9
    have t4 := t4.up sa9
    have t5 := t5.up sa9
    have t6 := t6.up sa9
    have t7 := t7.up sa9
    have ea := sa9 _ _ ea
    walk_at "rd"
    intro Lb nl
    obtain ⟨F10, g10, s10, eb⟩ := kept g9 nl
    generalize upd _ Lb _ = H10 at g10 ⊢
    clear nl
    have t1 := t1.up s10
    have t2 := t2.up s10
    have t3 := t3.up s10
    have t4 := t4.up s10
    have t5 := t5.up s10
    have t6 := t6.up s10
    have t7 := t7.up s10
    have t8 := t8.up s10
    have ea := s10 _ _ ea
    refine .inr (.inr (.inl ⟨La, Lb, _, _, rfl, rfl, g10.sb _ _ ea, g10.sb _ _ eb, (by simp only [List.length_append, List.length_cons, List.length_nil]; decide), ?_⟩))
    walk_at "rd"
    intro Lc nl
    obtain ⟨F11, g11, s11, ec⟩ := kept g10 nl
    generalize upd _ Lc _ = H11 at g11 ⊢
    clear nl
    have t1 := t1.up s11
    have t2 := t2.up s11
    have t3 := t3.up s11
    have t4 := t4.up s11
    have t5 := t5.up s11
    have t6 := t6.up s11
    have t7 := t7.up s11
    have t8 := t8.up s11
    have ea := s11 _ _ ea
    have eb := s11 _ _ eb
    exact k _ _ _ _ g11 ec (.cons t1 (.cons t2 (.cons t3 (.cons t4 (.cons t5 (.cons t6 (.cons t7 (.cons t8 .nil))))))))
  · obtain ⟨_, v1, v2, v3, d1, d2, d3, rfl, _⟩ := h
    rfl
end
end K77

namespace K77
open L2 PyProof.Rows PySem.Spec PySem Gd
local macro_rules | `(tactic| walk_at "rd0") => `(tactic| first
  | rfl
  | assumption
  | exact SqL.of (by assumption)
  | exact SqL.of upd_same
  | exact upd_same
  | exact SqT.of (by assumption)
  | exact SqT.of upd_same
  | decide
  | exact ⟨_, rfl⟩
  | exact ⟨by decide, by decide +kernel⟩
  | exact Or.inr ⟨by decide, by decide⟩
  | exact Or.inl ⟨_, by assumption, rfl⟩
  | exact Or.inl ⟨_, SqL.of (by assumption), rfl⟩
  | (simp only [List.length_cons, List.length_nil]; decide)
  | omega
  | decide +kernel
  | exact Or.inl ⟨by omega, by omega⟩)
local macro_rules | `(tactic| walk_at "rd1") => `(tactic| first
  | refine And.intro (by walk_at "rd0") ?_
  | apply Exists.intro
  | refine iteT ?_
  | (refine Or.inl ?_; apply Exists.intro; refine And.intro rfl ?_)
  | (refine Or.inr ?_; apply Exists.intro; refine And.intro rfl ?_)
  | (refine Or.inl ?_; apply Exists.intro; apply Exists.intro; refine And.intro rfl ?_; refine And.intro rfl ?_)
  | (refine Or.inr (Or.inl ?_); apply Exists.intro; apply Exists.intro; refine And.intro rfl ?_; refine And.intro rfl ?_))
local macro_rules | `(tactic| walk_at "rd") => `(tactic| repeat walk_at "rd1")
/-! ### the fields of a care -/
theorem eqv_str {a b : Str} : PyData.eqv (.str a) (.str b) = (a == b) := by simp [PyData.eqv]
theorem shaped_str {a : Str} (h : PyData.strOk a = true) : SeqAt.shaped (.str a) = true := by
  unfold SeqAt.shaped
  rw [Bool.and_eq_true]
  exact ⟨by simpa [PyData.canLay0] using h, by simp [PyData.depth]⟩
def kinds : List (Str × List Str) := [("Insert", ["name", "at", "text"]), ("Under", ["name", "at", "condition"]), ("Without", ["name", "at"]), ("Alone", ["name"]), ("Waiting", ["age"]), ("Naming", ["names"])]
def ones : List (Str × Str) := [("Alone", "name"), ("Waiting", "age"), ("Naming", "names")]
def spOnly (K : PySem.W.Frag) (cs : List Addr) (care eqA reprA : Addr) : SpA := fun vs zs H Q _ => zs = [] ∧ ∃ x w n d, vs = [.ref x, .str w] ∧ (w, n) ∈ ones ∧ MadeIn K cs care eqA reprA H x w [n] [d] ∧ ∀ v, Dp K H v d → Q v H
def spFields (K : PySem.W.Frag) (cs : List Addr) (care eqA reprA : Addr) : SpA := fun vs zs H Q _ => zs = [] ∧ ∃ x w ns ds, vs = [.ref x, .str w] ∧ (w, ns) ∈ kinds ∧ MadeIn K cs care eqA reprA H x w ns ds ∧
  ∀ L xs, H L = none → DpAll K H xs ds → Q (.ref L) (upd H L (.lst xs))
section
variable {P : Program} {w : World} {K : PySem.W.Frag} {mg : Str → Option Value} {base : Heap}
theorem sc__law_only : FnScope ["_law_care", "_law_word"] ["_law_care", "_law_word"] (defScope (top 17)) := ⟨rfl, rfl, rfl, by decide +kernel, rfl, by decide +kernel, by decide +kernel⟩
theorem ok_law_only {f care eqA reprA : Addr} {cs : List Addr} {fd : FuncData} (F : FnD K "_law_only" ((top 17)) f fd) : FnA P w K mg base CX0 1 f [] (spOnly K cs care eqA reprA) := by
  refine (okB (sp := fun vs H Q E => spOnly K cs care eqA reprA vs [] H Q E) F sc__law_only fun cdv A outer s H vs Q E hr h => ?_).pos (FunD.bindsN F fun _ _ _ _ _ _ us hl => match us, hl with | [_, _], _ => rfl) (fun vs H Q E h => ?_) |>.imp fun vs zs H Q E h => ⟨h.1, h.1 ▸ h⟩
  · obtain ⟨_, x, wd, n, d, rfl, hk, m, k⟩ := h
    refine ⟨_, (pss_cons (ps_if (pt_cmpR (op_eqD hr.r.units) (pv 1) pe_str (nomark _)) (pss_one (ps_ret (pe_fld (pv 0) rfl))) pss_nil) (pss_one (ps_ret (pe_ifExp (pt_cmpR (op_eqD hr.r.units) (pv 1) pe_str (nomark _)) (pe_fld (pv 0) rfl) (pe_fld (pv 0) rfl))))), ?_⟩
    obtain ⟨C, initA, dx, t, xs, h1, h2, h3, h4, h5⟩ := m.ex
    have hl := dpAll_len h5
    obtain ⟨y, rfl⟩ := list1 hl
    have hy : Dp K H y d := by cases h5 with | cons a _ => exact a
    have e0 : ∀ u : Str, PyData.strOk u = true → ∀ v : Str, (∃ d e, Dp K H (.str wd) d ∧ Dp K H (.str u) e ∧ SeqAt.shaped d = true ∧ SeqAt.shaped e = true ∧ (d = .str wd ∧ e = .str u)) := fun u hu _ => ⟨.str wd, .str u, .str _, .str _, shaped_str m.wd.1, shaped_str hu, rfl, rfl⟩
    refine ⟨_, rfl, .str wd, .str "Alone", .str _, .str _, shaped_str m.wd.1, shaped_str (by decide +kernel), _, rfl, ?_⟩
    rw [eqv_str]
    simp only [ones, List.mem_cons, List.not_mem_nil, or_false, Prod.mk.injEq] at hk
    rcases hk with ⟨rfl, rfl⟩ | ⟨rfl, rfl⟩ | ⟨rfl, rfl⟩
    · rw [show (("Alone" : Str) == "Alone") = true by decide +kernel]
      refine iteT ?_
      exact ⟨_, rfl, x, C, dx, _, _, rfl, h3, h2.cl, h2.na _ (by decide +kernel), lk_tl (by decide +kernel) lk_hd, k y hy⟩
    · rw [show (("Waiting" : Str) == "Alone") = false by decide +kernel]
      refine iteF ?_
      refine ⟨_, rfl, .str "Waiting", .str "Waiting", .str _, .str _, shaped_str m.wd.1, shaped_str (by decide +kernel), _, rfl, ?_⟩
      rw [eqv_str, show (("Waiting" : Str) == "Waiting") = true by decide +kernel]
      refine iteT ?_
      exact ⟨_, rfl, x, C, dx, _, _, rfl, h3, h2.cl, h2.na _ (by decide +kernel), lk_tl (by decide +kernel) lk_hd, k y hy⟩
    · rw [show (("Naming" : Str) == "Alone") = false by decide +kernel]
      refine iteF ?_
      refine ⟨_, rfl, .str "Naming", .str "Waiting", .str _, .str _, shaped_str m.wd.1, shaped_str (by decide +kernel), _, rfl, ?_⟩
      rw [eqv_str, show (("Naming" : Str) == "Waiting") = false by decide +kernel]
      refine iteF ?_
      exact ⟨_, rfl, x, C, dx, _, _, rfl, h3, h2.cl, h2.na _ (by decide +kernel), lk_tl (by decide +kernel) lk_hd, k y hy⟩
  · obtain ⟨_, x, wd, n, d, rfl, _⟩ := h
    rfl
structure Tf (mg : Str → Option Value) (K : PySem.W.Frag) (only : Addr) : Prop where
  g__law_only : mg "_law_only" = some (.ref only)
  k__law_only : PySem.W.keepIn K (.ref only) = true
theorem sc__law_fields : FnScope ["_law_care", "_law_word"] ["_law_care", "_law_word"] (defScope (top 16)) := ⟨rfl, rfl, rfl, by decide +kernel, rfl, by decide +kernel, by decide +kernel⟩
theorem ok_law_fields {f care eqA reprA only : Addr} {cs : List Addr} {fd : FuncData} (F : FnD K "_law_fields" ((top 16)) f fd) (T : Tf mg K only) (F__law_only : FnA P w K mg base CX0 1 only [] (spOnly K cs care eqA reprA)) :
    FnA P w K mg base CX0 2 f [] (spFields K cs care eqA reprA) := by
  refine (okB (sp := fun vs H Q E => spFields K cs care eqA reprA vs [] H Q E) F sc__law_fields fun cdv A outer s H vs Q E hr h => ?_).pos (FunD.bindsN F fun _ _ _ _ _ _ us hl => match us, hl with | [_, _], _ => rfl) (fun vs H Q E h => ?_) |>.imp fun vs zs H Q E h => ⟨h.1, h.1 ▸ h⟩
  · obtain ⟨_, x, wd, ns, ds, rfl, hk, m, k⟩ := h
    refine ⟨_, (pss_cons (ps_if (pt_cmpR (op_eqD hr.r.units) (pv 1) pe_str (nomark _)) (pss_one (ps_ret (pe_lst (pa_cons (pe_fld (pv 0) rfl) (pa_cons (pe_fld (pv 0) rfl) (pa_cons (pe_fld (pv 0) rfl) pa_nil)))))) pss_nil) (pss_cons (ps_if (pt_cmpR (op_eqD hr.r.units) (pv 1) pe_str (nomark _)) (pss_one (ps_ret (pe_lst (pa_cons (pe_fld (pv 0) rfl) (pa_cons (pe_fld (pv 0) rfl) (pa_cons (pe_fld (pv 0) rfl) pa_nil)))))) pss_nil) (pss_cons (ps_if (pt_cmpR (op_eqD hr.r.units) (pv 1) pe_str (nomark _)) (pss_one (ps_ret (pe_lst (pa_cons (pe_fld (pv 0) rfl) (pa_cons (pe_fld (pv 0) rfl) pa_nil))))) pss_nil) (pss_one (ps_ret (pe_lst (pa_cons (pe_cl F__law_only (hr.mono (by first | decide | omega)) rfl T.g__law_only T.k__law_only pass0 (pa_cons (pv 0) (pa_cons (pv 1) pa_nil))) pa_nil))))))), ?_⟩
    obtain ⟨C, initA, dx, t, xs, h1, h2, h3, h4, h5⟩ := m.ex
    have hl := dpAll_len h5
    have hln := m.ln
    have word : ∀ {u : Str} {Q : Bool → Prop}, PyData.strOk u = true → Q (wd == u) → ∃ d e, Dp K H (.str wd) d ∧ Dp K H (.str u) e ∧ SeqAt.shaped d = true ∧ SeqAt.shaped e = true ∧ ∃ c, V.bl (PyData.eqv d e) = V.bl c ∧ Q c :=
      fun {u Q} hu q => ⟨.str wd, .str u, .str _, .str _, shaped_str m.wd.1, shaped_str hu, _, rfl, by rw [eqv_str]; exact q⟩
    have fld : ∀ {f : Str} {fs : List (Str × V)} {v : V} {Q : V → Prop}, H x = some (.ins C dx fs) → f ∈ attrs → fs.lookup f = some v → Q v → ∃ a C dx fs v, V.ref x = .ref a ∧ H a = some (.ins C dx fs) ∧ Cls K C ∧ NoAttr K C f ∧ fs.lookup f = some v ∧ Q v :=
      fun e hf l q => ⟨x, C, dx, _, _, rfl, e, h2.cl, h2.na _ hf, l, q⟩
    refine ⟨_, rfl, word (by decide +kernel) ?_⟩
    simp only [kinds, List.mem_cons, List.not_mem_nil, or_false, Prod.mk.injEq] at hk
    rcases hk with ⟨rfl, rfl⟩ | ⟨rfl, rfl⟩ | ⟨rfl, rfl⟩ | ⟨rfl, rfl⟩ | ⟨rfl, rfl⟩ | ⟨rfl, rfl⟩
    · rw [show (("Insert" : Str) == "Insert") = true by decide +kernel]
      refine iteT ?_
      obtain ⟨y1, y2, y3, rfl⟩ := list3 (hl.trans hln.symm)
      refine ⟨_, rfl, fld h3 (by decide +kernel) (lk_tl (by decide +kernel) lk_hd) ⟨_, rfl, fld h3 (by decide +kernel) (lk_tl (by decide +kernel) (lk_tl (by decide +kernel) lk_hd)) ⟨_, rfl, fld h3 (by decide +kernel) (lk_tl (by decide +kernel) (lk_tl (by decide +kernel) (lk_tl (by decide +kernel) lk_hd))) ?_⟩⟩⟩
      exact ⟨by simp only [List.length_cons, List.length_nil]; decide, fun L nL => k L _ nL h5⟩
    · rw [show (("Under" : Str) == "Insert") = false by decide +kernel]
      refine iteF ?_
      refine ⟨_, rfl, word (by decide +kernel) ?_⟩
      rw [show (("Under" : Str) == "Under") = true by decide +kernel]
      refine iteT ?_
      obtain ⟨y1, y2, y3, rfl⟩ := list3 (hl.trans hln.symm)
      refine ⟨_, rfl, fld h3 (by decide +kernel) (lk_tl (by decide +kernel) lk_hd) ⟨_, rfl, fld h3 (by decide +kernel) (lk_tl (by decide +kernel) (lk_tl (by decide +kernel) lk_hd)) ⟨_, rfl, fld h3 (by decide +kernel) (lk_tl (by decide +kernel) (lk_tl (by decide +kernel) (lk_tl (by decide +kernel) lk_hd))) ?_⟩⟩⟩
      exact ⟨by simp only [List.length_cons, List.length_nil]; decide, fun L nL => k L _ nL h5⟩
    · rw [show (("Without" : Str) == "Insert") = false by decide +kernel]
      refine iteF ⟨_, rfl, word (by decide +kernel) ?_⟩
      rw [show (("Without" : Str) == "Under") = false by decide +kernel]
      refine iteF ⟨_, rfl, word (by decide +kernel) ?_⟩
      rw [show (("Without" : Str) == "Without") = true by decide +kernel]
      refine iteT ?_
      obtain ⟨y1, y2, rfl⟩ := list2 (hl.trans hln.symm)
      refine ⟨_, rfl, fld h3 (by decide +kernel) (lk_tl (by decide +kernel) lk_hd) ⟨_, rfl, fld h3 (by decide +kernel) (lk_tl (by decide +kernel) (lk_tl (by decide +kernel) lk_hd)) ?_⟩⟩
      exact ⟨by simp only [List.length_cons, List.length_nil]; decide, fun L nL => k L _ nL h5⟩
    all_goals
      first
      | rw [show (("Alone" : Str) == "Insert") = false by decide +kernel]
      | rw [show (("Waiting" : Str) == "Insert") = false by decide +kernel]
      | rw [show (("Naming" : Str) == "Insert") = false by decide +kernel]
      refine iteF ⟨_, rfl, word (by decide +kernel) ?_⟩
      first
      | rw [show (("Alone" : Str) == "Under") = false by decide +kernel]
      | rw [show (("Waiting" : Str) == "Under") = false by decide +kernel]
      | rw [show (("Naming" : Str) == "Under") = false by decide +kernel]
      refine iteF ⟨_, rfl, word (by decide +kernel) ?_⟩
      first
      | rw [show (("Alone" : Str) == "Without") = false by decide +kernel]
      | rw [show (("Waiting" : Str) == "Without") = false by decide +kernel]
      | rw [show (("Naming" : Str) == "Without") = false by decide +kernel]
      refine iteF ?_
      obtain ⟨d, rfl⟩ := list1 hln.symm
      refine ⟨_, rfl, _, rfl, rfl, x, _, _, d, rfl, by decide +kernel, m, fun v hv => ?_⟩
      exact ⟨by simp only [List.length_cons, List.length_nil]; decide, fun L nL => k L _ nL (.cons hv .nil)⟩
  · obtain ⟨_, x, wd, n, d, rfl, _⟩ := h
    rfl
end
end K77

namespace K77
open L2 PyProof.Rows PySem.Spec PySem Gd
local macro_rules | `(tactic| walk_at "rd0") => `(tactic| first
  | rfl
  | assumption
  | exact SqL.of (by assumption)
  | exact SqL.of upd_same
  | exact upd_same
  | exact SqT.of (by assumption)
  | exact SqT.of upd_same
  | decide
  | exact ⟨_, rfl⟩
  | exact ⟨by decide, by decide +kernel⟩
  | exact Or.inr ⟨by decide, by decide⟩
  | exact Or.inl ⟨_, by assumption, rfl⟩
  | exact Or.inl ⟨_, SqL.of (by assumption), rfl⟩
  | (simp only [List.length_cons, List.length_nil]; decide)
  | omega
  | decide +kernel
  | exact Or.inl ⟨by omega, by omega⟩)
local macro_rules | `(tactic| walk_at "rd1") => `(tactic| first
  | refine And.intro (by walk_at "rd0") ?_
  | apply Exists.intro
  | refine iteT ?_
  | (refine Or.inl ?_; apply Exists.intro; refine And.intro rfl ?_)
  | (refine Or.inr ?_; apply Exists.intro; refine And.intro rfl ?_)
  | (refine Or.inl ?_; apply Exists.intro; apply Exists.intro; refine And.intro rfl ?_; refine And.intro rfl ?_)
  | (refine Or.inr (Or.inl ?_); apply Exists.intro; apply Exists.intro; refine And.intro rfl ?_; refine And.intro rfl ?_))
local macro_rules | `(tactic| walk_at "rd") => `(tactic| repeat walk_at "rd1")
/-! ### _law_right -/
structure Tr (mg : Str → Option Value) (K : PySem.W.Frag) (cs : List Addr) (care all named fields : Addr) : Prop where
  g__law_all : mg "_law_all" = some (.ref all)
  k__law_all : PySem.W.keepIn K (.ref all) = true
  g__law_named : mg "_law_named" = some (.ref named)
  k__law_named : PySem.W.keepIn K (.ref named) = true
  g__law_fields : mg "_law_fields" = some (.ref fields)
  k__law_fields : PySem.W.keepIn K (.ref fields) = true
  g_Care : mg "Care" = some (.ref care)
  b_zip : mg "zip" = none
  b_repr : mg "repr" = none
  b_isinstance : mg "isinstance" = none
  b_bool : mg "bool" = none
  E : Te mg K cs care
theorem list11 {α : Type} {l : List α} (h : l.length = 11) : ∃ a b c d e f g i j k m, l = [a, b, c, d, e, f, g, i, j, k, m] := match l, h with
  | [a, b, c, d, e, f, g, i, j, k, m], _ => ⟨a, b, c, d, e, f, g, i, j, k, m, rfl⟩
theorem paired_at {α β : Type} {R : α → β → Prop} : ∀ {xs : List α} {ys : List β} {i : Nat} {x : α}, Paired R xs ys → xs[i]? = some x → ∃ y, y ∈ ys ∧ R x y
  | _, _, _, _, .nil, e => by simp at e
  | _, _, 0, _, .cons a _, e => by
    simp at e
    subst e
    exact ⟨_, List.mem_cons_self, a⟩
  | _, _, i + 1, _, .cons _ t, e => by
    obtain ⟨y, h1, h2⟩ := paired_at (i := i) t (by simpa using e)
    exact ⟨y, List.mem_cons_of_mem _ h1, h2⟩
theorem paired_two {α β γ : Type} {R : α → γ → Prop} {S : β → γ → Prop} : ∀ {xs : List α} {ys : List β} {zs : List γ} {i : Nat} {x : α} {y : β}, Paired R xs zs → Paired S ys zs → xs[i]? = some x → ys[i]? = some y → ∃ z, z ∈ zs ∧ R x z ∧ S y z
  | _, _, _, _, _, _, .nil, _, e, _ => by simp at e
  | _, _, _, 0, _, _, .cons a _, .cons b _, e, e' => by
    simp at e e'
    subst e e'
    exact ⟨_, List.mem_cons_self, a, b⟩
  | _, _, _, i + 1, _, _, .cons _ t, .cons _ u, e, e' => by
    obtain ⟨y, h1, h2⟩ := paired_two (i := i) t u (by simpa using e) (by simpa using e')
    exact ⟨y, List.mem_cons_of_mem _ h1, h2⟩
theorem rows_ok {K : PySem.W.Frag} {H : Hp} {v1 v2 v3 : V} {d1 d2 d3 : PyData} (D1 : Dp K H v1 d1) (D2 : Dp K H v2 d2) (D3 : Dp K H v3 d3) : ∀ r ∈ rows v1 v2 v3 d1 d2 d3, (r.w, r.ns) ∈ kinds ∧ DpAll K H r.vs r.ds := by
  intro r hr
  simp only [rows, List.mem_cons, List.not_mem_nil, or_false] at hr
  rcases hr with rfl | rfl | rfl | rfl | rfl | rfl | rfl | rfl
  · exact ⟨(by decide +kernel : (("Insert" : Str), (["name", "at", "text"] : List Str)) ∈ kinds), .cons D1 (.cons D2 (.cons D3 .nil))⟩
  · exact ⟨(by decide +kernel : (("Under" : Str), (["name", "at", "condition"] : List Str)) ∈ kinds), .cons D1 (.cons D2 (.cons D3 .nil))⟩
  · exact ⟨(by decide +kernel : (("Without" : Str), (["name", "at"] : List Str)) ∈ kinds), .cons D1 (.cons D2 .nil)⟩
  · exact ⟨(by decide +kernel : (("Alone" : Str), (["name"] : List Str)) ∈ kinds), .cons D1 .nil⟩
  · exact ⟨(by decide +kernel : (("Waiting" : Str), (["age"] : List Str)) ∈ kinds), .cons D2 .nil⟩
  · exact ⟨(by decide +kernel : (("Naming" : Str), (["names"] : List Str)) ∈ kinds), .cons D3 .nil⟩
  · exact ⟨(by decide +kernel : (("Waiting" : Str), (["age"] : List Str)) ∈ kinds), .cons D1 .nil⟩
  · exact ⟨(by decide +kernel : (("Naming" : Str), (["names"] : List Str)) ∈ kinds), .cons D1 .nil⟩
theorem sameCare_comm (a b : Str) (x y : List PyData) : sameCare a b x y = sameCare b a y x := by
  unfold sameCare
  rw [PySem.W.eqv_comm, show (a == b) = (b == a) from Bool.beq_comm]
theorem list6 {α : Type} {l : List α} (h : l.length = 6) : ∃ a b c d e f, l = [a, b, c, d, e, f] := match l, h with
  | [a, b, c, d, e, f], _ => ⟨a, b, c, d, e, f, rfl⟩
def spRight (K : PySem.W.Frag) : SpA := fun vs zs H Q _ => zs = [] ∧ ∃ v1 v2 v3 d1 d2 d3, vs = [v1, v2, v3] ∧ Dp K H v1 d1 ∧ Dp K H v2 d2 ∧ Dp K H v3 d3 ∧ Okd 8 40000 d1 ∧ Okd 8 40000 d2 ∧ Okd 8 40000 d3 ∧
  ∀ H', Gr [] H emp H' → Q (.bl true) H'
section
variable {P : Program} {w : World} {K : PySem.W.Frag} {mg : Str → Option Value} {base : Heap}
theorem sc__law_right : FnScope ["_law_one", "_law_other", "_law_third", "_law_made", "_law_twin", "_law_due", "_law_care", "_law_word", "_law_fields_here", "_law_peer", "_law_peer_word", "_law_peer_fields", "_law_is_same", "_law_told", "_law_field"] ["_law_one", "_law_other", "_law_third"] (defScope (top 18)) := ⟨rfl, rfl, rfl, by decide +kernel, rfl, by decide +kernel, by decide +kernel⟩
theorem ok_law_right {f care eqA reprA all named fields : Addr} {cs : List Addr} {fd : FuncData} (F : FnD K "_law_right" ((top 18)) f fd) (T : Tr mg K cs care all named fields)
    (F__law_all : FnA P w K mg base CX0 13 all [] (spThree K (fun F => Paired (TripIn K cs care eqA reprA F)))) (F__law_named : FnA P w K mg base CX0 13 named [] (spThree K (fun F => Paired (NamedIn K cs care eqA reprA F))))
    (F__law_fields : FnA P w K mg base CX0 2 fields [] (spFields K cs care eqA reprA)) (F_eq : FnA P w K mg base CX0 1 eqA [] (spEq K cs care eqA reprA)) (F_repr : FnA P w K mg base CX0 1 reprA [] (spRepr K cs care eqA reprA)) :
    FnA P w K mg base CX0 14 f [] (spRight K) := by
  refine (okB (sp := fun vs H Q E => spRight K vs [] H Q E) F sc__law_right fun cdv A outer s H vs Q E hr h => ?_).pos (FunD.bindsN F fun _ _ _ _ _ _ us hl => match us, hl with | [_, _, _], _ => rfl) (fun vs H Q E h => ?_) |>.imp fun vs zs H Q E h => ⟨h.1, h.1 ▸ h⟩
  · obtain ⟨_, v1, v2, v3, d1, d2, d3, rfl, D1, D2, D3, o1, o2, o3, k⟩ := h
    refine ⟨_, (pss_cons (ps_set (i := 3) sc__law_right.nd rfl (Or.inl rfl) (pe_cl F__law_all (hr.mono (by first | decide | omega)) rfl T.g__law_all T.k__law_all pass0 (pa_cons (pv 0) (pa_cons (pv 1) (pa_cons (pv 2) pa_nil))))) (pss_cons (ps_for (by first | exact PassesOwn.leaving | exact PassesOwn.never) rfl (pi_zip (by rfl) T.b_zip (pa_cons (pv 3) (pa_cons (pe_cl F__law_named (hr.mono (by first | decide | omega)) rfl T.g__law_named T.k__law_named pass0 (pa_cons (pv 0) (pa_cons (pv 1) (pa_cons (pv 2) pa_nil)))) pa_nil))) (pg_tup rfl (pgs_cons (pg_tup rfl (pgs_cons (pg_name (i := 6) sc__law_right.nd rfl (Or.inl rfl)) (pgs_cons (pg_name (i := 7) sc__law_right.nd rfl (Or.inl rfl)) (pgs_cons (pg_name (i := 8) sc__law_right.nd rfl (Or.inl rfl)) pgs_nil)))) (pgs_cons (pg_name (i := 4) sc__law_right.nd rfl (Or.inl rfl)) pgs_nil))) (pss_cons (ps_if (PW.pt (pw_or (pt_not (pt_val (pe_callB call_isi (by rfl) T.b_isinstance (by decide +kernel) (pa_cons (pv 6) (pa_cons (pe_glob (v := .ref _) (by rfl) T.g_Care rfl) pa_nil))))) (pw_or (pt_cmpR op_ne (pe_repr K hr (by rfl) T.b_repr (pa_cons (pe_cl F__law_fields (hr.mono (by first | decide | omega)) rfl T.g__law_fields T.k__law_fields pass0 (pa_cons (pv 6) (pa_cons (pv 7) pa_nil))) pa_nil)) (pe_repr K hr (by rfl) T.b_repr (pa_cons (pv 8) pa_nil)) (nomark _)) (pw_or1 (pt_not (pt_val (pe_callB call_isi (by rfl) T.b_isinstance (by decide +kernel) (pa_cons (pv 4) (pa_cons (pe_glob (v := .ref _) (by rfl) T.g_Care rfl) pa_nil))))))))) (pss_one (ps_ret pe_bl)) pss_nil) (pss_cons (ps_set (i := 5) sc__law_right.nd rfl (Or.inl rfl) (pe_op op_addA (pe_op op_addA (pe_op op_addA (pv 7) pe_str) (pe_join pe_str (pe_lc (own := [("_law_field", 14)]) rfl sc__law_right.nd (pi_list (pv 8)) (blkOk_by (N := ["_law_one", "_law_other", "_law_third", "_law_made", "_law_twin", "_law_due", "_law_care", "_law_word", "_law_fields_here", "_law_peer", "_law_peer_word", "_law_peer_fields", "_law_is_same", "_law_told", "_law_field"]) (sc := defScope (top 18)) (by decide +kernel)) (fun _ _ _ _ _ => (pg_name (i := 14) sc__law_right.nd rfl (Or.inl rfl))) (fun _ _ _ _ _ => pts_nil) (fun _ _ _ _ _ => (pe_repr K hr (by rfl) T.b_repr (pa_cons (pv 14) pa_nil)))))) pe_str)) (pss_cons (ps_if (PW.pt (pw_or (pt_cmpR op_ne ((pe_reprOwn K F_repr (hr.mono (by first | decide | omega)) pass0) (by rfl) T.b_repr (pa_cons (pv 6) pa_nil)) (pv 5) (nomark _)) (pw_or (pt_cmpR op_ne ((pe_reprOwn K F_repr (hr.mono (by first | decide | omega)) pass0) (by rfl) T.b_repr (pa_cons (pv 4) pa_nil)) (pv 5) (nomark _)) (pw_or (pt_cmpR op_notBl (pe_cmpR (op_cmpOwn (op := .Eq) (fun _ _ => rfl) F_eq (hr.mono (by first | decide | omega)) pass0) (pv 6) (pv 5) (nomark _)) pe_bl (nomark _)) (pw_or1 (pt_cmpR op_notBl (pe_cmpR (op_cmpOwn (op := .Eq) (fun _ _ => rfl) F_eq (hr.mono (by first | decide | omega)) pass0) (pv 6) (pv 8) (nomark _)) pe_bl (nomark _))))))) (pss_one (ps_ret pe_bl)) pss_nil) (pss_one (ps_for (by first | exact PassesOwn.leaving | exact PassesOwn.never) rfl (pi_list (pv 3)) (pg_tup rfl (pgs_cons (pg_name (i := 9) sc__law_right.nd rfl (Or.inl rfl)) (pgs_cons (pg_name (i := 10) sc__law_right.nd rfl (Or.inl rfl)) (pgs_cons (pg_name (i := 11) sc__law_right.nd rfl (Or.inl rfl)) pgs_nil)))) (pss_cons (ps_set (i := 12) sc__law_right.nd rfl (Or.inl rfl) (pe_andC (pe_cmpR op_eq (pv 7) (pv 10) (nomark _)) (pe_one (pe_cmpR (op_eqD hr.r.units) (pv 8) (pv 11) (nomark _))))) (pss_one (ps_for (by first | exact PassesOwn.leaving | exact PassesOwn.never) rfl (pi_list (pe_lst (pa_cons (pe_cmpR (op_cmpOwn (op := .Eq) (fun _ _ => rfl) F_eq (hr.mono (by first | decide | omega)) pass0) (pv 6) (pv 9) (nomark _)) (pa_cons (pe_cmpR (op_cmpOwn (op := .Eq) (fun _ _ => rfl) F_eq (hr.mono (by first | decide | omega)) pass0) (pv 4) (pv 9) (nomark _)) (pa_cons (pe_cmpR (op_cmpOwn (op := .Eq) (fun _ _ => rfl) F_eq (hr.mono (by first | decide | omega)) pass0) (pv 9) (pv 4) (nomark _)) pa_nil))))) (pg_name (i := 13) sc__law_right.nd rfl (Or.inl rfl)) (pss_one (ps_if (PW.pt (pw_or (pt_not (pt_val (pe_callB call_isi (by rfl) T.b_isinstance (by decide +kernel) (pa_cons (pv 13) (pa_cons (pe_bltn (v := .ty "bool") (by rfl) T.b_bool (by decide +kernel) rfl) pa_nil))))) (pw_or1 (pt_cmpR op_ne (pv 13) (pv 12) (nomark _))))) (pss_one (ps_ret pe_bl)) pss_nil))))))))))) (pss_one (ps_ret pe_bl)))), ?_⟩
    walk_at "rd"
    intro L1 xs1 F1 H1 g1 e1 p1
    have D1' := dp_up g1.same _ D1
    have D2' := dp_up g1.same _ D2
    have D3' := dp_up g1.same _ D3
    walk_at "rd"
    intro L2 xs2 F2 H2 g2 e2 p2
    have g := g1.call0 g2
    have s1 := un_left F1 F2
    have s2 := g1.un_r g2
    have e1 := s1 _ _ e1
    have e2 := s2 _ _ e2
    have p1 := p1.mono fun a b h => h.up s1
    have p2 := p2.mono fun a b h => h.up s2
    generalize un F1 F2 = F at g e1 e2 p1 p2
    have e1' := e1
    clear s1 s2 g1 g2 D1' D2' D3'
    refine ⟨L1, L2, xs1, xs2, rfl, SqL.of (g.sb _ _ e1), SqL.of (g.sb _ _ e2), ?_⟩
    refine RZ.for_zipL (K := K) (p1.length.trans p2.length.symm) (fun i σ H' => Gr [] H F H' ∧ ∃ rest, σ = some v1 :: some v2 :: some v3 :: some (.ref L1) :: rest ∧ rest.length = 11) ?_ ?_ ?_ ?_
    · exact ⟨g, _, rfl, rfl⟩
    · rintro i σ H' ⟨g', _⟩
      exact ⟨SqL.of (g'.sb _ _ e1), SqL.of (g'.sb _ _ e2)⟩
    · rintro i x y T0 σ H3 hx hy ⟨g3, rest, rfl, hrest⟩ nT
      obtain ⟨a4, a5, a6, a7, a8, a9, a10, a11, a12, a13, a14, rfl⟩ := list11 hrest
      obtain ⟨r, hr1, ⟨p, cx, fl, rfl, t1, t2, m1⟩, ⟨tw, rfl, m2⟩⟩ := paired_two p1 p2 hx hy
      obtain ⟨hk, hD⟩ := rows_ok D1 D2 D3 r hr1
      have g4 := g3.tmp (o := .tup [.ref p, .ref tw]) nT
      have eT : upd H3 T0 (.tup [.ref p, .ref tw]) T0 = some (.tup [.ref p, .ref tw]) := upd_same
      generalize upd H3 T0 (.tup [.ref p, .ref tw]) = H4 at g4 eT ⊢
      obtain ⟨C1, i1, x1, u1, ys1, c1, k1, q1, _⟩ := id m1.ex
      obtain ⟨C2, i2, x2, u2, ys2, c2, k2, q2, _⟩ := id m2.ex
      refine ⟨T0, _, rfl, SqT.of eT, rfl, _, _, rfl, p, _, rfl, SqT.of (g4.sb _ _ t1), rfl, ?_⟩
      walk_at "rd"
      refine ⟨.own _, k1.ty (g4.sb _ _ q1), k1.kit, _, rfl, iteF ?_⟩
      walk_at "rd"
      refine ⟨m1.up g4.sb, fun L xs nL hL => ?_⟩
      have g5 := g4.tmp (o := .lst xs) nL
      have eL : upd H4 L (.lst xs) L = some (.lst xs) := upd_same
      have hL' : DpAll K (upd H4 L (.lst xs)) xs r.ds := dpAll_up (same_upd nL) _ hL
      generalize upd H4 L (.lst xs) = H5 at g5 eL hL' ⊢
      have okl : Okd 9 120003 (.list r.ds) := Okd.list m1.ok m1.l3
      refine ⟨.ref L, .list r.ds, rfl, .lst (SqL.of eL) hL', okl.sh, okl.noDict, Nat.le_trans okl.dp (by decide), okl.shown_fits (by decide), ?_⟩
      refine ⟨_, rfl, .ref fl, .list r.ds, rfl, .lst (SqL.of (g5.sb _ _ t2)) (dpAll_up g5.same _ hD), okl.sh, okl.noDict, Nat.le_trans okl.dp (by decide), okl.shown_fits (by decide), ?_⟩
      refine ⟨rfl, _, rfl, ?_⟩
      rw [ne_same]
      refine iteF ?_
      walk_at "rd"
      refine ⟨.own _, k2.ty (g5.sb _ _ q2), k2.kit, _, rfl, iteF ?_⟩
      have w7 := m1.wd.2
      have n3 := m1.l3
      have o1 : ("(" : Str).length = 1 := by decide +kernel
      have o2 : (")" : Str).length = 1 := by decide +kernel
      have hc : (", " : Str).length = 2 := by decide +kernel
      refine ⟨_, rfl, .inr (.inl ⟨_, _, rfl, rfl, by rw [o1, sizeLine_eq]; omega, ?_⟩)⟩
      refine ⟨⟨_, rfl⟩, _, rfl, fl, rfl, ⟨_, SqL.of (g5.sb _ _ t2)⟩, fun D hD' => ?_⟩
      refine lc_list (K := K) (a := fl) (xs := r.vs) (fun i H1 => H1 D = some (.lst (((r.ds.take i).map PyData.shown).map V.str)) ∧ Gr [] H F H1) ?_ ?_ ?_ ?_
      · exact ⟨upd_same, g5.tmp hD'⟩
      · rintro i H1 _ ⟨_, g6⟩
        exact SqL.of (g6.sb _ _ t2)
      · rintro i x H1 hx' ⟨e1, g6⟩
        obtain ⟨dx', n1, n2, n3'⟩ := dpAll_at hD hx'
        have ok := m1.ok dx' n1
        have hi := (List.getElem?_eq_some_iff.mp n2).1
        refine And.intro rfl ?_
        refine ⟨_, rfl, x, dx', rfl, dp_up g6.same _ n3', ok.sh, ok.noDict, Nat.le_trans ok.dp (by decide), ok.shown_fits (by decide), ?_⟩
        refine ⟨_, e1, by rw [List.length_map, List.length_map, List.length_take, sizeLine_eq]; omega, ?_, ?_⟩
        · rw [upd_same, List.take_add_one, n2, List.map_append, List.map_append]
          rfl
        · exact g6.chg (g5.fresh hD').1 (.inr (g5.ex _ hD'))
      · rintro H6 ⟨e1, g6⟩
        rw [dpAll_len hD, List.take_length] at e1
        have hB : ∀ y ∈ r.ds.map PyData.shown, y.length ≤ 4480110 := fun y hy => by
          obtain ⟨d, hd, e⟩ := List.mem_map.mp hy
          rw [← e]
          exact (m1.ok d hd).shown_le
        have hS := lens_sum hB
        have hj := StrLaws.join_length_le (", " : Str) (r.ds.map PyData.shown)
        rw [List.length_map] at hS
        rw [List.length_map, hc] at hj
        refine ⟨", ", D, r.ds.map PyData.shown, rfl, rfl, .inl (SqL.of e1), by rw [List.length_map, hc]; omega, ?_⟩
        rw [← txt_join] at hj
        refine .inr (.inl ⟨_, _, rfl, rfl, by rw [Str.length_append, o1, sizeLine_eq]; omega, ?_⟩)
        refine .inr (.inl ⟨_, _, rfl, rfl, by rw [Str.length_append, Str.length_append, o1, o2, sizeLine_eq]; omega, ?_⟩)
        have hdue : ((r.w ++ "(") ++ Txt.join ", " (r.ds.map PyData.shown)) ++ ")" = shownCare r.w r.ds := rfl
        rw [hdue]
        generalize hdw : shownCare r.w r.ds = due
        refine ⟨_, rfl, cx, C1, x1, _, rfl, g6.sb _ _ q1, k1.rp, rfl, cx, r.w, r.ns, r.ds, rfl, m1.up g6.sb, fun H7 g' => ⟨_, rfl, ?_⟩⟩
        have g7 := g6.still g'
        refine ⟨_, rfl, rfl, _, rfl, ?_⟩
        rw [hdw, ne_same]
        refine iteF ?_
        refine ⟨_, rfl, tw, C2, x2, _, rfl, g7.sb _ _ q2, k2.rp, rfl, tw, r.w, r.ns, r.ds, rfl, m2.up g7.sb, fun H8 g' => ⟨_, rfl, ?_⟩⟩
        have g8 := g7.still g'
        refine ⟨_, rfl, rfl, _, rfl, ?_⟩
        rw [hdw, ne_same]
        refine iteF ?_
        refine ⟨_, rfl, _, rfl, cx, C1, x1, _, _, rfl, g8.sb _ _ q1, k1.eq, .base (.str _), T.E.fstr C1 c1, rfl, cx, _, r.w, r.ns, r.ds, rfl, m1.up g8.sb, .inr ⟨_, .base (.str _), T.E.kstr, ?_⟩⟩
        refine ⟨false, false, rfl, rfl, _, rfl, iteF ?_⟩
        refine ⟨_, rfl, _, rfl, cx, C1, x1, _, _, rfl, g8.sb _ _ q1, k1.eq, .base (.lst (g8.sb _ _ t2)), T.E.flst C1 c1, rfl, cx, _, r.w, r.ns, r.ds, rfl, m1.up g8.sb, .inr ⟨_, .base (.lst (g8.sb _ _ t2)), T.E.klst, ?_⟩⟩
        refine ⟨false, false, rfl, rfl, _, rfl, iteF ?_⟩
        refine ⟨_, rfl, L1, rfl, ⟨_, SqL.of (g8.sb _ _ e1')⟩, ?_⟩
        refine for_list (K := K) (a := L1) (xs := xs1) (fun j σ H' => Gr [] H F H' ∧ ∃ rest, σ = some v1 :: some v2 :: some v3 :: some (.ref L1) :: some (.ref tw) :: some (.str due) :: some (.ref cx) :: some (.str r.w) :: some (.ref fl) :: rest ∧ rest.length = 6) ?_ ?_ ?_ ?_
        · exact ⟨g8, _, rfl, rfl⟩
        · rintro j σ H' _ ⟨g', _⟩
          exact SqL.of (g'.sb _ _ e1')
        · rintro j x σ H9 hx ⟨g9, rest, rfl, hrest⟩
          obtain ⟨b9, b10, b11, b12, b13, b14, rfl⟩ := list6 hrest
          obtain ⟨r', hr2, p', cx', fl', rfl, t1', t2', m3⟩ := paired_at p1 hx
          obtain ⟨hk', hD'⟩ := rows_ok D1 D2 D3 r' hr2
          obtain ⟨C3, i3, x3, u3, ys3, c3, k3, q3, _⟩ := id m3.ex
          have okl' : Okd 9 120003 (.list r'.ds) := Okd.list m3.ok m3.l3
          refine ⟨p', _, rfl, SqT.of (g9.sb _ _ t1'), rfl, _, _, rfl, _, _, rfl, _, _, rfl, rfl, ?_⟩
          refine ⟨_, rfl, _, rfl, rfl, decide (V.str r.w = V.str r'.w), PyData.eqv (.list r.ds) (.list r'.ds), rfl, fun _ R hR => ?_, ?_⟩
          · exact ⟨_, rfl, _, rfl, .list r.ds, .list r'.ds, .lst (SqL.of (g9.sb _ _ t2)) (dpAll_up g9.same _ hD), .lst (SqL.of (g9.sb _ _ t2')) (dpAll_up g9.same _ hD'), okl.shaped (by decide), okl'.shaped (by decide), hR⟩
          rw [show (decide (V.str r.w = V.str r'.w) && PyData.eqv (.list r.ds) (.list r'.ds)) = sameCare r.w r'.w r.ds r'.ds by rw [dec_str]; rfl]
          refine ⟨_, rfl, _, rfl, cx, C1, x1, _, _, rfl, g9.sb _ _ q1, k1.eq, k3.ty (g9.sb _ _ q3), T.E.first C1 c1 C3 c3, rfl, cx, _, r.w, r.ns, r.ds, rfl, m1.up g9.sb, .inl ⟨cx', r'.w, r'.ns, r'.ds, rfl, m3.up g9.sb, ?_⟩⟩
          refine ⟨_, rfl, _, rfl, tw, C2, x2, _, _, rfl, g9.sb _ _ q2, k2.eq, k3.ty (g9.sb _ _ q3), T.E.first C2 c2 C3 c3, rfl, tw, _, r.w, r.ns, r.ds, rfl, m2.up g9.sb, .inl ⟨cx', r'.w, r'.ns, r'.ds, rfl, m3.up g9.sb, ?_⟩⟩
          refine ⟨_, rfl, _, rfl, cx', C3, x3, _, _, rfl, g9.sb _ _ q3, k3.eq, k2.ty (g9.sb _ _ q2), T.E.first C3 c3 C2 c2, rfl, cx', _, r'.w, r'.ns, r'.ds, rfl, m3.up g9.sb, .inl ⟨tw, r.w, r.ns, r.ds, rfl, m2.up g9.sb, ?_⟩⟩
          rw [sameCare_comm r'.w r.w r'.ds r.ds]
          generalize sameCare r.w r'.w r.ds r'.ds = same
          refine ⟨by simp only [List.length_cons, List.length_nil]; decide, fun B nB => ?_⟩
          have g10 := g9.tmp (o := .lst [.bl same, .bl same, .bl same]) nB
          have eB : upd H9 B (.lst [.bl same, .bl same, .bl same]) B = some (.lst [.bl same, .bl same, .bl same]) := upd_same
          generalize upd H9 B (.lst [.bl same, .bl same, .bl same]) = H10 at g10 eB ⊢
          refine ⟨B, rfl, ⟨_, SqL.of eB⟩, ?_⟩
          refine for_list (K := K) (a := B) (xs := [.bl same, .bl same, .bl same]) (fun j σ H' => H' = H10 ∧ ∃ c13 c14, σ = [some v1, some v2, some v3, some (.ref L1), some (.ref tw), some (.str due), some (.ref cx), some (.str r.w), some (.ref fl), some (.ref cx'), some (.str r'.w), some (.ref fl'), some (.bl same), c13, c14]) ?_ ?_ ?_ ?_
          · exact ⟨rfl, _, _, rfl⟩
          · rintro j' σ H' _ ⟨rfl, _⟩
            exact SqL.of eB
          · rintro j' x σ H11 hx' ⟨rfl, c13, c14, rfl⟩
            have ex : x = .bl same := by
              have := List.mem_of_getElem? hx'
              simpa using this
            subst ex
            refine ⟨_, rfl, _, .ty "bool", .type "bool", .type "bool", true, rfl, .ty _, .base (.bl _), kit_ty (by decide +kernel), _, rfl, iteF ?_⟩
            refine ⟨_, rfl, _, rfl, rfl, _, rfl, ?_⟩
            rw [ne_same]
            refine iteF ?_
            exact ⟨rfl, _, _, rfl⟩
          · rintro σ H' ⟨rfl, c13, c14, rfl⟩
            exact ⟨g10, _, rfl, rfl⟩
        · rintro σ H' ⟨g', rest, rfl, hrest⟩
          obtain ⟨b9, b10, b11, b12, b13, b14, rfl⟩ := list6 hrest
          exact ⟨g', _, rfl, rfl⟩
    · rintro σ H' ⟨g', _⟩
      exact k H' g'.drop
  · obtain ⟨_, v1, v2, v3, d1, d2, d3, rfl, _⟩ := h
    rfl
end
end K77

namespace K77
open L2 PyProof.Rows PySem.Spec PySem Gd PySem.SeqAt
local macro_rules | `(tactic| walk_at "rd0") => `(tactic| first
  | rfl
  | assumption
  | exact SqL.of (by assumption)
  | exact SqL.of upd_same
  | exact upd_same
  | exact SqT.of (by assumption)
  | exact SqT.of upd_same
  | decide
  | exact ⟨_, rfl⟩
  | exact ⟨by decide, by decide +kernel⟩
  | exact Or.inr ⟨by decide, by decide⟩
  | exact Or.inl ⟨_, by assumption, rfl⟩
  | exact Or.inl ⟨_, SqL.of (by assumption), rfl⟩
  | (simp only [List.length_cons, List.length_nil]; decide)
  | omega
  | decide +kernel
  | exact Or.inl ⟨by omega, by omega⟩)
local macro_rules | `(tactic| walk_at "rd1") => `(tactic| first
  | refine And.intro (by walk_at "rd0") ?_
  | apply Exists.intro
  | refine iteT ?_
  | (refine Or.inl ?_; apply Exists.intro; refine And.intro rfl ?_)
  | (refine Or.inr ?_; apply Exists.intro; refine And.intro rfl ?_)
  | (refine Or.inl ?_; apply Exists.intro; apply Exists.intro; refine And.intro rfl ?_; refine And.intro rfl ?_)
  | (refine Or.inr (Or.inl ?_); apply Exists.intro; apply Exists.intro; refine And.intro rfl ?_; refine And.intro rfl ?_))
local macro_rules | `(tactic| walk_at "rd") => `(tactic| repeat walk_at "rd1")
/-! ### _law_kept_right -/
def spKept (K : PySem.W.Frag) : SpA := fun vs zs H Q _ => zs = [] ∧ ∃ v1 v2 v3 d1 d2, vs = [v1, v2, v3] ∧ Dp K H v1 d1 ∧ Dp K H v2 d2 ∧ Okd 3 2000 d1 ∧ Okd 3 2000 d2 ∧ ∀ H', Gr [] H emp H' → Q (.bl true) H'
def dSome (d1 d2 : PyData) : PyData := .list [.list [d1], .tuple [.int 1, .list [.list [d2]]]]
theorem dSome_ok {d1 d2 : PyData} (o1 : Okd 3 2000 d1) (o2 : Okd 3 2000 d2) : Okd 8 40000 (dSome d1 d2) := by
  have a1 : Okd 4 2001 (.list [d1]) := Okd.list (n := 3) (W := 2000) (k := 1) (fun d hd => by rw [List.mem_singleton.mp hd]; exact o1) (Nat.le_refl _)
  have a2 : Okd 4 2001 (.list [d2]) := Okd.list (n := 3) (W := 2000) (k := 1) (fun d hd => by rw [List.mem_singleton.mp hd]; exact o2) (Nat.le_refl _)
  have a3 : Okd 5 2002 (.list [.list [d2]]) := Okd.list (n := 4) (W := 2001) (k := 1) (fun d hd => by rw [List.mem_singleton.mp hd]; exact a2) (Nat.le_refl _)
  have i1 : Okd 0 104 (.int 1) := int_okd (by decide)
  have a4 : Okd 6 4006 (.tuple [.int 1, .list [.list [d2]]]) := Okd.tuple (n := 5) (W := 2002) (k := 2) (fun d hd => by
    rcases List.mem_cons.mp hd with z | hd
    · rw [z]; exact i1.mono (by decide) (by decide)
    · rw [List.mem_singleton.mp hd]; exact a3) (Nat.le_refl _)
  exact (Okd.list (n := 6) (W := 4006) (k := 2) (fun d hd => by
    rcases List.mem_cons.mp hd with z | hd
    · rw [z]; exact a1.mono (by decide) (by decide)
    · rw [List.mem_singleton.mp hd]; exact a4) (Nat.le_refl _)).mono (by decide) (by decide)
section
variable {P : Program} {w : World} {K : PySem.W.Frag} {mg : Str → Option Value} {base : Heap}
theorem rows_same {v1 v2 v3 : V} (d : PyData) : ∀ r ∈ rows v1 v2 v3 d d d, ∀ e ∈ r.ds, e = d := by
  intro r hr
  simp only [rows, List.mem_cons, List.not_mem_nil, or_false] at hr
  rcases hr with rfl | rfl | rfl | rfl | rfl | rfl | rfl | rfl <;>
    · intro e he
      simp only [List.mem_cons, List.not_mem_nil, or_false] at he
      rcases he with rfl | rfl | rfl <;> rfl
theorem paired_ix {α β : Type} {R : α → β → Prop} : ∀ {xs : List α} {ys : List β} {i : Nat} {x : α}, Paired R xs ys → xs[i]? = some x → ∃ y, ys[i]? = some y ∧ R x y
  | _, _, _, _, .nil, e => by simp at e
  | _, _, 0, _, .cons a _, e => by
    simp at e
    subst e
    exact ⟨_, rfl, a⟩
  | _, _, i + 1, _, .cons _ t, e => by
    obtain ⟨y, h1, h2⟩ := paired_ix (i := i) t (by simpa using e)
    exact ⟨y, by simpa using h1, h2⟩
/-- the cares of a list, shown -/
theorem comp_shown {care eqA reprA : Addr} {cs : List Addr} {L D : Addr} {xs : List V} {rs : List Row} {F H : Hp} {Qd : Hp → Prop} {vs : List Nat} {σ : L2.St}
    (hσ : ∀ a b c : V, ((((wipe σ vs).set 10 (some a)).set 11 (some b)).set 12 (some c))[10]? = some (some a)) (hw : ∀ a b c : V, wipe ((((wipe σ vs).set 10 (some a)).set 11 (some b)).set 12 (some c)) vs = wipe σ vs)
    (p1 : Paired (TripIn K cs care eqA reprA F) xs rs) (h8 : rs.length ≤ 8) (hL : SqL K H L xs) (sF : Same F H) (hD : H D = none)
    (k : ∀ H', Gr [] H emp H' → H' D = some (.lst ((rs.map (fun r => shownCare r.w r.ds)).map V.str)) → Qd H') :
    ∃ W : Nat → Nat → Hp → Prop, (∃ m, W 0 m (upd H D (.lst []))) ∧ ∀ i m H, W i m H →
      ((Itl K L).stop i H ∧ Qd H) ∨ ((Itl K L).go i H ∧ ∃ Nx : Hp → Prop, (∀ H', Nx H' → ∃ m', m' < m ∧ W (i + 1) m' H') ∧ ∀ x H', (Itl K L).yld i H x H' → gTup K 3 (gCons (gName 10) (gCons (gName 11) (gCons (gName 12) gNil))) x (wipe σ vs) H' fun σ2 H2 => wipe σ2 vs = wipe σ vs ∧ tYes σ2 H2 fun b H3 =>
        if b = true then tCB (rReprOwn K reprA (spRepr K cs care eqA reprA) E0) (tCons (tVar 10) tNil) σ2 H3 fun y H4 => ∃ acc, H4 D = some (.lst acc) ∧ acc.length < sizeLine ∧ Nx (upd H4 D (.lst (acc ++ [y]))) else Nx H3) := by
  refine lc_list (K := K) (a := L) (xs := xs) (fun i H1 => H1 D = some (.lst (((rs.take i).map (fun r => shownCare r.w r.ds)).map V.str)) ∧ Gr [] H emp H1) ?_ ?_ ?_ ?_
  · exact ⟨upd_same, (Gr.refl [] H).tmp hD⟩
  · rintro i H1 _ ⟨_, g⟩
    exact g.same.seq hL
  · rintro i x H1 hx ⟨e1, g⟩
    obtain ⟨r, hr1, pp, cx, fl, rfl, t1, t2, m1⟩ := paired_ix p1 hx
    obtain ⟨C1, i1, x1, u1, ys1, c1, k1, q1, _⟩ := id m1.ex
    have s1 : Same F H1 := fun b o e => g.same _ _ (sF _ _ e)
    have hi : i < rs.length := (List.getElem?_eq_some_iff.mp hr1).1
    refine ⟨pp, _, rfl, SqT.of (s1 _ _ t1), rfl, _, _, rfl, _, _, rfl, _, _, rfl, rfl, hw _ _ _, ?_⟩
    refine ⟨_, hσ _ _ _, cx, C1, x1, _, rfl, s1 _ _ q1, k1.rp, rfl, cx, r.w, r.ns, r.ds, rfl, m1.up s1, fun H2 g' => ⟨_, rfl, ?_⟩⟩
    have g2 := g.still g'
    refine ⟨_, g'.same _ _ e1, by rw [List.length_map, List.length_map, List.length_take, sizeLine_eq]; omega, ?_, ?_⟩
    · rw [upd_same, List.take_add_one, hr1, List.map_append, List.map_append]
      rfl
    · exact g2.chg rfl (.inr hD)
  · rintro H1 ⟨e1, g⟩
    have hln := p1.length
    rw [hln, List.take_length] at e1
    exact k H1 g e1
theorem sc__law_kept_right : FnScope ["_law_one", "_law_other", "_law_third", "_law_some", "_law_shown", "_law_held", "_law_inner", "_law_deep", "_law_made", "_law_kept", "_law_care", "_law_word", "_law_fields_here", "_law_field"] ["_law_one", "_law_other", "_law_third"] (defScope (top 19)) := ⟨rfl, rfl, rfl, by decide +kernel, rfl, by decide +kernel, by decide +kernel⟩
theorem ok_law_kept {f care eqA reprA all named fields : Addr} {cs : List Addr} {fd : FuncData} (F : FnD K "_law_kept_right" ((top 19)) f fd) (T : Tr mg K cs care all named fields)
    (F__law_all : FnA P w K mg base CX0 13 all [] (spThree K (fun F => Paired (TripIn K cs care eqA reprA F))))
    (F__law_fields : FnA P w K mg base CX0 2 fields [] (spFields K cs care eqA reprA)) (F_repr : FnA P w K mg base CX0 1 reprA [] (spRepr K cs care eqA reprA)) :
    FnA P w K mg base CX0 14 f [] (spKept K) := by
  refine (okB (sp := fun vs H Q E => spKept K vs [] H Q E) F sc__law_kept_right fun cdv A outer s0 H vs Q E hr h => ?_).pos (FunD.bindsN F fun _ _ _ _ _ _ us hl => match us, hl with | [_, _, _], _ => rfl) (fun vs H Q E h => ?_) |>.imp fun vs zs H Q E h => ⟨h.1, h.1 ▸ h⟩
  · obtain ⟨_, v1, v2, v3, d1, d2, rfl, D1, D2, o1, o2, k⟩ := h
    refine ⟨_, (pss_cons (ps_par (i := 6) (j := 7) (by rfl) sc__law_kept_right.nd rfl rfl (by decide) rfl rfl (pa_cons (pe_lst (pa_cons (pv 0) pa_nil)) (pa_cons (pe_lst (pa_cons (pv 1) pa_nil)) pa_nil)) (by rfl)) (pss_cons (ps_set (i := 3) sc__law_kept_right.nd rfl (Or.inl rfl) (pe_lst (pa_cons (pv 6) (pa_cons (pe_tup (pa_cons pe_int (pa_cons (pe_lst (pa_cons (pv 7) pa_nil)) pa_nil))) pa_nil)))) (pss_cons (ps_asg (pe_tup (pa_cons (pe_cl F__law_all (hr.mono (by first | decide | omega)) rfl T.g__law_all T.k__law_all pass0 (pa_cons (pv 3) (pa_cons (pv 3) (pa_cons (pv 3) pa_nil)))) (pa_cons (pe_repr K hr (by rfl) T.b_repr (pa_cons (pe_lst (pa_cons (pv 6) (pa_cons (pe_tup (pa_cons pe_int (pa_cons (pe_lst (pa_cons (pv 7) pa_nil)) pa_nil))) pa_nil))) pa_nil)) pa_nil))) (pg_tup rfl (pgs_cons (pg_name (i := 8) sc__law_kept_right.nd rfl (Or.inl rfl)) (pgs_cons (pg_name (i := 9) sc__law_kept_right.nd rfl (Or.inr rfl)) pgs_nil)))) (pss_cons (ps_setLc (i := 4) (own := [("_law_care", 10), ("_law_word", 11), ("_law_fields_here", 12)]) rfl sc__law_kept_right.nd rfl rfl (sw_true rfl rfl rfl (by decide +kernel)) (pi_list (pv 8)) (blkOk_by (N := ["_law_one", "_law_other", "_law_third", "_law_some", "_law_shown", "_law_held", "_law_inner", "_law_deep", "_law_made", "_law_kept", "_law_care", "_law_word", "_law_fields_here", "_law_field"]) (sc := defScope (top 19)) (by decide +kernel)) (fun _ _ _ _ _ => (pg_tupK (n := 3) K rfl (pgs_cons (pg_name (i := 10) sc__law_kept_right.nd rfl (Or.inl rfl)) (pgs_cons (pg_name (i := 11) sc__law_kept_right.nd rfl (Or.inl rfl)) (pgs_cons (pg_name (i := 12) sc__law_kept_right.nd rfl (Or.inl rfl)) pgs_nil))))) (fun _ _ _ _ _ => pts_nil) (fun _ _ _ _ _ => ((pe_reprOwn K F_repr (hr.mono (by first | decide | omega)) pass0) (by rfl) T.b_repr (pa_cons (pv 10) pa_nil)))) (pss_cons (ps_for (by first | exact PassesOwn.leaving | exact PassesOwn.never) rfl (pi_list (pe_lst (pa_cons (pv 6) (pa_cons (pv 7) (pa_cons (pv 3) pa_nil))))) (pg_name (i := 5) sc__law_kept_right.nd rfl (Or.inl rfl)) (pss_one (ps_expr (pe_bm PySem.F.plainAttrs_list PySem.F.slot_list_append PySem.F.type_list_append mt_append (pv 5) (pa_cons (pv 2) pa_nil))))) (pss_cons (ps_if (pt_cmpR (op_neP hr.r.units) (pe_lc (own := [("_law_care", 10), ("_law_word", 11), ("_law_fields_here", 12)]) rfl sc__law_kept_right.nd (pi_list (pv 8)) (blkOk_by (N := ["_law_one", "_law_other", "_law_third", "_law_some", "_law_shown", "_law_held", "_law_inner", "_law_deep", "_law_made", "_law_kept", "_law_care", "_law_word", "_law_fields_here", "_law_field"]) (sc := defScope (top 19)) (by decide +kernel)) (fun _ _ _ _ _ => (pg_tupK (n := 3) K rfl (pgs_cons (pg_name (i := 10) sc__law_kept_right.nd rfl (Or.inl rfl)) (pgs_cons (pg_name (i := 11) sc__law_kept_right.nd rfl (Or.inl rfl)) (pgs_cons (pg_name (i := 12) sc__law_kept_right.nd rfl (Or.inl rfl)) pgs_nil))))) (fun _ _ _ _ _ => pts_nil) (fun _ _ _ _ _ => ((pe_reprOwn K F_repr (hr.mono (by first | decide | omega)) pass0) (by rfl) T.b_repr (pa_cons (pv 10) pa_nil)))) (pv 4) (nomark _)) (pss_one (ps_ret pe_bl)) pss_nil) (pss_cons (ps_for (by first | exact PassesOwn.leaving | exact PassesOwn.never) rfl (pi_list (pv 8)) (pg_tup rfl (pgs_cons (pg_name (i := 10) sc__law_kept_right.nd rfl (Or.inl rfl)) (pgs_cons (pg_name (i := 11) sc__law_kept_right.nd rfl (Or.inl rfl)) (pgs_cons (pg_name (i := 12) sc__law_kept_right.nd rfl (Or.inl rfl)) pgs_nil)))) (pss_one (ps_if (pt_cmpR (op_neD hr.r.units) (pe_lc (own := [("_law_field", 13)]) rfl sc__law_kept_right.nd (pi_list (pe_cl F__law_fields (hr.mono (by first | decide | omega)) rfl T.g__law_fields T.k__law_fields pass0 (pa_cons (pv 10) (pa_cons (pv 11) pa_nil)))) (blkOk_by (N := ["_law_one", "_law_other", "_law_third", "_law_some", "_law_shown", "_law_held", "_law_inner", "_law_deep", "_law_made", "_law_kept", "_law_care", "_law_word", "_law_fields_here", "_law_field"]) (sc := defScope (top 19)) (by decide +kernel)) (fun _ _ _ _ _ => (pg_name (i := 13) sc__law_kept_right.nd rfl (Or.inl rfl))) (fun _ _ _ _ _ => pts_one (pt_cmpR op_ne (pe_repr K hr (by rfl) T.b_repr (pa_cons (pv 13) pa_nil)) (pv 9) (nomark _))) (fun _ _ _ _ _ => (pv 13))) (pe_lst pa_nil) (nomark _)) (pss_one (ps_ret pe_bl)) pss_nil))) (pss_one (ps_ret pe_bl))))))))), ?_⟩
    have ok8 := dSome_ok o1 o2
    have g := Gr.refl [] H
    walk_at "rd"
    intro a na
    have n0a := g.ex _ na
    have sa := same_upd (o := .lst [v1]) na
    have g := g.tmp (o := .lst [v1]) na
    have ea : upd H a (.lst [v1]) a = some (.lst [v1]) := upd_same
    generalize upd H a (.lst [v1]) = Ha at sa  g ea ⊢
    walk_at "rd"
    intro b nb
    have n0b := g.ex _ nb
    have sb := same_upd (o := .lst [v2]) nb
    have ea := sb _ _ ea
    have g := g.tmp (o := .lst [v2]) nb
    have eb : upd Ha b (.lst [v2]) b = some (.lst [v2]) := upd_same
    generalize upd Ha b (.lst [v2]) = Hb at sb ea g eb ⊢
    walk_at "rd"
    intro c nc
    have n0c := g.ex _ nc
    have sc := same_upd (o := .lst [.ref b]) nc
    have ea := sc _ _ ea
    have eb := sc _ _ eb
    have g := g.tmp (o := .lst [.ref b]) nc
    have ec : upd Hb c (.lst [.ref b]) c = some (.lst [.ref b]) := upd_same
    generalize upd Hb c (.lst [.ref b]) = Hc at sc ea eb g ec ⊢
    walk_at "rd"
    intro t nt
    have n0t := g.ex _ nt
    have st := same_upd (o := .tup [.int 1, .ref c]) nt
    have ea := st _ _ ea
    have eb := st _ _ eb
    have ec := st _ _ ec
    have g := g.tmp (o := .tup [.int 1, .ref c]) nt
    have et : upd Hc t (.tup [.int 1, .ref c]) t = some (.tup [.int 1, .ref c]) := upd_same
    generalize upd Hc t (.tup [.int 1, .ref c]) = Ht at st ea eb ec g et ⊢
    walk_at "rd"
    intro s ns
    have n0s := g.ex _ ns
    have ss := same_upd (o := .lst [.ref a, .ref t]) ns
    have ea := ss _ _ ea
    have eb := ss _ _ eb
    have ec := ss _ _ ec
    have et := ss _ _ et
    have g := g.tmp (o := .lst [.ref a, .ref t]) ns
    have es : upd Ht s (.lst [.ref a, .ref t]) s = some (.lst [.ref a, .ref t]) := upd_same
    generalize upd Ht s (.lst [.ref a, .ref t]) = Hs at ss ea eb ec et g es ⊢
    have dS : Dp K Hs (.ref s) (dSome d1 d2) := .lst (SqL.of es) (.cons (.lst (SqL.of ea) (.cons (dp_up g.same _ D1) .nil)) (.cons (.tup (SqT.of et) (.cons (.int 1) (.cons (.lst (SqL.of ec) (.cons (.lst (SqL.of eb) (.cons (dp_up g.same _ D2) .nil)) .nil)) .nil))) .nil))
    walk_at "rd"
    have ea0 := ea
    have eb0 := eb
    have es0 := es
    intro L xs F H1 g1 eL p1
    have ea := g1.same _ _ ea
    have eb := g1.same _ _ eb
    have D1' := dp_up g1.same _ (dp_up g.same _ D1)
    have D2' := dp_up g1.same _ (dp_up g.same _ D2)
    walk_at "rd"
    intro c2 nc2
    have n0c2 := g1.ex _ nc2
    have sc2 := same_upd (o := .lst [.ref b]) nc2
    have ea := sc2 _ _ ea
    have eb := sc2 _ _ eb
    have g1 := g1.tmp (o := .lst [.ref b]) nc2
    have ec2 : upd H1 c2 (.lst [.ref b]) c2 = some (.lst [.ref b]) := upd_same
    generalize upd H1 c2 (.lst [.ref b]) = Hc2 at sc2 ea eb g1 ec2 ⊢
    walk_at "rd"
    intro t2 nt2
    have n0t2 := g1.ex _ nt2
    have st2 := same_upd (o := .tup [.int 1, .ref c2]) nt2
    have ea := st2 _ _ ea
    have eb := st2 _ _ eb
    have ec2 := st2 _ _ ec2
    have g1 := g1.tmp (o := .tup [.int 1, .ref c2]) nt2
    have et2 : upd Hc2 t2 (.tup [.int 1, .ref c2]) t2 = some (.tup [.int 1, .ref c2]) := upd_same
    generalize upd Hc2 t2 (.tup [.int 1, .ref c2]) = Ht2 at st2 ea eb ec2 g1 et2 ⊢
    walk_at "rd"
    intro s2 ns2
    have n0s2 := g1.ex _ ns2
    have ss2 := same_upd (o := .lst [.ref a, .ref t2]) ns2
    have ea := ss2 _ _ ea
    have eb := ss2 _ _ eb
    have ec2 := ss2 _ _ ec2
    have et2 := ss2 _ _ et2
    have g1 := g1.tmp (o := .lst [.ref a, .ref t2]) ns2
    have es2 : upd Ht2 s2 (.lst [.ref a, .ref t2]) s2 = some (.lst [.ref a, .ref t2]) := upd_same
    generalize upd Ht2 s2 (.lst [.ref a, .ref t2]) = Hs2 at ss2 ea eb ec2 et2 g1 es2 ⊢
    have D1' := dp_up g1.same _ (dp_up g.same _ D1)
    have D2' := dp_up g1.same _ (dp_up g.same _ D2)
    have dS2 : Dp K Hs2 (.ref s2) (dSome d1 d2) := .lst (SqL.of es2) (.cons (.lst (SqL.of ea) (.cons D1' .nil)) (.cons (.tup (SqT.of et2) (.cons (.int 1) (.cons (.lst (SqL.of ec2) (.cons (.lst (SqL.of eb) (.cons D2' .nil)) .nil)) .nil))) .nil))
    refine ⟨_, dSome d1 d2, rfl, dS2, ok8.sh, ok8.noDict, Nat.le_trans ok8.dp (by decide), ok8.shown_fits (by decide), ?_⟩
    generalize hkept : (dSome d1 d2).shown = kept
    walk_at "rd"
    intro p np
    have n0p := g1.ex _ np
    have sp := same_upd (o := .tup [.ref L, .str kept]) np
    have g1 := g1.tmp (o := .tup [.ref L, .str kept]) np
    have ep : upd Hs2 p (.tup [.ref L, .str kept]) p = some (.tup [.ref L, .str kept]) := upd_same
    generalize upd Hs2 p (.tup [.ref L, .str kept]) = Hp at sp  g1 ep ⊢
    refine ⟨p, _, rfl, SqT.of ep, rfl, _, _, rfl, _, _, rfl, rfl, ?_⟩
    have hl8 : (rows (.ref s) (.ref s) (.ref s) (dSome d1 d2) (dSome d1 d2) (dSome d1 d2)).length ≤ 8 := Nat.le_refl 8
    have same3 : ∀ r ∈ rows (.ref s) (.ref s) (.ref s) (dSome d1 d2) (dSome d1 d2) (dSome d1 d2), (r.w, r.ns) ∈ kinds ∧ ∀ d ∈ r.ds, d = dSome d1 d2 := fun r hr => ⟨(rows_ok dS dS dS r hr).1, rows_same _ r hr⟩
    generalize rows (.ref s) (.ref s) (.ref s) (dSome d1 d2) (dSome d1 d2) (dSome d1 d2) = rs at p1 hl8 same3
    refine ⟨_, rfl, L, rfl, ⟨_, SqL.of (g1.sb _ _ eL)⟩, fun D hD => ?_⟩
    refine comp_shown (fun _ _ _ => rfl) (fun _ _ _ => rfl) p1 hl8 (SqL.of (g1.sb _ _ eL)) g1.sb hD fun H2 gD eD => ?_
    have g2 := g1.still gD
    have nDl : ∀ l, Hs l ≠ none → D ≠ l := fun l hl z => hl (g1.ex _ (z ▸ hD))
    clear gD
    walk_at "rd"
    intro B nB
    have nBl : ∀ l, Hs l ≠ none → B ≠ l := fun l hl z => hl (g2.ex _ (z ▸ nB))
    have sB := same_upd (o := .lst [.ref a, .ref b, .ref s]) nB
    have eD := sB _ _ eD
    have g3 := g2.tmp (o := .lst [.ref a, .ref b, .ref s]) nB
    have eB : upd H2 B (.lst [.ref a, .ref b, .ref s]) B = some (.lst [.ref a, .ref b, .ref s]) := upd_same
    generalize upd H2 B (.lst [.ref a, .ref b, .ref s]) = H3 at g3 eD eB ⊢
    clear sB nB
    refine ⟨B, rfl, ⟨_, SqL.of eB⟩, ?_⟩
    refine for_list (K := K) (a := B) (xs := [.ref a, .ref b, .ref s]) (fun j σ H' => Gr [a, b, s] Hs F H' ∧ H' B = some (.lst [.ref a, .ref b, .ref s]) ∧ H' D = some (.lst ((rs.map (fun r => shownCare r.w r.ds)).map V.str)) ∧ (∀ l ∈ [a, b, s], ∃ ys, H' l = some (.lst ys) ∧ ys.length ≤ 2 + j) ∧
      ∃ c5, σ = [some v1, some v2, some v3, some (.ref s), some (.ref D), c5, some (.ref a), some (.ref b), some (.ref L), some (.str kept), none, none, none, none]) ?_ ?_ ?_ ?_
    · refine ⟨g3.more fun b m => (by cases m), eB, eD, fun l hl => ?_, _, rfl⟩
      simp only [List.mem_cons, List.not_mem_nil, or_false] at hl
      rcases hl with rfl | rfl | rfl
      · exact ⟨_, g3.same _ _ ea0, (by show 1 ≤ 2; decide)⟩
      · exact ⟨_, g3.same _ _ eb0, (by show 1 ≤ 2; decide)⟩
      · exact ⟨_, g3.same _ _ es0, (by show 2 ≤ 2; decide)⟩
    · rintro j σ H' _ ⟨_, e, _⟩
      exact SqL.of e
    · rintro j x σ H4 hx ⟨g4, eB4, eD4, hl4, c5, rfl⟩
      have hj : j < 3 := (List.getElem?_eq_some_iff.mp hx).1
      obtain ⟨l, hl, rfl⟩ : ∃ l, l ∈ [a, b, s] ∧ x = .ref l := by
        have := List.mem_of_getElem? hx
        simp only [List.mem_cons, List.not_mem_nil, or_false] at this
        rcases this with rfl | rfl | rfl
        · exact ⟨a, by simp, rfl⟩
        · exact ⟨b, by simp, rfl⟩
        · exact ⟨s, by simp, rfl⟩
      obtain ⟨ys, ey, ly⟩ := hl4 l hl
      have hls : ∃ o, Hs l = some o := by
        simp only [List.mem_cons, List.not_mem_nil, or_false] at hl
        rcases hl with rfl | rfl | rfl
        · exact ⟨_, ea0⟩
        · exact ⟨_, eb0⟩
        · exact ⟨_, es0⟩
      obtain ⟨o, hls⟩ := hls
      have nl : Hs l ≠ none := by
        rw [hls]
        intro z
        cases z
      refine ⟨_, rfl, .inl ⟨rfl, _, SqL.of ey⟩, _, rfl, l, ys, v3, rfl, rfl, ey, by rw [sizeLine_eq]; omega, ?_⟩
      refine ⟨g4.chg (g4.nw.none hls) (.inl hl), (upd_ne (nBl l nl)).trans eB4, (upd_ne (nDl l nl)).trans eD4, fun l' hl' => ?_, _, rfl⟩
      by_cases z : l' = l
      · subst z
        exact ⟨_, upd_same, by rw [List.length_append, List.length_singleton]; omega⟩
      · obtain ⟨ys', ey', ly'⟩ := hl4 l' hl'
        exact ⟨ys', (upd_ne z).trans ey', by omega⟩
    rintro σ H5 ⟨g5, _, eD5, _, c5, rfl⟩
    refine ⟨_, rfl, L, rfl, ⟨_, SqL.of (g5.sb _ _ eL)⟩, fun D2 hD2 => ?_⟩
    refine comp_shown (fun _ _ _ => rfl) (fun _ _ _ => rfl) p1 hl8 (SqL.of (g5.sb _ _ eL)) g5.sb hD2 fun H6 gD2 eD6 => ?_
    have g6 := g5.still gD2
    have eD6' := gD2.same _ _ eD5
    generalize rs.map (fun r => shownCare r.w r.ds) = shs at eD6 eD6'
    have dA : Dp K H6 (.ref D2) (.list (shs.map .str)) := .lst (SqL.of eD6) (dp_strs shs)
    have dB : Dp K H6 (.ref D) (.list (shs.map .str)) := .lst (SqL.of eD6') (dp_strs shs)
    have pA : PyData.plain (.list (shs.map .str)) = true := plain_strs shs
    have hdep : PyData.depth (.list (shs.map .str)) ≤ 60 := by
      have := depth_strs shs
      simp only [PyData.depth]
      omega
    refine ⟨.ref D, rfl, .list (shs.map .str), .list (shs.map .str), dA, dB, pA, pA, hdep, _, rfl, ?_⟩
    rw [eqv_refl_plain _ pA]
    refine iteF ?_
    refine ⟨_, rfl, L, rfl, ⟨_, SqL.of (g6.sb _ _ eL)⟩, ?_⟩
    refine for_list (K := K) (a := L) (xs := xs) (fun j σ H' => Gr [a, b, s] Hs F H' ∧ ∃ c5 c10 c11 c12 c13, σ = [some v1, some v2, some v3, some (.ref s), some (.ref D), c5, some (.ref a), some (.ref b), some (.ref L), some (.str kept), c10, c11, c12, c13]) ?_ ?_ ?_ ?_
    · exact ⟨g6, _, _, _, _, _, rfl⟩
    · rintro j σ H' _ ⟨g', _⟩
      exact SqL.of (g'.sb _ _ eL)
    · rintro j x σ H7 hx ⟨g7, c5, c10, c11, c12, c13, rfl⟩
      obtain ⟨r, hr1, pp, cx, fl, rfl, t1, t2, m1⟩ := paired_at p1 hx
      obtain ⟨hk, hds⟩ := same3 r hr1
      refine ⟨pp, _, rfl, SqT.of (g7.sb _ _ t1), rfl, _, _, rfl, _, _, rfl, _, _, rfl, rfl, ?_⟩
      refine ⟨_, rfl, _, rfl, rfl, cx, r.w, r.ns, r.ds, rfl, hk, m1.up g7.sb, fun L2 ys nL2 hys => ?_⟩
      have g8 := g7.tmp (o := .lst ys) nL2
      have e8 : upd H7 L2 (.lst ys) L2 = some (.lst ys) := upd_same
      have hys8 := dpAll_up (same_upd (o := .lst ys) nL2) _ hys
      generalize upd H7 L2 (.lst ys) = H8 at g8 e8 hys8 ⊢
      refine ⟨L2, rfl, ⟨_, SqL.of e8⟩, fun D3 hD3 => ?_⟩
      have n3 : L2 ≠ D3 := fun z => by
        subst z
        rw [e8] at hD3
        cases hD3
      refine lc_list (K := K) (a := L2) (xs := ys) (fun i H1 => H1 = upd H8 D3 (.lst [])) ?_ ?_ ?_ ?_
      · rfl
      · rintro i H1 _ rfl
        exact SqL.of ((upd_ne n3).trans e8)
      · rintro i v H1 hv rfl
        obtain ⟨dv, m2, m3, m4⟩ := dpAll_at hys8 hv
        have edv := hds dv m2
        subst edv
        refine And.intro rfl ?_
        refine ⟨_, rfl, v, dSome d1 d2, rfl, dp_up (same_upd hD3) _ m4, ok8.sh, ok8.noDict, Nat.le_trans ok8.dp (by decide), ok8.shown_fits (by decide), ?_⟩
        rw [hkept]
        refine ⟨_, rfl, rfl, _, rfl, ?_⟩
        rw [ne_same]
        exact iteF rfl
      · rintro H9 rfl
        refine ⟨by decide, fun E nE => ?_⟩
        have g9 := g8.tmp (o := .lst []) hD3
        have e9 : upd H8 D3 (.lst []) D3 = some (.lst []) := upd_same
        generalize upd H8 D3 (.lst []) = H9 at g9 e9 nE ⊢
        have g10 := g9.tmp (o := .lst []) nE
        have eE : upd H9 E (.lst []) E = some (.lst []) := upd_same
        have e10 := same_upd (o := .lst []) nE _ _ e9
        refine ⟨.list [], .list [], .lst (SqL.of e10) .nil, .lst (SqL.of eE) .nil, by decide +kernel, by decide +kernel, _, rfl, ?_⟩
        rw [show (!PyData.eqv (.list []) (.list [])) = false by decide +kernel]
        refine iteF ?_
        exact ⟨g10, _, _, _, _, _, rfl⟩
    · rintro σ H' ⟨g', _⟩
      have g11 := g.call g' fun l hl => ?_
      · exact k H' g11.drop
      · simp only [List.mem_cons, List.not_mem_nil, or_false] at hl
        refine ⟨rfl, .inr ?_⟩
        rcases hl with rfl | rfl | rfl
        · exact n0a
        · exact n0b
        · exact n0s
  · obtain ⟨_, v1, v2, v3, d1, d2, rfl, _⟩ := h
    rfl
end
end K77

namespace K77
open L2 PyProof.Rows PySem.Spec PySem Gd
local macro_rules | `(tactic| walk_at "rd0") => `(tactic| first
  | rfl
  | assumption
  | exact SqL.of (by assumption)
  | exact SqL.of upd_same
  | exact upd_same
  | exact SqT.of (by assumption)
  | exact SqT.of upd_same
  | decide
  | exact ⟨_, rfl⟩
  | exact ⟨by decide, by decide +kernel⟩
  | exact Or.inr ⟨by decide, by decide⟩
  | exact Or.inl ⟨_, by assumption, rfl⟩
  | exact Or.inl ⟨_, SqL.of (by assumption), rfl⟩
  | (simp only [List.length_cons, List.length_nil]; decide)
  | omega
  | decide +kernel
  | exact Or.inl ⟨by omega, by omega⟩)
local macro_rules | `(tactic| walk_at "rd1") => `(tactic| first
  | refine And.intro (by walk_at "rd0") ?_
  | apply Exists.intro
  | refine iteT ?_
  | (refine Or.inl ?_; apply Exists.intro; refine And.intro rfl ?_)
  | (refine Or.inr ?_; apply Exists.intro; refine And.intro rfl ?_)
  | (refine Or.inl ?_; apply Exists.intro; apply Exists.intro; refine And.intro rfl ?_; refine And.intro rfl ?_)
  | (refine Or.inr (Or.inl ?_); apply Exists.intro; apply Exists.intro; refine And.intro rfl ?_; refine And.intro rfl ?_))
local macro_rules | `(tactic| walk_at "rd") => `(tactic| repeat walk_at "rd1")
/-! ### the law -/
theorem _root_.Gd.Gr.callS {H0 F H F' H' : Hp} {p : Addr} (g : Gr [p] H0 F H) (g' : Gr [p] H F' H') (hb : Bag H0 p) : Gr [p] H0 (un F F') H' := g.call g' fun b m => by
  rw [List.mem_singleton.mp m]
  exact ⟨hb.free g, .inl List.mem_cons_self⟩
theorem _root_.Gd.Bag.kept {H F H' : Hp} {p : Addr} (b : Bag H p) (g : Gr [] H F H') : Bag H' p := by
  obtain ⟨d, m, c, e⟩ := b
  exact ⟨d, m, c, g.same _ _ e⟩
structure Tl (mg : Str → Option Value) (K : PySem.W.Frag) (bag value take right kept : Addr) : Prop where
  g__law_bag : mg "_law_bag" = some (.ref bag)
  k__law_bag : PySem.W.keepIn K (.ref bag) = true
  g__law_value : mg "_law_value" = some (.ref value)
  k__law_value : PySem.W.keepIn K (.ref value) = true
  g__law_take : mg "_law_take" = some (.ref take)
  k__law_take : PySem.W.keepIn K (.ref take) = true
  g__law_right : mg "_law_right" = some (.ref right)
  k__law_right : PySem.W.keepIn K (.ref right) = true
  g__law_kept_right : mg "_law_kept_right" = some (.ref kept)
  k__law_kept_right : PySem.W.keepIn K (.ref kept) = true
  b_range : mg "range" = none
  b_max : mg "max" = none
  b_min : mg "min" = none
  b_len : mg "len" = none
def spLaw (K : PySem.W.Frag) : SpA := fun vs zs H Q _ => zs = [] ∧ ∃ (a : Addr) (ns : List Int), vs = [.ref a] ∧ SqL K H a (ns.map V.int) ∧ ns.length ≤ 63 ∧ ∀ H', Q (.bl true) H'
section
variable {P : Program} {w : World} {K : PySem.W.Frag} {mg : Str → Option Value} {base : Heap}
theorem sc_law : FnScope ["_law_script", "_law_place", "_law_bag_here", "_law_one", "_law_other", "_law_third"] ["_law_script"] (defScope (top 20)) := ⟨rfl, rfl, rfl, by decide +kernel, rfl, by decide +kernel, by decide +kernel⟩
theorem ok_law {f bag value take right kept : Addr} {fd : FuncData} (F : FnD K "law" ((top 20)) f fd) (T : Tl mg K bag value take right kept)
    (F__law_bag : FnA P w K mg base CX0 1 bag [] (spBag K)) (F__law_value : FnA P w K mg base CX0 2 value [] (spValue K)) (F__law_take : FnA P w K mg base CX0 1 take [] spTake)
    (F__law_right : FnA P w K mg base CX0 14 right [] (spRight K)) (F__law_kept_right : FnA P w K mg base CX0 14 kept [] (spKept K)) :
    FnA P w K mg base CX0 15 f [] (spLaw K) := by
  refine (okB (sp := fun vs H Q E => spLaw K vs [] H Q E) F sc_law fun cdv A outer s0 H vs Q E hr h => ?_).pos (FunD.bindsN F fun _ _ _ _ _ _ us hl => match us, hl with | [_], _ => rfl) (fun vs H Q E h => ?_) |>.imp fun vs zs H Q E h => ⟨h.1, h.1 ▸ h⟩
  · obtain ⟨_, a, ns, rfl, hS, hn, k⟩ := h
    refine ⟨_, (pss_cons (ps_for (by first | exact PassesOwn.leaving | exact PassesOwn.never) rfl (pi_range1 (by rfl) T.b_range (pa_cons (pe_callB (call_max2 rfl) (by rfl) T.b_max (by decide +kernel) (pa_cons pe_int (pa_cons (pe_callB (call_min2 rfl) (by rfl) T.b_min (by decide +kernel) (pa_cons pe_int (pa_cons (pe_callB call_len (by rfl) T.b_len (by decide +kernel) (pa_cons (pv 0) pa_nil)) pa_nil))) pa_nil))) pa_nil)) (pg_name (i := 1) sc_law.nd rfl (Or.inl rfl)) (pss_cons (ps_set (i := 2) sc_law.nd rfl (Or.inl rfl) (pe_cl F__law_bag (hr.mono (by first | decide | omega)) rfl T.g__law_bag T.k__law_bag pass0 (pa_cons (pv 0) (pa_cons (pv 1) pa_nil)))) (pss_cons (ps_par3 (i := 3) (j := 4) (l := 5) (by rfl) sc_law.nd rfl rfl rfl (by decide) (by decide) (by decide) rfl rfl rfl (pa_cons (pe_cl F__law_value (hr.mono (by first | decide | omega)) rfl T.g__law_value T.k__law_value pass0 (pa_cons (pv 2) pa_nil)) (pa_cons (pe_cl F__law_value (hr.mono (by first | decide | omega)) rfl T.g__law_value T.k__law_value pass0 (pa_cons (pv 2) pa_nil)) (pa_cons (pe_cl F__law_value (hr.mono (by first | decide | omega)) rfl T.g__law_value T.k__law_value pass0 (pa_cons (pv 2) pa_nil)) pa_nil))) (by rfl)) (pss_cons (ps_if (PW.pt (pw_or (pt_not (pt_val (pe_cl F__law_right (hr.mono (by first | decide | omega)) rfl T.g__law_right T.k__law_right pass0 (pa_cons (pv 3) (pa_cons (pv 4) (pa_cons (pv 5) pa_nil)))))) (pw_or1 (pt_not (pt_val (pe_cl F__law_right (hr.mono (by first | decide | omega)) rfl T.g__law_right T.k__law_right pass0 (pa_cons pe_str (pa_cons (pe_cl F__law_take (hr.mono (by first | decide | omega)) rfl T.g__law_take T.k__law_take pass0 (pa_cons (pv 2) (pa_cons pe_int pa_nil))) (pa_cons pe_str pa_nil))))))))) (pss_one (ps_ret pe_bl)) pss_nil) (pss_one (ps_if (pt_not (pt_val (pe_cl F__law_kept_right (hr.mono (by first | decide | omega)) rfl T.g__law_kept_right T.k__law_kept_right pass0 (pa_cons (pv 3) (pa_cons (pv 4) (pa_cons (pv 5) pa_nil)))))) (pss_one (ps_ret pe_bl)) pss_nil)))))) (pss_one (ps_ret pe_bl))), ?_⟩
    have hl : (ns.map V.int).length = ns.length := List.length_map ..
    generalize hN : (if (if ((ns.map V.int).length : Int) < 8 then ((ns.map V.int).length : Int) else 8) > 1 then (if ((ns.map V.int).length : Int) < 8 then ((ns.map V.int).length : Int) else 8) else 1) = N
    have hN8 : N ≤ 8 := by
      rw [← hN]
      split <;> split <;> omega
    have hN1 : 1 ≤ N := by
      rw [← hN]
      split <;> split <;> omega
    refine ⟨_, rfl, _, (ns.map V.int).length, rfl, .inl ⟨_, hS, rfl⟩, ?_⟩
    refine ⟨_, _, rfl, _, _, rfl, ?_⟩
    rw [hN]
    refine ⟨N, rfl, by omega, by omega, ?_⟩
    refine for_range (fun i σ H' => (∃ c1 c2 c3 c4 c5, σ = [some (.ref a), c1, c2, c3, c4, c5]) ∧ Gr [] H emp H') ?_ ?_ ?_
    · exact ⟨⟨_, _, _, _, _, rfl⟩, Gr.refl [] H⟩
    · rintro i σ H1 hi ⟨⟨c1, c2, c3, c4, c5, rfl⟩, g⟩
      have hS' := g.same.seq hS
      walk_at "rd"
      intro p d m c hp
      have np : H p = none := g.ex p hp
      have g := g.tmp (o := .lst [.int d, .int m, .int c]) hp
      have b1 : Bag (upd H1 p (.lst [.int d, .int m, .int c])) p := bag_upd
      generalize upd H1 p (.lst [.int d, .int m, .int c]) = H2 at g b1 ⊢
      walk_at "rd"
      intro v1 d1 F1 H3 g1 D1 o1 b2
      walk_at "rd"
      intro v2 d2 F2 H4 g2 D2 o2 b3
      have D1 := dp_up (un_left F1 F2) _ D1
      have D2 := dp_up (g1.un_r g2) _ D2
      have g2 := g1.callS g2 b1
      generalize un F1 F2 = F3 at D1 D2 g2
      walk_at "rd"
      intro v3 d3 F4 H5 g3 D3 o3 b4
      have D1 := dp_up (un_left F3 F4) _ D1
      have D2 := dp_up (un_left F3 F4) _ D2
      have D3 := dp_up (g2.un_r g3) _ D3
      have g3 := g2.callS g3 b1
      generalize un F3 F4 = F5 at D1 D2 D3 g3
      clear g1 g2 b2 b3
      have D1' := D1
      have D2' := D2
      have D1 := dp_up g3.sb _ D1
      have D2 := dp_up g3.sb _ D2
      have D3 := dp_up g3.sb _ D3
      have p1 := o1.mono (m := 8) (U := 40000) (by decide) (by decide)
      have p2 := o2.mono (m := 8) (U := 40000) (by decide) (by decide)
      have p3 := o3.mono (m := 8) (U := 40000) (by decide) (by decide)
      refine ⟨_, _, _, rfl, ?_⟩
      refine ⟨_, rfl, _, rfl, _, rfl, rfl, v1, v2, v3, d1, d2, d3, rfl, D1, D2, D3, p1, p2, p3, fun H6 g6 => ⟨_, rfl, iteF ?_⟩⟩
      have b5 : Bag H6 p := b4.kept g6
      refine ⟨_, rfl, rfl, p, 7, rfl, by decide, by decide +kernel, b5, fun r d' m' c' h0 h7 => ?_⟩
      have g7 := (g3.still g6).chg (q := p) (o := .lst [.int d', .int m', .int c']) (b1.free (g3.still g6)) (.inl List.mem_cons_self)
      generalize upd H6 p (.lst [.int d', .int m', .int c']) = H7 at g7 ⊢
      have q1 : Okd 8 40000 (.str "store") := (str_okd (n := 20) (by decide +kernel) (by decide +kernel)).mono (by decide) (by decide)
      have q3 : Okd 8 40000 (.str "touch if old") := (str_okd (n := 20) (by decide +kernel) (by decide +kernel)).mono (by decide) (by decide)
      have q2 : Okd 8 40000 (.int r) := (int_okd (by omega)).mono (by decide) (by decide)
      refine ⟨rfl, .str "store", .int r, .str "touch if old", .str "store", .int r, .str "touch if old", rfl, .str _, .int _, .str _, q1, q2, q3, fun H8 g8 => ⟨_, rfl, iteF ?_⟩⟩
      have g9 := g7.still g8
      have D1 := dp_up g9.sb _ D1'
      have D2 := dp_up g9.sb _ D2'
      refine ⟨_, rfl, _, rfl, _, rfl, rfl, v1, v2, v3, d1, d2, rfl, D1, D2, o1, o2, fun H10 g10 => ⟨_, rfl, iteF ?_⟩⟩
      have g11 := g9.still g10
      refine ⟨⟨_, _, _, _, _, rfl⟩, ?_⟩
      have g12 := g.call g11 fun b hb => ?_
      · rw [emp_un] at g12
        exact g12.drop
      · rw [List.mem_singleton.mp hb]
        exact ⟨rfl, .inr np⟩
    · rintro σ H' ⟨_, g⟩
      exact k H'
  · obtain ⟨_, a, ns, rfl, _⟩ := h
    rfl
end
end K77

namespace K77
open L2 PyProof.Rows PySem.Spec PySem Gd
/-! ### what the head tells -/
abbrev Pm (K : PySem.W.Frag) (C : Addr) (m : Str) (f : Addr) : Prop := PySem.W.findIn K (.ref C) m = some (some (.ref f)) ∧ PySem.W.isFn K (.ref f) = true ∧ PySem.W.keepIn K (.ref f) = true
def clsB (K : PySem.W.Frag) (C care eqA reprA initA : Addr) : Bool :=
  decide (PySem.W.plainGet K C Str.empty = true ∧ PySem.W.hasDictIn K C = true ∧ PySem.W.plainOver K C = true ∧ PySem.W.findIn K (.ref C) "__setattr__" = some (some (.builtin "object.__setattr__"))) &&
  (decide (∀ f ∈ attrs, PySem.W.findIn K (.ref C) f = some none) && (decide (Pm K C "__eq__" eqA ∧ Pm K C "__repr__" reprA) &&
  (decide (PySem.W.findIn K (.ref C) "__class__" = some (some (.builtin "object.__class__")) ∧ PySem.W.specialIn K (.builtin "object.__class__") "__get__" = some (some (.builtin "getset_descriptor.__get__")) ∧
    PySem.W.takesIn K (.builtin "object.__class__") = some true ∧ PySem.W.mroIn K C (.type "object") = some true ∧ PySem.W.kitOne K (.ref C) (.ref care) = some true) &&
  decide (PySem.W.mroIn K C (.ref C) = some true ∧ (PySem.W.clsIn K C).isSome = true ∧ PySem.W.ks_superIn K C C "__init__" = some (some (.ref initA)) ∧ PySem.W.isFn K (.ref initA) = true ∧ PySem.W.fnIn K initA = true ∧ PySem.W.nsIn K cStatics "thirdparty.any" = some none))))
theorem clsB_ok {K : PySem.W.Frag} {C care eqA reprA initA : Addr} (h : clsB K C care eqA reprA initA = true) : ClsF K C care eqA reprA initA := by
  obtain ⟨a, h⟩ := He.ba h
  obtain ⟨b, h⟩ := He.ba h
  obtain ⟨c, h⟩ := He.ba h
  obtain ⟨d, e⟩ := He.ba h
  obtain ⟨a1, a2, a3, a4⟩ := of_decide_eq_true a
  obtain ⟨⟨c1, c2, c3⟩, c4, c5, c6⟩ := of_decide_eq_true c
  obtain ⟨d1, d2, d3, d4, d5⟩ := of_decide_eq_true d
  obtain ⟨e1, e2, e3, e4, e5, e6⟩ := of_decide_eq_true e
  have nb := of_decide_eq_true b
  exact { cl := ⟨a1, a2, a3, a4⟩, na := nb, eq := ⟨c1, c2, c3⟩, rp := ⟨c4, c5, c6⟩, ca := d1, cn := d2, ct := d3, cm := d4, kit := d5, sup := ⟨e1, e2, e3, e4, e5, e6⟩ }
def mkB (K : PySem.W.Frag) (C f : Addr) : Bool := decide (PySem.W.makesIn K C = true ∧ PySem.W.findIn K (.ref C) "__init__" = some (some (.ref f)) ∧ PySem.W.isFn K (.ref f) = true ∧ PySem.W.keepIn K (.ref C) = true)
theorem mkB_ok {K : PySem.W.Frag} {C f : Addr} (h : mkB K C f = true) : Mk K C f := by
  obtain ⟨a, b, c, d⟩ := of_decide_eq_true h
  exact ⟨a, b, c, d⟩
def fileB (K : PySem.W.Frag) (f : Addr) (file : Str) : Bool := match K.lookup f with
  | some ⟨_, _, .func fd, _⟩ => codeFile K fd.code file
  | _ => false
theorem fileB_ok {K : PySem.W.Frag} {f : Addr} {file : Str} {oc : Value} {od : Option Addr} {fd : FuncData} {osl : Array (Option Value)} (h : fileB K f file = true) (e : K.lookup f = some ⟨oc, od, .func fd, osl⟩) : codeFile K fd.code file = true := by
  unfold fileB at h
  rw [e] at h
  exact h
abbrev aCare (K : PySem.W.Frag) : Addr := He.ga K "Care"
abbrev aM (K : PySem.W.Frag) (C m : Str) : Addr := He.fAd K (C, some m)
abbrev aEq (K : PySem.W.Frag) : Addr := aM K "Care" "__eq__"
abbrev aRepr (K : PySem.W.Frag) : Addr := aM K "Care" "__repr__"
abbrev aInit (K : PySem.W.Frag) : Addr := aM K "Care" "__init__"
def aCs (K : PySem.W.Frag) : List Addr := [He.ga K "Insert", He.ga K "Under", He.ga K "Without", He.ga K "Alone", He.ga K "Waiting", He.ga K "Naming"]
def fClsF (C : Str) : Fact := fun K => clsB K (He.ga K C) (aCare K) (aEq K) (aRepr K) (aInit K)
def fMk (C : Str) : Fact := fun K => mkB K (He.ga K C) (aM K C "__init__")
def fFile (C : Str) : Fact := fun K => fileB K (aM K C "__init__") PySem.Challenge.pw_strayfiles_k77_cares_made.main.file
def fFirst : Fact := fun K => decide (∀ C ∈ aCs K, ∀ D ∈ aCs K, PySem.W.notFirst K C (.ref D) = true)
def fStr : Fact := fun K => decide (∀ C ∈ aCs K, PySem.W.notFirst K C (.type "str") = true) && decide (∀ C ∈ aCs K, PySem.W.notFirst K C (.type "list") = true)
def fKit : Fact := fun K => decide (PySem.W.kitOne K (.type "str") (.ref (aCare K)) = some false ∧ PySem.W.kitOne K (.type "list") (.ref (aCare K)) = some false)
def facts : List Fact := [fGlo "copied",
  fGlo "_law_bag",
  fGlo "_law_take",
  fGlo "_law_value",
  fGlo "_law_all",
  fGlo "_law_named",
  fGlo "_law_fields",
  fGlo "_law_only",
  fGlo "_law_right",
  fGlo "_law_kept_right",
  fGlo "law",
  fGlo "Care",
  fGlo "Insert",
  fGlo "Under",
  fGlo "Without",
  fGlo "Alone",
  fGlo "Waiting",
  fGlo "Naming",
  fFree "isinstance",
  fFree "list",
  fFree "tuple",
  fFree "repr",
  fFree "len",
  fFree "range",
  fFree "abs",
  fFree "int",
  fFree "max",
  fFree "min",
  fFree "zip",
  fFree "bool",
  fFree "super",
  fKeep "copied",
  fKeep "_law_bag",
  fKeep "_law_take",
  fKeep "_law_value",
  fKeep "_law_all",
  fKeep "_law_named",
  fKeep "_law_fields",
  fKeep "_law_only",
  fKeep "_law_right",
  fKeep "_law_kept_right",
  fClsF "Insert",
  fClsF "Under",
  fClsF "Without",
  fClsF "Alone",
  fClsF "Waiting",
  fClsF "Naming",
  fMk "Insert",
  fMk "Under",
  fMk "Without",
  fMk "Alone",
  fMk "Waiting",
  fMk "Naming",
  fFile "Insert",
  fFile "Under",
  fFile "Without",
  fFile "Alone",
  fFile "Waiting",
  fFile "Naming",
  fFirst,
  fStr,
  fKit]
def defs : List DefX := [{ d := ⟨("copied", none), "copied", "copied", defArgs (top 2), defBody (top 2), defScope (top 2), [], []⟩, inC := none },
  { d := ⟨("_law_bag", none), "_law_bag", "_law_bag", defArgs (top 11), defBody (top 11), defScope (top 11), [], []⟩, inC := none },
  { d := ⟨("_law_take", none), "_law_take", "_law_take", defArgs (top 12), defBody (top 12), defScope (top 12), [], []⟩, inC := none },
  { d := ⟨("_law_value", none), "_law_value", "_law_value", defArgs (top 13), defBody (top 13), defScope (top 13), [], []⟩, inC := none },
  { d := ⟨("_law_all", none), "_law_all", "_law_all", defArgs (top 14), defBody (top 14), defScope (top 14), [], []⟩, inC := none },
  { d := ⟨("_law_named", none), "_law_named", "_law_named", defArgs (top 15), defBody (top 15), defScope (top 15), [], []⟩, inC := none },
  { d := ⟨("_law_fields", none), "_law_fields", "_law_fields", defArgs (top 16), defBody (top 16), defScope (top 16), [], []⟩, inC := none },
  { d := ⟨("_law_only", none), "_law_only", "_law_only", defArgs (top 17), defBody (top 17), defScope (top 17), [], []⟩, inC := none },
  { d := ⟨("_law_right", none), "_law_right", "_law_right", defArgs (top 18), defBody (top 18), defScope (top 18), [], []⟩, inC := none },
  { d := ⟨("_law_kept_right", none), "_law_kept_right", "_law_kept_right", defArgs (top 19), defBody (top 19), defScope (top 19), [], []⟩, inC := none },
  { d := ⟨("law", none), "law", "law", defArgs (top 20), defBody (top 20), defScope (top 20), [], []⟩, inC := none },
  { d := ⟨("Care", some "__init__"), "__init__", "Care.__init__", defArgs (inClass (top 3) 0), defBody (inClass (top 3) 0), defScope (inClass (top 3) 0), [], []⟩, inC := none },
  { d := ⟨("Care", some "__eq__"), "__eq__", "Care.__eq__", defArgs (inClass (top 3) 1), defBody (inClass (top 3) 1), defScope (inClass (top 3) 1), [], []⟩, inC := none },
  { d := ⟨("Care", some "__repr__"), "__repr__", "Care.__repr__", defArgs (inClass (top 3) 2), defBody (inClass (top 3) 2), defScope (inClass (top 3) 2), [], []⟩, inC := none },
  { d := ⟨("Insert", some "__init__"), "__init__", "Insert.__init__", defArgs (inClass (top 4) 0), defBody (inClass (top 4) 0), defScope (inClass (top 4) 0), [], []⟩, inC := some "Insert" },
  { d := ⟨("Under", some "__init__"), "__init__", "Under.__init__", defArgs (inClass (top 5) 0), defBody (inClass (top 5) 0), defScope (inClass (top 5) 0), [], []⟩, inC := some "Under" },
  { d := ⟨("Without", some "__init__"), "__init__", "Without.__init__", defArgs (inClass (top 6) 0), defBody (inClass (top 6) 0), defScope (inClass (top 6) 0), [], []⟩, inC := some "Without" },
  { d := ⟨("Alone", some "__init__"), "__init__", "Alone.__init__", defArgs (inClass (top 7) 0), defBody (inClass (top 7) 0), defScope (inClass (top 7) 0), [], []⟩, inC := some "Alone" },
  { d := ⟨("Waiting", some "__init__"), "__init__", "Waiting.__init__", defArgs (inClass (top 8) 0), defBody (inClass (top 8) 0), defScope (inClass (top 8) 0), [], []⟩, inC := some "Waiting" },
  { d := ⟨("Naming", some "__init__"), "__init__", "Naming.__init__", defArgs (inClass (top 9) 0), defBody (inClass (top 9) 0), defScope (inClass (top 9) 0), [], []⟩, inC := some "Naming" }]
abbrev Rw : PySem.W.OpenRow := PySem.W.OpenLaw.row PySem.Challenge.rw_strayfiles_k77_cares_made
abbrev hk : PySem.W.Hook := hookX 6 facts defs
def ob (s : PySem.W.SharedT) : AlX := lookX 6 facts defs (HandSHeadRun.getT s)
theorem ob_eq (s : PySem.W.SharedT) : ob s = hk.obs s.abs := lookX_eq (HandSHeadRun.getT_eq s)
def loose : List Str := ["_wall", "copied", "Care", "Insert", "Under", "Without", "Alone", "Waiting", "Naming", "_law_bag", "_law_take", "_law_value", "_law_all", "_law_named", "_law_fields", "_law_only", "_law_right", "_law_kept_right"]
theorem run (w : World) : HandSHeadRun.RunEq Rw (PySem.W.view Rw.prog [20]) hk ob 8000 loose w := by
  intro os
  kernel_rfl
end K77

namespace K77
open L2 PyProof.Rows PySem.Spec PySem Gd
theorem promise {w : World} {K : PySem.W.Frag} {h base : Heap} {mg : Str → Option Value} (X : K.In h) (G : h.Ns mainGlobals mg) (c : SaysX facts defs K) :
    FnA PySem.Challenge.pw_strayfiles_k77_cares_made w K mg base CX0 15 (He.ga K "law") [] (spLaw K) := by
  obtain ⟨fd_copied, D_copied⟩ := c.plain 0 rfl rfl
  obtain ⟨fd_law_bag, D_law_bag⟩ := c.plain 1 rfl rfl
  obtain ⟨fd_law_take, D_law_take⟩ := c.plain 2 rfl rfl
  obtain ⟨fd_law_value, D_law_value⟩ := c.plain 3 rfl rfl
  obtain ⟨fd_law_all, D_law_all⟩ := c.plain 4 rfl rfl
  obtain ⟨fd_law_named, D_law_named⟩ := c.plain 5 rfl rfl
  obtain ⟨fd_law_fields, D_law_fields⟩ := c.plain 6 rfl rfl
  obtain ⟨fd_law_only, D_law_only⟩ := c.plain 7 rfl rfl
  obtain ⟨fd_law_right, D_law_right⟩ := c.plain 8 rfl rfl
  obtain ⟨fd_law_kept_right, D_law_kept_right⟩ := c.plain 9 rfl rfl
  obtain ⟨fd_law, D_law⟩ := c.plain 10 rfl rfl
  obtain ⟨fd_Care___init__, D_Care___init__⟩ := c.plain 11 rfl rfl
  obtain ⟨fd_Care___eq__, D_Care___eq__⟩ := c.plain 12 rfl rfl
  obtain ⟨fd_Care___repr__, D_Care___repr__⟩ := c.plain 13 rfl rfl
  obtain ⟨fd_Insert___init__, cc_Insert, _, _, _, D_Insert___init__, l_Insert⟩ := c.inCls 14 rfl rfl
  obtain ⟨fd_Under___init__, cc_Under, _, _, _, D_Under___init__, l_Under⟩ := c.inCls 15 rfl rfl
  obtain ⟨fd_Without___init__, cc_Without, _, _, _, D_Without___init__, l_Without⟩ := c.inCls 16 rfl rfl
  obtain ⟨fd_Alone___init__, cc_Alone, _, _, _, D_Alone___init__, l_Alone⟩ := c.inCls 17 rfl rfl
  obtain ⟨fd_Waiting___init__, cc_Waiting, _, _, _, D_Waiting___init__, l_Waiting⟩ := c.inCls 18 rfl rfl
  obtain ⟨fd_Naming___init__, cc_Naming, _, _, _, D_Naming___init__, l_Naming⟩ := c.inCls 19 rfl rfl
  have b_isinstance := (He.free_ok X G (c.fact 18 (f := fFree "isinstance") rfl))
  have b_list := (He.free_ok X G (c.fact 19 (f := fFree "list") rfl))
  have b_tuple := (He.free_ok X G (c.fact 20 (f := fFree "tuple") rfl))
  have b_repr := (He.free_ok X G (c.fact 21 (f := fFree "repr") rfl))
  have b_len := (He.free_ok X G (c.fact 22 (f := fFree "len") rfl))
  have b_range := (He.free_ok X G (c.fact 23 (f := fFree "range") rfl))
  have b_abs := (He.free_ok X G (c.fact 24 (f := fFree "abs") rfl))
  have b_int := (He.free_ok X G (c.fact 25 (f := fFree "int") rfl))
  have b_max := (He.free_ok X G (c.fact 26 (f := fFree "max") rfl))
  have b_min := (He.free_ok X G (c.fact 27 (f := fFree "min") rfl))
  have b_zip := (He.free_ok X G (c.fact 28 (f := fFree "zip") rfl))
  have b_bool := (He.free_ok X G (c.fact 29 (f := fFree "bool") rfl))
  have b_super := (He.free_ok X G (c.fact 30 (f := fFree "super") rfl))
  have g_copied := (He.glo_ok X G (c.fact 0 (f := fGlo "copied") rfl))
  have g__law_bag := (He.glo_ok X G (c.fact 1 (f := fGlo "_law_bag") rfl))
  have g__law_take := (He.glo_ok X G (c.fact 2 (f := fGlo "_law_take") rfl))
  have g__law_value := (He.glo_ok X G (c.fact 3 (f := fGlo "_law_value") rfl))
  have g__law_all := (He.glo_ok X G (c.fact 4 (f := fGlo "_law_all") rfl))
  have g__law_named := (He.glo_ok X G (c.fact 5 (f := fGlo "_law_named") rfl))
  have g__law_fields := (He.glo_ok X G (c.fact 6 (f := fGlo "_law_fields") rfl))
  have g__law_only := (He.glo_ok X G (c.fact 7 (f := fGlo "_law_only") rfl))
  have g__law_right := (He.glo_ok X G (c.fact 8 (f := fGlo "_law_right") rfl))
  have g__law_kept_right := (He.glo_ok X G (c.fact 9 (f := fGlo "_law_kept_right") rfl))
  have g_law := (He.glo_ok X G (c.fact 10 (f := fGlo "law") rfl))
  have g_Care := (He.glo_ok X G (c.fact 11 (f := fGlo "Care") rfl))
  have g_Insert := (He.glo_ok X G (c.fact 12 (f := fGlo "Insert") rfl))
  have g_Under := (He.glo_ok X G (c.fact 13 (f := fGlo "Under") rfl))
  have g_Without := (He.glo_ok X G (c.fact 14 (f := fGlo "Without") rfl))
  have g_Alone := (He.glo_ok X G (c.fact 15 (f := fGlo "Alone") rfl))
  have g_Waiting := (He.glo_ok X G (c.fact 16 (f := fGlo "Waiting") rfl))
  have g_Naming := (He.glo_ok X G (c.fact 17 (f := fGlo "Naming") rfl))
  have k_copied : PySem.W.keepIn K (.ref (He.ga K "copied")) = true := (c.fact 31 (f := fKeep "copied") rfl)
  have k__law_bag : PySem.W.keepIn K (.ref (He.ga K "_law_bag")) = true := (c.fact 32 (f := fKeep "_law_bag") rfl)
  have k__law_take : PySem.W.keepIn K (.ref (He.ga K "_law_take")) = true := (c.fact 33 (f := fKeep "_law_take") rfl)
  have k__law_value : PySem.W.keepIn K (.ref (He.ga K "_law_value")) = true := (c.fact 34 (f := fKeep "_law_value") rfl)
  have k__law_all : PySem.W.keepIn K (.ref (He.ga K "_law_all")) = true := (c.fact 35 (f := fKeep "_law_all") rfl)
  have k__law_named : PySem.W.keepIn K (.ref (He.ga K "_law_named")) = true := (c.fact 36 (f := fKeep "_law_named") rfl)
  have k__law_fields : PySem.W.keepIn K (.ref (He.ga K "_law_fields")) = true := (c.fact 37 (f := fKeep "_law_fields") rfl)
  have k__law_only : PySem.W.keepIn K (.ref (He.ga K "_law_only")) = true := (c.fact 38 (f := fKeep "_law_only") rfl)
  have k__law_right : PySem.W.keepIn K (.ref (He.ga K "_law_right")) = true := (c.fact 39 (f := fKeep "_law_right") rfl)
  have k__law_kept_right : PySem.W.keepIn K (.ref (He.ga K "_law_kept_right")) = true := (c.fact 40 (f := fKeep "_law_kept_right") rfl)
  have C_Insert := clsB_ok (c.fact 41 (f := fClsF "Insert") rfl)
  have M_Insert := mkB_ok (c.fact 47 (f := fMk "Insert") rfl)
  have C_Under := clsB_ok (c.fact 42 (f := fClsF "Under") rfl)
  have M_Under := mkB_ok (c.fact 48 (f := fMk "Under") rfl)
  have C_Without := clsB_ok (c.fact 43 (f := fClsF "Without") rfl)
  have M_Without := mkB_ok (c.fact 49 (f := fMk "Without") rfl)
  have C_Alone := clsB_ok (c.fact 44 (f := fClsF "Alone") rfl)
  have M_Alone := mkB_ok (c.fact 50 (f := fMk "Alone") rfl)
  have C_Waiting := clsB_ok (c.fact 45 (f := fClsF "Waiting") rfl)
  have M_Waiting := mkB_ok (c.fact 51 (f := fMk "Waiting") rfl)
  have C_Naming := clsB_ok (c.fact 46 (f := fClsF "Naming") rfl)
  have M_Naming := mkB_ok (c.fact 52 (f := fMk "Naming") rfl)
  have first := of_decide_eq_true (c.fact 59 (f := fFirst) rfl)
  obtain ⟨s1, s2⟩ := He.ba (c.fact 60 (f := fStr) rfl)
  obtain ⟨kit1, kit2⟩ := of_decide_eq_true (c.fact 61 (f := fKit) rfl)
  have T0 : Tx0 mg K := ⟨b_len, b_abs, b_int⟩
  have TE : Te mg K (aCs K) (aCare K) := { g_Care := g_Care, b_isinstance := b_isinstance, b_repr := b_repr, first := first, fstr := of_decide_eq_true s1, flst := of_decide_eq_true s2, kstr := kit1, klst := kit2 }
  have TC : Tc mg K (He.ga K "copied") := ⟨g_copied, k_copied, b_isinstance, b_list, b_tuple⟩
  have A_take := ok_take (P := PySem.Challenge.pw_strayfiles_k77_cares_made) (w := w) (mg := mg) (base := base) D_law_take T0
  have A_bag := ok_bag (P := PySem.Challenge.pw_strayfiles_k77_cares_made) (w := w) (mg := mg) (base := base) D_law_bag T0
  have A_value := ok_value (P := PySem.Challenge.pw_strayfiles_k77_cares_made) (w := w) (mg := mg) (base := base) D_law_value ⟨g__law_take, k__law_take, b_range, b_len⟩ A_take
  have A_copied := ok_copied (P := PySem.Challenge.pw_strayfiles_k77_cares_made) (w := w) (mg := mg) (base := base) D_copied TC 8
  have A_base := ok_base (care := aCare K) (eqA := aEq K) (reprA := aRepr K) D_Care___init__ TC A_copied
  have A_eq := ok_eq (P := PySem.Challenge.pw_strayfiles_k77_cares_made) (w := w) (mg := mg) (base := base) (cs := aCs K) (reprA := aRepr K) D_Care___eq__ TE
  have A_repr := ok_repr (P := PySem.Challenge.pw_strayfiles_k77_cares_made) (w := w) (mg := mg) (base := base) (cs := aCs K) (eqA := aEq K) D_Care___repr__ TE
  obtain ⟨oc, od, dV, kV, doc, pm, an, cdv, ct, osl, e_Insert, lk_Insert, r1, r2, r3⟩ := id D_Insert___init__.ex
  have B_Insert := fnB_Insert (P := PySem.Challenge.pw_strayfiles_k77_cares_made) (w := w) (mg := mg) (base := base) D_Insert___init__ l_Insert C_Insert (fileB_ok (c.fact 53 (f := fFile "Insert") rfl) lk_Insert) (by kernel_rfl) b_super A_base
  clear r1 r2 r3 lk_Insert e_Insert
  clear oc od dV kV doc pm an cdv ct osl
  have A_Insert := ok_Insert D_Insert___init__ B_Insert
  have A_Insert_kw := ok_Insert_text_at_name D_Insert___init__ B_Insert
  obtain ⟨oc, od, dV, kV, doc, pm, an, cdv, ct, osl, e_Under, lk_Under, r1, r2, r3⟩ := id D_Under___init__.ex
  have B_Under := fnB_Under (P := PySem.Challenge.pw_strayfiles_k77_cares_made) (w := w) (mg := mg) (base := base) D_Under___init__ l_Under C_Under (fileB_ok (c.fact 54 (f := fFile "Under") rfl) lk_Under) (by kernel_rfl) b_super A_base
  clear r1 r2 r3 lk_Under e_Under
  clear oc od dV kV doc pm an cdv ct osl
  have A_Under := ok_Under D_Under___init__ B_Under
  have A_Under_kw := ok_Under_name_condition_at D_Under___init__ B_Under
  obtain ⟨oc, od, dV, kV, doc, pm, an, cdv, ct, osl, e_Without, lk_Without, r1, r2, r3⟩ := id D_Without___init__.ex
  have B_Without := fnB_Without (P := PySem.Challenge.pw_strayfiles_k77_cares_made) (w := w) (mg := mg) (base := base) D_Without___init__ l_Without C_Without (fileB_ok (c.fact 55 (f := fFile "Without") rfl) lk_Without) (by kernel_rfl) b_super A_base
  clear r1 r2 r3 lk_Without e_Without
  clear oc od dV kV doc pm an cdv ct osl
  have A_Without := ok_Without D_Without___init__ B_Without
  have A_Without_kw := ok_Without_at_name D_Without___init__ B_Without
  obtain ⟨oc, od, dV, kV, doc, pm, an, cdv, ct, osl, e_Alone, lk_Alone, r1, r2, r3⟩ := id D_Alone___init__.ex
  have B_Alone := fnB_Alone (P := PySem.Challenge.pw_strayfiles_k77_cares_made) (w := w) (mg := mg) (base := base) D_Alone___init__ l_Alone C_Alone (fileB_ok (c.fact 56 (f := fFile "Alone") rfl) lk_Alone) (by kernel_rfl) b_super A_base
  clear r1 r2 r3 lk_Alone e_Alone
  clear oc od dV kV doc pm an cdv ct osl
  have A_Alone := ok_Alone D_Alone___init__ B_Alone
  have A_Alone_kw := ok_Alone_name D_Alone___init__ B_Alone
  obtain ⟨oc, od, dV, kV, doc, pm, an, cdv, ct, osl, e_Waiting, lk_Waiting, r1, r2, r3⟩ := id D_Waiting___init__.ex
  have B_Waiting := fnB_Waiting (P := PySem.Challenge.pw_strayfiles_k77_cares_made) (w := w) (mg := mg) (base := base) D_Waiting___init__ l_Waiting C_Waiting (fileB_ok (c.fact 57 (f := fFile "Waiting") rfl) lk_Waiting) (by kernel_rfl) b_super A_base
  clear r1 r2 r3 lk_Waiting e_Waiting
  clear oc od dV kV doc pm an cdv ct osl
  have A_Waiting := ok_Waiting D_Waiting___init__ B_Waiting
  have A_Waiting_kw := ok_Waiting_age D_Waiting___init__ B_Waiting
  obtain ⟨oc, od, dV, kV, doc, pm, an, cdv, ct, osl, e_Naming, lk_Naming, r1, r2, r3⟩ := id D_Naming___init__.ex
  have B_Naming := fnB_Naming (P := PySem.Challenge.pw_strayfiles_k77_cares_made) (w := w) (mg := mg) (base := base) D_Naming___init__ l_Naming C_Naming (fileB_ok (c.fact 58 (f := fFile "Naming") rfl) lk_Naming) (by kernel_rfl) b_super A_base
  clear r1 r2 r3 lk_Naming e_Naming
  clear oc od dV kV doc pm an cdv ct osl
  have A_Naming := ok_Naming D_Naming___init__ B_Naming
  have A_Naming_kw := ok_Naming_names D_Naming___init__ B_Naming
  have TM : Tm mg K (aCs K) (aCare K) (aEq K) (aRepr K) (aInit K) (He.ga K "Insert") (aM K "Insert" "__init__") (He.ga K "Under") (aM K "Under" "__init__") (He.ga K "Without") (aM K "Without" "__init__") (He.ga K "Alone") (aM K "Alone" "__init__") (He.ga K "Waiting") (aM K "Waiting" "__init__") (He.ga K "Naming") (aM K "Naming" "__init__") :=
    { g_Insert := g_Insert, m_Insert := M_Insert, f_Insert := C_Insert, s_Insert := by simp [aCs],
      g_Under := g_Under, m_Under := M_Under, f_Under := C_Under, s_Under := by simp [aCs],
      g_Without := g_Without, m_Without := M_Without, f_Without := C_Without, s_Without := by simp [aCs],
      g_Alone := g_Alone, m_Alone := M_Alone, f_Alone := C_Alone, s_Alone := by simp [aCs],
      g_Waiting := g_Waiting, m_Waiting := M_Waiting, f_Waiting := C_Waiting, s_Waiting := by simp [aCs],
      g_Naming := g_Naming, m_Naming := M_Naming, f_Naming := C_Naming, s_Naming := by simp [aCs] }
  have A_all := ok_law_all D_law_all TM A_Insert A_Under A_Without A_Alone A_Waiting A_Naming
  have A_named := ok_law_named D_law_named TM A_Insert_kw A_Under_kw A_Without_kw A_Alone_kw A_Waiting_kw A_Naming_kw
  have A_only := ok_law_only (P := PySem.Challenge.pw_strayfiles_k77_cares_made) (w := w) (mg := mg) (base := base) (cs := aCs K) (care := aCare K) (eqA := aEq K) (reprA := aRepr K) D_law_only
  have A_fields := ok_law_fields D_law_fields ⟨g__law_only, k__law_only⟩ A_only
  have TR : Tr mg K (aCs K) (aCare K) (He.ga K "_law_all") (He.ga K "_law_named") (He.ga K "_law_fields") :=
    { g__law_all := g__law_all, k__law_all := k__law_all, g__law_named := g__law_named, k__law_named := k__law_named, g__law_fields := g__law_fields, k__law_fields := k__law_fields, g_Care := g_Care, b_zip := b_zip, b_repr := b_repr, b_isinstance := b_isinstance, b_bool := b_bool, E := TE }
  have A_right := ok_law_right D_law_right TR A_all A_named A_fields A_eq A_repr
  have A_kept := ok_law_kept D_law_kept_right TR A_all A_fields A_repr
  exact ok_law D_law ⟨g__law_bag, k__law_bag, g__law_value, k__law_value, g__law_take, k__law_take, g__law_right, k__law_right, g__law_kept_right, k__law_kept_right, b_range, b_max, b_min, b_len⟩ A_bag A_value A_take A_right A_kept
end K77
open PySem PySem.W PySem.Calls
theorem PySem.Challenge.cw_strayfiles_k77_cares_made_holds : PySem.Challenge.rw_strayfiles_k77_cares_made.Holds := by
  w_on
  o_law
  refine HandSHeadRun.head_any (r := K77.Rw) (q := view K77.Rw.prog [20]) (H := K77.hk) (ob := K77.ob) (M := 8000) (loose := K77.loose) (d := HandSHeadRun.topDef K77.Rw.prog 20) (kwd := [])
    K77.ob_eq (by kernel_rfl) (fun s => by kernel_rfl) K77.run (by kernel_rfl) (by kernel_rfl) (by kernel_rfl) (by rfl) (by first | assumption | decide +kernel) (by decide +kernel) ⟨rfl, rfl, rfl, rfl, rfl, by decide +kernel⟩ ?wit ?go
  case wit => w_witness2
  case go =>
    refine Gd.top_walk (l := PySem.Challenge.rw_strayfiles_k77_cares_made) (n := 63) (k := 15) rfl (by decide) (by kernel_rfl) ⟨rfl, by decide, by decide⟩ ?F
    intro w mg fa h Y G at0
    obtain ⟨K, X, c⟩ := Y
    have nm : (HandSHeadRun.topDef K77.Rw.prog 20).name = ("law" : PySem.Str) := by kernel_rfl
    have at1 := at0
    rw [nm] at at1
    have e := at1.symm.trans (He.glo_ok X G (c.fact 10 (f := Gd.fGlo "law") rfl))
    cases e
    exact ⟨K, K77.spLaw K, X, fun H a ns hl hS => ⟨rfl, a, ns, rfl, hS, hl, fun _ => rfl⟩, fun base _ _ => K77.promise X G c⟩

