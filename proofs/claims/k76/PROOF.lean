import PyProof.Rows.All
import Wide.All
import OpenK.AllK
import Wide.FinOn
import KE.KStateDown
import HandS.ForMost
import HandS.ForExc
import HandS.Wide
import HandS.Flow
import HandS.Style
import HandS.Defaults
import HandS.Star
import HandS.MethStar
import HandS.Property
import HandS.ClsMeth
import HandS.OwnEq
import HandS.IsInst
import HandS.FStr
import HandS.DictComp
import HandS.RaiseMore
import HandS.TupAny
import HandS.Deep
import HandS.Codes
import HandS.SuiteRaise
import HandS.TryMany
import HandS.HeadEnd
import HandS.HeadHook1
import HandS.HeadHook2
import HandS.HeadNt
import HandS.Head0
import HandS.Head1
import HandS.Head2
import KE.DatumIndex
import KE.GoesEnum
import KE.GoesMore
import HandS.Conv
import KE.KExcSuper
import PyProof.ExcBaseAll.LookupError
import PyProof.Rows.FactsExc_KeyError
import HandS.HotCalls
import HandS.ExcIs
import HandS.Lambda
import HandS.EndTab
import KE.KNestM
import HandS.NoneIn
import HandS.TryOnly
import PyProof.EqAt
import PyProof.NeKinds
import PyProof.RulesMatch
import KE.KUnpackStar
import HandS.HeadHook3
import HandS.Dict
import PySem.Challenge.RW_paintposts_k76_actions_that_are_refused
set_option Elab.async false
set_option linter.all false
set_option maxRecDepth 100000
set_option maxHeartbeats 4000000
/-! the head's facts by one Bool -/
namespace Hk
open PySem PySem.W PySem.Calls PyProof.Rows He He5
/-- a property's getter -/
def pgA (K : Frag) (C : Addr) (f : PySem.Str) : Addr := match recIn K (ma K C f) "property" with
  | some (.ref g :: _) => g
  | _ => 0
def gloB (K : Frag) (x : PySem.Str) : Bool := eqO (nsIn K mainGlobals x) (some (some (.ref (ga K x))))
def aliB (K : Frag) (x y : PySem.Str) : Bool := eqO (nsIn K mainGlobals x) (some (some (.ref (ga K y))))
def freeB (K : Frag) (x : PySem.Str) : Bool := eqO (nsIn K mainGlobals x) (some none)
def intB (K : Frag) (x : PySem.Str) (i : Int) : Bool := (Fa.int x i).ok K
def strB (K : Frag) (x z : PySem.Str) : Bool := (Fa.str x z).ok K
def clsB (K : Frag) (x : PySem.Str) : Bool := (Fa.cls x).ok K
def mkrB (K : Frag) (x : PySem.Str) : Bool := (Fa.mkr x).ok K
def noatB (K : Frag) (x f : PySem.Str) : Bool := (Fa.noat x f).ok K
def methB (K : Frag) (x m : PySem.Str) : Bool := (Fa.meth x m).ok K
def conB (K : Frag) (C : Addr) (f : PySem.Str) (i : Int) : Bool := (match findIn K (.ref C) f with
  | some (some (.int j t)) => decide (j = i) && eqO (specialIn K (.int j t) "__get__") (some none)
  | _ => false) && !(copiedNames.contains f)
def propB (K : Frag) (C : Addr) (f : PySem.Str) : Bool := eqO (findIn K (.ref C) f) (some (some (.ref (ma K C f)))) && (eqO (specialIn K (.ref (ma K C f)) "__get__") (some (some (.builtin "property.__get__"))) &&
  (decide (takesIn K (.ref (ma K C f)) = some true) && (match recIn K (ma K C f) "property" with
    | some (.ref _ :: _) => true
    | _ => false)))
def creadB (K : Frag) (C : Addr) : Bool := readsIn K C (.type "type") && eqO (specialIn K (.ref C) "__getattribute__") (some (some (.builtin "type.__getattribute__")))
def cmetB (K : Frag) (C : Addr) (m : PySem.Str) : Bool := wrapB K C "classmethod" "classmethod.__get__" m && fnIn K (wf K C "classmethod" m)
section
variable {K : Frag} {h : Heap} {mg : PySem.Str → Option Value}
theorem glo_of (X : K.In h) (G : h.Ns mainGlobals mg) {x : PySem.Str} (c : gloB K x = true) : mg x = some (.ref (ga K x)) := PySem.W.mg_of X G (eqO_ok c)
theorem ali_of (X : K.In h) (G : h.Ns mainGlobals mg) {x y : PySem.Str} (c : aliB K x y = true) : mg x = some (.ref (ga K y)) := PySem.W.mg_of X G (eqO_ok c)
theorem free_of (X : K.In h) (G : h.Ns mainGlobals mg) {x : PySem.Str} (c : freeB K x = true) : mg x = none := PySem.W.mg_none_of X G (eqO_ok c)
theorem int_of (X : K.In h) (G : h.Ns mainGlobals mg) {x : PySem.Str} {i : Int} (c : intB K x i = true) : ∃ u, mg x = some u ∧ L2.RelV (.int i) u := by
  obtain ⟨t, e⟩ := int_ok X G c
  exact ⟨_, e, t, rfl⟩
theorem str_of (X : K.In h) (G : h.Ns mainGlobals mg) {x z : PySem.Str} (c : strB K x z = true) : ∃ u, mg x = some u ∧ L2.RelV (.str z) u := by
  obtain ⟨t, e⟩ := str_ok X G c
  exact ⟨_, e, t, rfl⟩
theorem con_of {C : Addr} {f : PySem.Str} {i : Int} (c : conB K C f i = true) : ∃ u, L2.Con K C f (.int i) u := by
  obtain ⟨c1, c2⟩ := ba c
  cases e : findIn K (.ref C) f with
  | none => rw [e] at c1; cases c1
  | some o =>
    rw [e] at c1
    cases o with
    | none => cases c1
    | some v =>
      cases v with
      | int j t =>
        obtain ⟨d1, d2⟩ := ba c1
        have ej : j = i := of_decide_eq_true d1
        subst ej
        exact ⟨_, e, ⟨t, rfl⟩, eqO_ok d2, by simpa using c2⟩
      | _ => cases c1
theorem prop_of {C : Addr} {f : PySem.Str} (c : propB K C f = true) : L2.PropOf K C f (ma K C f) (pgA K C f) := by
  obtain ⟨c1, c⟩ := ba c
  obtain ⟨c2, c⟩ := ba c
  obtain ⟨c3, c4⟩ := ba c
  refine ⟨eqO_ok c1, eqO_ok c2, of_decide_eq_true c3, ?_⟩
  unfold pgA
  split at c4
  · rename_i g r e
    rw [e]
    exact ⟨r, rfl⟩
  · cases c4
theorem cread_of {C : Addr} (c : creadB K C = true) : ClX.CRead K C (.type "type") := by
  obtain ⟨c1, c2⟩ := ba c
  exact ⟨c1, eqO_ok c2⟩
theorem cmet_of' {C : Addr} {m : PySem.Str} (c : cmetB K C m = true) : ClX.CMet K C (.type "type") m (ma K C m) (wf K C "classmethod" m) := by
  obtain ⟨c1, c2⟩ := ba c
  exact cmet_of c1 c2
end
/-! the Hook -/
def obsM (ck : Frag → Bool) (fn : List DefA) (K : Frag) : He.AlD := (ck K && fn.all fun d => d.ok K, fn.map fun d => fnA K (d.at_ K))
def valM (fn : List DefA) : He.AlD := (true, fn.map DefA.val)
def SaysM (ck : Frag → Bool) (fn : List DefA) (K : Frag) : Prop := obsM ck fn K = valM fn
def obsMG (n : Nat) (ck : Frag → Bool) (fn : List DefA) (g : Addr → Option Obj) : He.AlD := obsM ck fn (frG g (asA g n))
def hookM (n : Nat) (ck : Frag → Bool) (fn : List DefA) : PySem.W.Hook where
  α := He.AlD
  obs := fun s => obsMG n ck fn s.heap.get?
  val := fun _ => valM fn
  says := fun _ h => ∃ K : Frag, K.In h ∧ SaysM ck fn K
  of := fun _ _ e => ⟨_, frG_in, e⟩
  keeps := fun _ _ _ ⟨K, hK, c⟩ k => ⟨K, Frag.In.keeps hK k, c⟩
theorem obsMG_eq {n : Nat} {ck : Frag → Bool} {fn : List DefA} {g : Addr → Option Obj} {s : Shared} (h : ∀ a, g a = s.heap.get? a) : obsMG n ck fn g = (hookM n ck fn).obs s := by
  have e : g = s.heap.get? := funext h
  rw [e] <;> rfl
section
variable {ck : Frag → Bool} {fn : List DefA} {K : Frag}
theorem SaysM.ck_ (c : SaysM ck fn K) : ck K = true := (ba (show (ck K && fn.all fun d => d.ok K) = true from congrArg (fun z : He.AlD => z.1) c)).1
theorem SaysM.def_ (c : SaysM ck fn K) (i : Nat) {d : DefA} (h : fn[i]? = some d := by rfl) : ∃ fd, L2.FunD K d.name d.qual d.params d.body d.scope (d.dvs K) (d.kws K) (d.at_ K) fd := by
  have c2 := (ba (show (ck K && fn.all fun d => d.ok K) = true from congrArg (fun z : He.AlD => z.1) c)).2
  have e : fn.map (fun d => fnA K (d.at_ K)) = fn.map DefA.val := congrArg (fun z : He.AlD => z.2) c
  have e2 : (fn.map fun d => fnA K (d.at_ K))[i]? = (fn.map DefA.val)[i]? := by rw [e]
  rw [List.getElem?_map, List.getElem?_map, h] at e2
  exact DefA.funD (Option.some.inj e2) (List.all_eq_true.mp c2 d (List.mem_of_getElem? h))
end
end Hk

set_option maxRecDepth 100000
set_option maxHeartbeats 4000000
/-! rules of my own: promises by position (with and without known guards), own operators, unions -/
namespace My
open PySem PySem.Spec PyProof.Rows L2

abbrev CXp (P : Program) (w : World) : CXT := L2.CX P w
/-- as FnR, called where no repr is under way -/
def FnG (P : Program) (w : World) (K : PySem.W.Frag) (mg : Str → Option Value) (base : Heap) (CX : CXT) (k : Nat) (f : Addr) (sp : Sp) : Prop :=
  ∀ (A : Around) (outer : List Env) (s : Shared) (H : Hp) (us : List Value) (vs : List V) (Q : VK) (E : XK), Room k A → A.guards = some [] →
    Env0 P w K mg base A outer s H → Vals vs us → sp vs H Q E → codeAny (model P w) A (.call (.ref f) ⟨us, []⟩) (CR CX outer P w H s Q E) s
section
variable {P : Program} {w : World} {K : PySem.W.Frag} {mg : Str → Option Value} {base : Heap} {CX : CXT} {k : Nat} {f : Addr} {sp : Sp} {x qual : Str} {params : Arguments} {body : List Stmt} {scope : Scope} {N ps : List Str} {dvs : List V} {kws : List (Str × V)}
theorem guards_deeper {A : Around} {env : Env} (h : A.guards = some []) : (A.deeper env).guards = some [] := by
  first
    | exact h
    | simpa [Around.deeper] using h
/-- how the arguments bind: the written ones, then the defaults -/
def BindsR (K : PySem.W.Frag) (fd : FuncData) (ps : List Str) (n : Nat) (dvs : List V) : Prop :=
  ∀ (s : Shared) (us : List Value), K.In s.heap → us.length = n → ∃ ds : List Value, Vals dvs ds ∧ BindsTo s fd ⟨us, []⟩ (ps.zip (us ++ ds))
theorem fn_any {n : Nat} {G : Around → Prop} (F : ∃ fd, FunD K x qual params body scope dvs kws f fd) (S : FnScope N ps scope)
    (hb : ∀ fd, FunD K x qual params body scope dvs kws f fd → BindsR K fd ps n dvs) (len : ∀ vs H Q E, sp vs H Q E → vs.length = n) (hn : n + dvs.length = ps.length)
    (hbody : ∀ (A : Around) (outer : List Env) (s : Shared) (H : Hp) (vs : List V) (Q : VK) (E : XK) (cdv : Value), G A → Room k (A.deeper (envOfC qual scope s.heap.objs.size f cdv)) → sp vs H Q E →
      ∃ t, PSs (cxOf CX P w K mg base N qual scope f cdv A outer s H E) body t ∧ t { nx := fun _ H' => Q .non H', rt := Q } (start N (vs ++ dvs)) H) :
    ∀ (A : Around) (outer : List Env) (s : Shared) (H : Hp) (us : List Value) (vs : List V) (Q : VK) (E : XK), G A → Room (k + 1) A →
      Env0 P w K mg base A outer s H → Vals vs us → sp vs H Q E → codeAny (model P w) A (.call (.ref f) ⟨us, []⟩) (CR CX outer P w H s Q E) s := by
  intro A outer s H us vs Q E hG hr e0 r hsp
  obtain ⟨fd, F⟩ := F
  have hB := hb fd F
  obtain ⟨oc, od, dV, kV, doc, pm, an, cdv, ct, osl, rfl, lk, hcd, _, _⟩ := F.ex
  have hl : us.length = n := by rw [← r.length]; exact len _ _ _ _ hsp
  obtain ⟨ds, rd, hbt⟩ := hB s us (e0.mod.kin.keeps fun b o e => (e0.bs b o e).1) hl
  refine StX.run_bnd lk hcd S hr e0 (G := fun ws H2 => ws = vs ++ dvs ∧ H2 = H) (fun A' Ex Q' h => ?_) fun s2 H2 ws hw hr' => ?_
  · refine hbt _ A' Ex _ ?_
    exact h s H (vs ++ dvs) (us ++ ds) e0 Un.refl rfl (fun _ _ z => z) (r.append rd) (by rw [List.length_append, len _ _ _ _ hsp, hn]) ⟨rfl, rfl⟩
  · obtain ⟨e1, e2⟩ := hw
    subst e1 e2
    exact hbody A outer s2 _ vs Q E cdv hG hr' hsp
/-- a def without defaults -/
theorem bindsR_all {fd : FuncData} (h : ∀ us : List Value, us.length = ps.length → bindArgs fd ⟨us, []⟩ = pure (ps.zip us)) : BindsR K fd ps ps.length [] := fun s us _ hl =>
  ⟨[], .nil, by rw [List.append_nil]; exact .of_eq (h us hl)⟩
end
section
variable {P : Program} {w : World} {K : PySem.W.Frag} {mg : Str → Option Value} {base : Heap} {CX : CXT} {k : Nat} {f : Addr} {sp : Sp} {x qual : Str} {params : Arguments} {body : List Stmt} {scope : Scope} {N ps : List Str}
/-- a def of the text keeps its promise (no defaults) -/
theorem fnR_of (F : ∃ fd, FunD K x qual params body scope [] [] f fd) (S : FnScope N ps scope)
    (hb : ∀ (kV doc pm : Value) (an : Option Addr) (cdv ct : Value) (us : List Value), us.length = ps.length → bindArgs (PySem.W.fnOf x qual params body scope .none kV doc pm an cdv ct) ⟨us, []⟩ = pure (ps.zip us))
    (len : ∀ vs H Q E, sp vs H Q E → vs.length = ps.length)
    (hbody : ∀ (A : Around) (outer : List Env) (s : Shared) (H : Hp) (vs : List V) (Q : VK) (E : XK) (cdv : Value), Room k (A.deeper (envOfC qual scope s.heap.objs.size f cdv)) → sp vs H Q E →
      ∃ t, PSs (cxOf CX P w K mg base N qual scope f cdv A outer s H E) body t ∧ t { nx := fun _ H' => Q .non H', rt := Q } (start N vs) H) :
    FnR P w K mg base CX (k + 1) f sp := fun A outer s H us vs Q E hr e0 r hs =>
  fn_any (G := fun _ => True) (n := ps.length) F S (fun fd F' => by
    obtain ⟨oc, od, dV, kV, doc, pm, an, cdv, ct, osl, rfl, lk, hcd, hd, _⟩ := F'.ex
    rcases hd with ⟨_, hd⟩ | ⟨hd, _⟩
    · subst hd
      exact bindsR_all (hb kV doc pm an cdv ct)
    · exact absurd rfl hd) len rfl (fun A outer s H vs Q E cdv _ hr' h => by rw [List.append_nil]; exact hbody A outer s H vs Q E cdv hr' h) A outer s H us vs Q E trivial hr e0 r hs
theorem fnG_of (F : ∃ fd, FunD K x qual params body scope [] [] f fd) (S : FnScope N ps scope)
    (hb : ∀ (kV doc pm : Value) (an : Option Addr) (cdv ct : Value) (us : List Value), us.length = ps.length → bindArgs (PySem.W.fnOf x qual params body scope .none kV doc pm an cdv ct) ⟨us, []⟩ = pure (ps.zip us))
    (len : ∀ vs H Q E, sp vs H Q E → vs.length = ps.length)
    (hbody : ∀ (A : Around) (outer : List Env) (s : Shared) (H : Hp) (vs : List V) (Q : VK) (E : XK) (cdv : Value), (A.deeper (envOfC qual scope s.heap.objs.size f cdv)).guards = some [] → Room k (A.deeper (envOfC qual scope s.heap.objs.size f cdv)) → sp vs H Q E →
      ∃ t, PSs (cxOf CX P w K mg base N qual scope f cdv A outer s H E) body t ∧ t { nx := fun _ H' => Q .non H', rt := Q } (start N vs) H) :
    FnG P w K mg base CX (k + 1) f sp := fun A outer s H us vs Q E hr hg e0 r hs =>
  fn_any (G := fun A => A.guards = some []) (n := ps.length) F S (fun fd F' => by
    obtain ⟨oc, od, dV, kV, doc, pm, an, cdv, ct, osl, rfl, lk, hcd, hd, _⟩ := F'.ex
    rcases hd with ⟨_, hd⟩ | ⟨hd, _⟩
    · subst hd
      exact bindsR_all (hb kV doc pm an cdv ct)
    · exact absurd rfl hd) len rfl (fun A outer s H vs Q E cdv hg hr' h => by rw [List.append_nil]; exact hbody A outer s H vs Q E cdv (guards_deeper hg) hr' h) A outer s H us vs Q E hg hr e0 r hs
/-- one default that fills up -/
theorem fnR_of1 {d : V} (F : ∃ fd, FunD K x qual params body scope [d] [] f fd) (S : FnScope N ps scope)
    (hb : ∀ fd, FunD K x qual params body scope [d] [] f fd → BindsR K fd ps 1 [d]) (hps : ps.length = 2)
    (len : ∀ vs H Q E, sp vs H Q E → vs.length = 1)
    (hbody : ∀ (A : Around) (outer : List Env) (s : Shared) (H : Hp) (vs : List V) (Q : VK) (E : XK) (cdv : Value), Room k (A.deeper (envOfC qual scope s.heap.objs.size f cdv)) → sp vs H Q E →
      ∃ t, PSs (cxOf CX P w K mg base N qual scope f cdv A outer s H E) body t ∧ t { nx := fun _ H' => Q .non H', rt := Q } (start N (vs ++ [d])) H) :
    FnR P w K mg base CX (k + 1) f sp := fun A outer s H us vs Q E hr e0 r hs =>
  fn_any (G := fun _ => True) (n := 1) F S hb len (by rw [hps]; rfl) (fun A outer s H vs Q E cdv _ hr' h => hbody A outer s H vs Q E cdv hr' h) A outer s H us vs Q E trivial hr e0 r hs
theorem bindsR_of1 {fd : FuncData} {d : V} {ds : List Value} (hb : Binds K fd ps ds) (hd : Vals [d] ds) (hps : ps.length = 2) : BindsR K fd ps 1 [d] := fun s us hK hl =>
  ⟨ds, hd, hb s us hK (by rw [List.length_append, hl, ← hd.length, hps]; rfl)⟩
/-- def f(*v) behind further parameters -/
theorem fnR_star {pv : Str} (F : ∃ fd, FunD K x qual params body scope [] [] f fd) (S : FnScope N (ps ++ [pv]) scope)
    (hb : ∀ (kV doc pm : Value) (an : Option Addr) (cdv ct : Value) (us rest : List Value), us.length = ps.length → bindArgs (PySem.W.fnOf x qual params body scope .none kV doc pm an cdv ct) ⟨us ++ rest, []⟩ = (newTuple rest >>= fun t => pure (ps.zip us ++ [(pv, t)])))
    (hbody : ∀ (A : Around) (outer : List Env) (s : Shared) (H : Hp) (vs : List V) (Q : VK) (E : XK) (cdv : Value), Room k (A.deeper (envOfC qual scope s.heap.objs.size f cdv)) → sp vs H Q E →
      ∃ t, PSs (cxOf (L2.CX P w) P w K mg base N qual scope f cdv A outer s H E) body t ∧ t { nx := fun _ H' => Q .non H', rt := Q } (start N vs) H) :
    FnR P w K mg base (L2.CX P w) (k + 1) f (fun vs H Q E => ∃ ws rest, vs = ws ++ rest ∧ ws.length = ps.length ∧ rest.length ≤ sizeLine ∧ ∀ p, H p = Option.none → sp (ws ++ [V.ref p]) (upd H p (.tup rest)) Q E) := by
  obtain ⟨fd, F⟩ := F
  obtain ⟨oc, od, dV, kV, doc, pm, an, cdv, ct, osl, rfl, lk, hcd, hd, _⟩ := F.ex
  rcases hd with ⟨_, hd⟩ | ⟨hd, _⟩
  · subst hd
    exact StX.fn_star lk hcd S StX.cxUp (hb kV doc pm an cdv ct) fun A outer s H vs Q E hr h => hbody A outer s H vs Q E cdv hr h
  · exact absurd rfl hd
end

/-! ### calls -/
section
variable {X : Cx} {CX : CXT} {k : Nat} {f C : Addr} {sp : Sp} {E : XK} {x m : Str} {p pos apos sp_ : Pos} {e o : Expr} {es : List Expr} {ta te : TE} {t : TA}
def tCallR (sp : Sp) (E : XK) (t : TA) : TE := fun σ H Q => t σ H fun vs H1 => sp vs H1 Q E
theorem pe_callR (F : FnR X.prog X.w X.K X.mg X.base CX k f sp) (hr : Room k X.A) (hk : PySem.W.keepIn X.K (.ref f) = true) (hg : Gl X x) (hm : X.mg x = some (.ref f)) (hx : Passes CX X E) (ha : PA X (e :: es) t) (hd : (x == ("__debug__" : Str)) = false := by decide)
    (he : starEach (e :: es) X.env = (false, eval e X.env) :: starEach es X.env := by rfl) (hst : (backTo pos (starEach es X.env)).any (·.1) = false := by rfl) :
    PE X (.Call (.Name x p) (e :: es) [] pos) (tCallR sp E t) := by
  refine ⟨fun pins s σ H Q I h => ?_⟩
  refine wpAny_Call_Name_kw (ld_glob I hg hm ?_ hd)
  exact PySem.W.callWith_K (h₀ := X.base) I.ok.mod.kin hk (thn (ha.run pos pins s σ H _ I h) fun us s1 ⟨vs, H1, I1, r, q⟩ => ⟨I1.kIn, wpAny_call (run_fnR F hr hx I1 r q)⟩) he hst
theorem pe_callR0 (F : FnR X.prog X.w X.K X.mg X.base CX k f sp) (hr : Room k X.A) (hk : PySem.W.keepIn X.K (.ref f) = true) (hg : Gl X x) (hm : X.mg x = some (.ref f)) (hx : Passes CX X E) (hd : (x == ("__debug__" : Str)) = false := by decide) :
    PE X (.Call (.Name x p) [] [] pos) (tCallR sp E tNil) := by
  refine ⟨fun pins s σ H Q I h => ?_⟩
  refine wpAny_Call_Name_kw (ld_glob I hg hm ?_ hd)
  exact PySem.W.callWith_K0 I.kIn hk (wpAny_call (run_fnR (us := []) F hr hx I .nil h))
theorem run_fnG {pins : List (Addr × Obj)} {σ : L2.St} {H : Hp} {s : Shared} {Q : VK} {us : List Value} {vs : List V} (F : FnG X.prog X.w X.K X.mg X.base CX k f sp) (hr : Room k X.A) (hgd : X.A.guards = some []) (hx : Passes CX X E) (I : Inv X pins σ H s) (r : Vals vs us) (h : sp vs H Q E) :
    codeAny (model X.prog X.w) X.A (.call (.ref f) ⟨us, []⟩) (fun r s' => match r with | .ok (.ret v) => EP X pins σ Q v s' | .ok _ => False | .error e => X.xe e s') s := by
  refine codeAny_mono (F X.A X.stack s H us vs Q E hr hgd I.env0 r h) fun r s' hq => ?_
  cases r with
  | error e => exact hx pins σ H s e s' I hq
  | ok fl => cases fl with
    | ret u => exact I.after hq
    | next => exact False.elim hq
    | brk => exact False.elim hq
    | cont => exact False.elim hq
theorem pe_callG (F : FnG X.prog X.w X.K X.mg X.base CX k f sp) (hr : Room k X.A) (hgd : X.A.guards = some []) (hk : PySem.W.keepIn X.K (.ref f) = true) (hg : Gl X x) (hm : X.mg x = some (.ref f)) (hx : Passes CX X E) (ha : PA X (e :: es) t) (hd : (x == ("__debug__" : Str)) = false := by decide)
    (he : starEach (e :: es) X.env = (false, eval e X.env) :: starEach es X.env := by rfl) (hst : (backTo pos (starEach es X.env)).any (·.1) = false := by rfl) :
    PE X (.Call (.Name x p) (e :: es) [] pos) (tCallR sp E t) := by
  refine ⟨fun pins s σ H Q I h => ?_⟩
  refine wpAny_Call_Name_kw (ld_glob I hg hm ?_ hd)
  exact PySem.W.callWith_K (h₀ := X.base) I.ok.mod.kin hk (thn (ha.run pos pins s σ H _ I h) fun us s1 ⟨vs, H1, I1, r, q⟩ => ⟨I1.kIn, wpAny_call (run_fnG F hr hgd hx I1 r q)⟩) he hst
/-- C() -/
theorem pe_makeR0 (M : Mk X.K C f) (F : FnR X.prog X.w X.K X.mg X.base CX k f sp) (hr : Room (k + 1) X.A) (hg : Gl X x) (hm : X.mg x = some (.ref C)) (hx : Passes CX X E) (hdb : (x == ("__debug__" : Str)) = false := by decide) :
    PE X (.Call (.Name x p) [] [] pos) (StX.tMakeR C sp E tNil) := by
  refine ⟨fun pins s σ H Q I h => ?_⟩
  refine wpAny_Call_Name_kw (ld_glob I hg hm ?_ hdb)
  exact PySem.W.callWith_K0 I.kIn M.kp (StX.run_makeR (us := []) M F hr hx I .nil h)
/-- C( *y) -/
def tMakeS1 (K : PySem.W.Frag) (C : Addr) (sp : Sp) (E : XK) (te : TE) : TE := fun σ H Q => te σ H fun y H1 => ∃ a xs, y = V.ref a ∧ (SqT K H1 a xs ∨ SqL K H1 a xs) ∧ ∀ x dx, H1 x = Option.none → H1 dx = Option.none → dx ≠ x →
  sp (V.ref x :: xs) (upd (upd H1 dx (.own x)) x (.ins C dx [])) (fun v H2 => v = .non ∧ Q (.ref x) H2) E
/-- a local name that holds the class -/
theorem pe_makeV1 {i : Nat} (M : Mk X.K C f) (F : FnR X.prog X.w X.K X.mg X.base CX k f sp) (hr : Room (k + 1) X.A) (hx : Passes CX X E) (he : PE X e te) (hf : PE X (.Name x p) (tVar i))
    (hst : starEach [.Starred e sp_] X.env = [(true, eval e X.env)] := by rfl)
    (ht : eval (.Call (.Name x p) [.Starred e sp_] [] pos) X.env = (do callWith pos (← eval (.Name x p) X.env) [] (backTo pos (starEach [.Starred e sp_] X.env)) (backToKw pos (keywordEach [] X.env))) := by rfl) :
    PE X (.Call (.Name x p) [.Starred e sp_] [] pos) (fun σ H Q => σ[i]? = some (some (.ref C)) ∧ tMakeS1 X.K C sp E te σ H Q) := by
  refine ⟨fun pins s σ H Q I h => ?_⟩
  obtain ⟨h0, h⟩ := h
  refine Call_ (thn (hf.run pins s σ H (fun v H1 => v = .ref C ∧ H1 = H) I ⟨_, h0, rfl, rfl⟩) fun u s1 z => ?_) ht
  obtain ⟨v, H1, I1, rv, ev, eH⟩ := z
  subst ev eH
  obtain rfl : u = Value.ref C := rv
  refine PySem.W.callWith_S (h₀ := X.base) I1.ok.mod.kin M.kp (thn (he.run pins s1 σ _ _ I1 h) fun u s2 z => ?_) hst
  obtain ⟨y, H2, I2, ry, a, xs, ey, hxs, q⟩ := z
  subst ey
  obtain rfl : u = Value.ref a := ry
  exact StX.star_any I2 hxs fun us s3 I3 rv => ⟨I3.kIn, StX.run_makeR M F hr hx I3 rv q⟩
/-- C( *y, e, ..), C a name of the module -/
theorem pe_makeS {rest : List Expr} (M : Mk X.K C f) (F : FnR X.prog X.w X.K X.mg X.base CX k f sp) (hr : Room (k + 1) X.A) (hg : Gl X x) (hm : X.mg x = some (.ref C)) (hx : Passes CX X E) (ha : PA X rest t) (hdb : (x == ("__debug__" : Str)) = false := by decide)
    (hst : (backTo pos (starEach rest X.env)).any (·.1) = true := by rfl) (hne : rest ≠ [] := by exact fun z => nomatch z)
    (hcw : ∀ {s : Shared} {Q : Value → Shared → Prop}, wpAny (model X.prog X.w) X.A (spliced (backTo pos (starEach rest X.env))) (fun vs s₁ => X.K.In s₁.heap ∧ wpAny (model X.prog X.w) X.A (call (.ref C) vs) Q X.xe s₁) X.xe s →
      wpAny (model X.prog X.w) X.A (callWith pos (.ref C) [] (backTo pos (starEach rest X.env)) []) Q X.xe s) :
    PE X (.Call (.Name x p) rest [] pos) (StX.tMakeR C sp E t) := by
  refine ⟨fun pins s σ H Q I h => ?_⟩
  refine wpAny_Call_Name_kw (ld_glob I hg hm ?_ hdb)
  exact hcw (thn (ha.run pos pins s σ H _ I h) fun us s1 ⟨vs, H1, I1, r, q⟩ => ⟨I1.kIn, StX.run_makeR M F hr hx I1 r q⟩)
/-- o.m() -/
theorem pe_methR0 {pl : Sem Bool} (he : PE X o ta) (c : Cls X.K C) (hm : Meth X.K C m f) (F : FnR X.prog X.w X.K X.mg X.base CX k f sp) (hr : Room k X.A) (hx : Passes CX X E)
    (ht : eval (.Call (.Attribute o m apos) [] [] pos) X.env = (do
      let ov ← eval o X.env
      standAt apos.atName
      let (f, first) ← holding [ov] (getMethod ov m pl)
      callWith pos f first (backTo pos (starEach [] X.env)) (backToKw pos (keywordEach [] X.env))) := by rfl) :
    PE X (.Call (.Attribute o m apos) [] [] pos) (tMethR C m sp E ta tNil) := by
  refine ⟨fun pins s σ H Q I h => ?_⟩
  refine PySem.W.methodCall_KW (pl := pl) (thn (he.run pins s σ H _ I h) fun u s1 z => ?_) ht
  obtain ⟨x, H1, I1, rx, a, dx, fs, ex, ea, l, q⟩ := z
  subst ex
  obtain rfl : u = Value.ref a := rx
  refine getmeth_ok I1 ea c hm l ?_
  exact PySem.W.callWith_K0 (first := [.ref a]) I1.kIn hm.kp (wpAny_call (run_fnR (us := [.ref a]) (vs := [.ref a]) F hr hx I1 (.cons rfl .nil) q))
/-- e.f, a property -/
def tPropR (C : Addr) (sp : Sp) (E : XK) (ta : TE) : TE := fun σ H Q => ta σ H fun x H1 => ∃ a dx fs, x = .ref a ∧ H1 a = some (.ins C dx fs) ∧ sp [.ref a] H1 Q E
theorem pe_propR {fn : Str} {pr : Addr} (he : PE X e ta) (c : Cls X.K C) (hp : PropOf X.K C fn pr f) (F : FnR X.prog X.w X.K X.mg X.base CX k f sp) (hr : Room (k + 1) X.A) (hx : Passes CX X.nox E)
    (hab : attributeBase e fn X.env (eval e X.env) = eval e X.env := by rfl) : PE X (.Attribute e fn pos) (tPropR C sp E ta) := by
  refine ⟨fun pins s σ H Q I h => ?_⟩
  refine attr_of hab (thn (he.run pins s σ H _ I h) fun u s1 z => ?_)
  obtain ⟨x, H1, I1, rx, a, dx, fs, ex, ea, q⟩ := z
  subst ex
  obtain rfl : u = Value.ref a := rx
  obtain ⟨mA, O, _, _, _, _⟩ := ins_get I1.hok ea
  obtain ⟨od, J, _⟩ := O.look
  obtain ⟨rest, hrec⟩ := hp.rec_
  have hc : (PySem.W.clsIn X.K C).isSome = true := by
    obtain ⟨cd, hc, _⟩ := PySem.W.any_some c.hd
    rw [hc]
    rfl
  have I2 := I1.tok (s1.toks + 1)
  refine PySem.W.get_bind I1.kIn J (PySem.W.plainGet_of (c.get fn)).1 (PySem.W.findObj_data hc hp.at_ hp.get hp.tak) (PySem.W.plainGet_of (c.get fn)).2 (wpAny_call (PySem.W.prop_get (s := { s1 with toks := s1.toks + 1 }) I1.kIn hrec ?_))
  refine codeAny_mono (F X.A.in1 X.stack { s1 with toks := s1.toks + 1 } H1 [.ref a] [.ref a] Q E hr.in1 I2.env0.in1 (.cons rfl .nil) q) fun r s' hq => ?_
  cases r with
  | error er => exact False.elim (hx pins σ H1 { s1 with toks := s1.toks + 1 } er s' (I2.wish _) hq)
  | ok fl => cases fl with
    | ret u =>
      obtain ⟨v, H', I3, rv, q3⟩ := I2.after hq
      show wpAny _ _ (handedOut u) _ _ _
      rw [PySem.W.handedOut_of (handed_of rv)]
      exact wpAny_pure ⟨v, H', I3, rv, q3⟩
    | next => exact False.elim hq
    | brk => exact False.elim hq
    | cont => exact False.elim hq
end
end My

set_option maxRecDepth 100000
set_option maxHeartbeats 4000000
namespace My
open PySem PySem.Spec PyProof.Rows L2

/-! ### an instance's own def of an operator -/
section
variable {X : Cx} {CX : CXT} {pins : List (Addr × Obj)} {σ : L2.St} {H : Hp} {s : Shared} {a C dx g : Addr} {fs : List (Str × V)} {n : Nat} {sp : Sp} {E : XK}
theorem run_below {A : Around} {Q : VK} {us : List Value} {ws : List V} (F : FnR X.prog X.w X.K X.mg X.base CX n g sp) (hr : Room n A) (e0 : Env0 X.prog X.w X.K X.mg X.base A X.stack s H) (hx : Passes CX X E) (I : Inv X pins σ H s) (r : Vals ws us) (h : sp ws H Q E) :
    wpAny (model X.prog X.w) A (call (.ref g) us) (EP X pins σ Q) X.xe s := by
  refine wpAny_call (codeAny_mono (F A X.stack s H us ws Q E hr e0 r h) fun r s' hq => ?_)
  cases r with
  | error e => exact hx pins σ H s e s' I hq
  | ok fl => cases fl with
    | ret u => exact I.after hq
    | next => exact False.elim hq
    | brk => exact False.elim hq
    | cont => exact False.elim hq
theorem ins_at (I : Inv X pins σ H s) (ea : H a = some (.ins C dx fs)) : ∃ od, PySem.W.InstAt s.heap a (PySem.W.instObj C dx) C (some od) := by
  obtain ⟨mA, O, _⟩ := ins_get I.hok ea
  obtain ⟨od, J, _⟩ := O.look
  exact ⟨od, J⟩
/-- v in o, v not in o -/
def rInOwn (C : Addr) (sp : Sp) (E : XK) (neg : Bool) : R2 := fun x y H Q => ∃ a dx fs, y = .ref a ∧ H a = some (.ins C dx fs) ∧ sp [y, x] H (fun z H' => ∃ b, z = .bl b ∧ Q (.bl (if neg then !b else b)) H') E
theorem op_inOwn (hs : PySem.W.findIn X.K (.ref C) "__contains__" = some (some (.ref g))) (hf : PySem.W.isFn X.K (.ref g) = true) (F : FnR X.prog X.w X.K X.mg X.base CX n g sp) (hr : Room n X.A) (hx : Passes CX X E) : OpR X (compareOp .In) (rInOwn C sp E false) := by
  intro pins s σ H x y v u Q I rx ry h
  obtain ⟨a, dx, fs, rfl, ea, q⟩ := h
  cases (show u = Value.ref a from ry)
  obtain ⟨od, J⟩ := ins_at I ea
  obtain ⟨m, hF⟩ := I.fr
  refine PySem.W.in_K hF I.ok.mod.kin J hs hf (thn (run_below (us := [.ref a, v]) (ws := [.ref a, x]) F hr I.env0 hx I (.cons rfl (.cons rx .nil)) q) fun w s' z => ?_)
  obtain ⟨z0, H', I', rz, b, ez, q'⟩ := z
  subst ez
  cases (show w = Value.bool b from rz)
  exact wpAny_truthy_bool ⟨.bl b, H', I', rfl, q'⟩
theorem op_notInOwn (hs : PySem.W.findIn X.K (.ref C) "__contains__" = some (some (.ref g))) (hf : PySem.W.isFn X.K (.ref g) = true) (F : FnR X.prog X.w X.K X.mg X.base CX n g sp) (hr : Room n X.A) (hx : Passes CX X E) : OpR X (compareOp .NotIn) (rInOwn C sp E true) := by
  intro pins s σ H x y v u Q I rx ry h
  obtain ⟨a, dx, fs, rfl, ea, q⟩ := h
  cases (show u = Value.ref a from ry)
  obtain ⟨od, J⟩ := ins_at I ea
  obtain ⟨m, hF⟩ := I.fr
  refine PySem.W.notIn_K hF I.ok.mod.kin J hs hf (thn (run_below (us := [.ref a, v]) (ws := [.ref a, x]) F hr I.env0 hx I (.cons rfl (.cons rx .nil)) q) fun w s' z => ?_)
  obtain ⟨z0, H', I', rz, b, ez, q'⟩ := z
  subst ez
  cases (show w = Value.bool b from rz)
  exact wpAny_truthy_bool ⟨.bl (!b), H', I', rfl, q'⟩
/-- o[i] -/
def rIxOwn (C : Addr) (sp : Sp) (E : XK) : R2 := fun x y H Q => ∃ a dx fs, x = .ref a ∧ H a = some (.ins C dx fs) ∧ sp [x, y] H Q E
theorem pe_ixOwn {o i : Expr} {ta tb : TE} {pos : Pos} (hs : PySem.W.findIn X.K (.ref C) "__getitem__" = some (some (.ref g))) (hf : PySem.W.isFn X.K (.ref g) = true) (hfn : PySem.W.fnIn X.K g = true)
    (F : FnR X.prog X.w X.K X.mg X.base CX n g sp) (hr : Room (n + 1) X.A) (hx : Passes CX X E) (ha : PE X o ta) (hb : PE X i tb)
    (hev : ∀ (s : Shared) (Q E' : Value → Shared → Prop), wpAny (model X.prog X.w) X.A (eval o X.env) (fun ov s1 => wpAny (model X.prog X.w) X.A (eval i X.env) (fun iv s2 => wpAny (model X.prog X.w) X.A (subscriptTail o i ov iv) Q E' s2) E' s1) E' s → wpAny (model X.prog X.w) X.A (eval (.Subscript o i pos) X.env) Q E' s)
    (hsl : ∀ x v : Value, subscripted i true x v = runValue (.builtin "lifetime.subscript" ⟨[x, v], []⟩)) :
    PE X (.Subscript o i pos) (tOp (rIxOwn C sp E) ta tb) := by
  refine ⟨fun pins s σ H Q I h => ?_⟩
  refine hev _ _ _ (thn (ha.run pins s σ H _ I h) fun ov s1 z => ?_)
  obtain ⟨x, H1, I1, rx, h1⟩ := z
  refine thn (hb.run pins s1 σ H1 _ I1 h1) fun iv s2 z => ?_
  obtain ⟨y, H2, I2, ry, a, dx, fs, rfl, ea, q⟩ := z
  cases (show ov = Value.ref a from rx)
  obtain ⟨od, J⟩ := ins_at I2 ea
  obtain ⟨m, hF⟩ := I2.fr
  exact PySem.W.sub_K hF I2.ok.mod.kin J hs hfn hf (run_below (us := [.ref a, iv]) (ws := [.ref a, y]) F hr.in1 I2.env0.in1 hx I2 (.cons rfl (.cons ry .nil)) q) (hsl _ _)
end

/-! ### x op y by x's own def, y of another kind -/
namespace Bo
open PySem.W Builtin
section
variable {prog : Program} {w : World} {A : Around} {E : Value → Shared → Prop} {s : Shared} {K : Frag} {x C L f : Addr} {h₀ : Heap} {m : Str → Option Value} {ox : Obj} {od : Option Obj}
theorem called_fn {M : Model} {h : Heap} {t : Value} {name : Str} {f : Addr} : Looks M h (calledByName t name (some (.ref f))) true := .now
theorem called_none {M : Model} {h : Heap} {t : Value} {name : Str} : Looks M h (calledByName t name none) false := .now
theorem inPy {M : Model} {h : Heap} {nm : String} {D g : Addr} (X : K.In h) (hs : findIn K (.ref D) (PySem.dunder nm) = some (some (.ref g))) (hr : findIn K (.ref D) (dunderR nm) = some none) : Looks M h (numberSlotInPython (.ref D) nm) true := by
  intro A Q E s k q
  unfold numberSlotInPython
  refine wpAny_bind (looks_findIn X hs A _ E s k ?_)
  refine wpAny_bind (called_fn A _ E s k ?_)
  refine wpAny_bind (looks_findIn X hr A _ E s k ?_)
  refine wpAny_bind (called_none A _ E s k ?_)
  exact wpAny_pure q
/-- y is an instance of another class (not below) that has a def for op too, neither class one for the reflected op -/
theorem binop2 {nm : String} {b : Value} {D g : Addr} {Q : Option Value → Shared → Prop} {cdC cdD : ClassData} {rC rD : List Value} (F : Fr h₀ L s.heap m) (X₀ : K.In h₀) (I : InstAt s.heap x ox C od) (hb : Looks (model prog w) s.heap (typeOf b) (.ref D)) (hne : C ≠ D)
    (hcC : clsIn K C = some cdC) (hmC : cdC.mro = .ref C :: rC) (hcD : clsIn K D = some cdD) (hmD : cdD.mro = .ref D :: rD)
    (hs : findIn K (.ref C) (PySem.dunder nm) = some (some (.ref f))) (hf : isFn K (.ref f) = true) (hsD : findIn K (.ref D) (PySem.dunder nm) = some (some (.ref g)))
    (hrC : findIn K (.ref C) (dunderR nm) = some none) (hrD : findIn K (.ref D) (dunderR nm) = some none) (hsub : subIn K (.ref D) (.ref C) = some false)
    (h : wpAny (model prog w) A (call (.ref f) [.ref x, b]) (fun v s' => v ≠ .notImplemented ∧ Q (some v) s') E s) : wpAny (model prog w) A (binaryOp1 nm (.ref x) b) Q E s := by
  have X := X₀.keeps F.keep
  have hn : (Value.ref C == Value.ref D) = false := by simp [hne]
  unfold binaryOp1
  refine wpAny_bind (I.type.here (wpAny_bind (hb.here (wpAny_bind ((fills_K X hcC hmC hs).here ?_)))))
  rw [hn]
  simp only [Bool.false_eq_true, if_false]
  refine wpAny_bind ((fills_K X hcD hmD hsD).here ?_)
  simp only [Bool.and_self, if_true]
  refine wpAny_bind (m := isSubtype (.ref D) (.ref C)) ((looks_subIn X hsub).here ?_)
  simp only [Bool.false_eq_true, if_false]
  simp only [Bool.false_eq_true, if_false, Bool.not_false, Bool.and_self, if_true]
  refine wpAny_bind (m := numberSlotInPython (.ref C) nm) ((inPy X hs hrC).here ?_)
  simp only [if_true]
  refine wpAny_bind (m := numberSlotInPython (.ref D) nm) ((inPy X hsD hrD).here ?_)
  simp only [Bool.not_true, Bool.false_eq_true, if_false]
  refine wpAny_bind (m := tryMethod (.ref x) (PySem.dunder nm) b) ?_
  unfold tryMethod
  refine wpAny_bind (special_fn X I hs (beq_iff_eq.mp hf) (wpAny_mono h (fun v s' hv => ?_) fun _ _ e => e))
  cases v <;> first | exact absurd rfl hv.1 | exact wpAny_pure (wpAny_pure hv.2)
end
end Bo
end My

set_option maxRecDepth 100000
set_option maxHeartbeats 4000000
namespace PySem
/-! enumerate(v), v anything that an iterator begins on -/
theorem my_enum_new {v : Value} {o : Obj} {H : Heap → Prop} (B : Begins v o H) :
    Meets (Builtin.«enumerate.__new__» ⟨[.type "enumerate", v], []⟩) (fun _ R s => H s.heap ∧
      R (.ok (.ret (.ref (s.heap.push o).objs.size)))
        { s with heap := (s.heap.push o).push { cls := .type "enumerate", data := .fields #[.none, .bool false, .ref s.heap.objs.size, rawInt 0, .none, .none] } }) :=
  .of_wp fun prog w A R s hh => by
    obtain ⟨hp, g, d, tk, os⟩ := s
    obtain ⟨h1, hq⟩ := hh
    have hsub := sub_enumerate
    have it : ∀ {A' : Around} {E : Value → Shared → Prop} {Q : Value → Shared → Prop}, Q (.ref hp.objs.size) ⟨hp.push o, g, d, tk, os⟩ →
        wpAny (model prog w) A' (pyIter v) Q E ⟨hp, g, d, tk, os⟩ := fun q => B.iter prog w _ _ ⟨hp, g, d, tk, os⟩ _ h1 q
    wp_walk using it
    refine wpAny_stack_any fun st => wpAny_pure ?_
    split
    · rename_i c _ _ _ _ _
      cases (c == Value.type "enumerate") <;> (wp_walk using it; exact ⟨_, rfl, hq⟩)
    · wp_walk using it
      exact ⟨_, rfl, hq⟩
theorem my_enum {prog : Program} {w : World} {A : Around} {E : Value → Shared → Prop} {s : Shared} {v : Value} {o : Obj} {H : Heap → Prop} {Q : Value → Shared → Prop} (B : Begins v o H) (h1 : H s.heap)
    (h : ∀ h', IsEnum h' (s.heap.objs.size + 1) s.heap.objs.size 0 .none → h'.get? s.heap.objs.size = some o → h'.objs.size = s.heap.objs.size + 2 →
      (∀ b u, s.heap.get? b = some u → h'.get? b = some u) → Q (.ref (s.heap.objs.size + 1)) { s with heap := h' }) :
    wpAny (model prog w) A (call (.type "enumerate") [v]) Q E s := by
  refine callType_new F.called_enumerate (by decide) (F.typeCall_enumerate_1 _) (F.newCall_enumerate_1 _) (fun obj => F.args_object_init_2 obj _) F.entry_enumerate_new (my_enum_new B) ⟨h1, ?_⟩
  have hz : (s.heap.push o).objs.size = s.heap.objs.size + 1 := Heap.size_push ..
  show _ ∧ _
  rw [hz]
  have he := Heap.get?_push_size (s.heap.push o) (o := { cls := .type "enumerate", data := .fields #[.none, .bool false, .ref s.heap.objs.size, rawInt 0, .none, .none] }) rfl
  rw [hz] at he
  refine ⟨⟨_, he, rfl⟩, h _ he (Heap.get?_push_of_some _ (Heap.get?_push_size _ B.free)) ?_ fun b u z => Heap.get?_push_of_some _ (Heap.get?_push_of_some _ z)⟩
  rw [Heap.size_push, hz]
end PySem
namespace My
open PySem PySem.Spec PyProof.Rows L2
/-! ### enumerate(tuple) -/
def IteT (K : PySem.W.Frag) (a : Addr) : It :=
  ⟨fun i H => ∃ (xs : List V) (x : V), SqT K H a xs ∧ xs[i]? = some x, fun i H v H' => ∃ T x, v = .ref T ∧ H T = none ∧ H' = upd H T (.tup [.int (i : Nat), x]) ∧ ∀ xs, SqT K H a xs → xs[i]? = some x,
    fun i H => ∃ xs : List V, SqT K H a xs ∧ xs.length = i⟩
theorem turn_enumT {P : Program} {w : World} {K : PySem.W.Frag} {elts : List Expr} {kk : Nat} {tpos : Pos} (a e it : Addr) :
    Turn P w K (.Tuple elts kk tpos) (IteT K a) [e, it] e (fun i h => (∃ old, IsEnum h e it ((i : Nat) : Int) old) ∧ h.IsTupleIter it a i ∧ e ≠ it ∧ a ≠ it ∧ a ≠ e) where
  mem := by simp
  obj := fun i h st b hb => by
    obtain ⟨⟨old, he⟩, ⟨o, ho, hc, hd⟩, _⟩ := st
    have e' : b = e ∨ b = it := by simpa using hb
    rcases e' with z | z
    · subst z
      exact ⟨_, he, fun v q => by cases q⟩
    · subst z
      exact ⟨o, ho, fun v q => by rw [hd] at q; cases q⟩
  keep := fun i h h' st k => by
    obtain ⟨⟨old, he⟩, hi, hne⟩ := st
    exact ⟨⟨old, k e (by simp) _ he⟩, hi.at fun o q => k it (by simp) o q, hne⟩
  item := by
    intro X hP hw hK hc i pins s σ H E I hf st hg
    subst hP hw hK
    obtain ⟨⟨old, he⟩, hit, hne, hai, hae⟩ := st
    obtain ⟨xs, x, hq, hx⟩ := hg
    obtain ⟨its, rv, p, hz⟩ := I.tuple hq
    obtain ⟨u, hu, ru⟩ := rv.get hx
    have hel : e < s.heap.objs.size := Heap.lt_size he
    have hil : it < s.heap.objs.size := by
      obtain ⟨_, q, _⟩ := hit
      exact Heap.lt_size q
    have hlt : i < its.toArray.size := by
      obtain ⟨h1, _⟩ := List.getElem?_eq_some_iff.mp hu
      simpa using h1
    have hal : a < s.heap.objs.size := p.lt
    refine wpAny_pyNext_enum_itemD (n := its.toArray.size) (Draws.tuple (by exact I.ok.hd hc) it a hai its.toArray) he ⟨hit, p⟩ hlt hne (by simp [hne, Ne.symm hae]) fun v h' tk hv ho hst hT hsz hk => ?_
    have ev : v = u := by
      have q : its[i]? = some v := by simpa using hv
      rw [hu] at q
      exact (Option.some.inj q).symm
    subst ev
    refine ⟨_, rfl, wpAny_letOwnedTupleGo_enum (s := { s with heap := h', toks := tk + 1 }) ho fun h'' he' sb => ?_⟩
    have hT2 : h''.get? s.heap.objs.size = some { cls := .type "tuple", data := .seq #[.int i tk, v] } := (sb.2 _ (Nat.ne_of_gt hel)).trans hT
    have new : ObjOk X.prog X.w (upd H s.heap.objs.size (.tup [.int (i : Nat), x])) h'' s.heap.objs.size (.tup [.int (i : Nat), x]) :=
      ⟨by show 2 ≤ sizeLine; decide, [.int i tk, v], .cons ⟨_, rfl⟩ (.cons ru .nil), ⟨_, hT2, rfl, _, rfl⟩⟩
    have I1 : Inv X pins σ (upd H s.heap.objs.size (.tup [.int (i : Nat), x])) { s with heap := h'', toks := tk + 1 } :=
      I.turnedNew (ch := [e, it]) (fun b ob hb q => by
        have b1 : b ≠ e := fun z => hb (by simp [z])
        have b2 : b ≠ it := fun z => hb (by simp [z])
        exact (sb.2 b b1).trans (hk b ob b1 b2 q)) hf (Nat.le_refl _) new
    refine ⟨.ref s.heap.objs.size, _, I1, rfl, ⟨_, x, rfl, I.hok.fresh (Nat.le_refl _), rfl, fun ys hy => by rw [I.tuple_inj hy hq]; exact hx⟩, ⟨⟨v, ?_⟩, hst.1.at fun o q => (sb.2 it (Ne.symm hne)).trans q, hne, hai, hae⟩, fun b hb => ?_⟩
    · have e1 : ((i + 1 : Nat) : Int) = (i : Int) + 1 := by omega
      rw [e1]
      exact he'
    · have hb' : b < s.heap.objs.size := by
        have e' : b = e ∨ b = it := by simpa using hb
        rcases e' with z | z
        · exact z ▸ hel
        · exact z ▸ hil
      rw [upd_ne (Nat.ne_of_lt hb')]
      exact (hf b hb).1
  done := by
    intro X hP hw hK hc i pins s σ H E I hf st hg
    subst hP hw hK
    obtain ⟨⟨old, he⟩, hit, hne, hai, hae⟩ := st
    obtain ⟨xs, hq, hx⟩ := hg
    obtain ⟨its, rv, p, hz⟩ := I.tuple hq
    obtain ⟨f0, f1, f2, f3, f4, f5⟩ := hf it (by simp)
    have hl := rv.length
    refine wpAny_pyNext_enum_endD (n := its.toArray.size) (Draws.tuple (by exact I.ok.hd hc) it a hai its.toArray) he ⟨?_, p⟩ fun h' eb => ⟨rfl, I.turned (t' := s.toks) (fun b o hb q => eb b o hb q) f0 f1 f3 f4 f5⟩
    have en : its.toArray.size = i := by simp; omega
    rw [en]
    exact hit
  self := fun A i s Q E st h => by
    obtain ⟨⟨_, he⟩, _⟩ := st
    exact wpAny_pyIter_enum he h
def iEnumA (K : PySem.W.Frag) (ta : TA) : TI := fun σ H R => ta σ H fun vs H1 => ∃ a xs, vs = [.ref a] ∧ ((SqL K H1 a xs ∧ R (Ite K a) H1) ∨ (SqT K H1 a xs ∧ R (IteT K a) H1))
theorem pi_enumA {X : Cx} {e : Expr} {ta : TA} {p pos tpos : Pos} {elts : List Expr} {kk : Nat} (hg : Gl X "enumerate") (hm : X.mg "enumerate" = none) (ha : PA X [e] ta) (hs : starEach [e] X.env = [(false, eval e X.env)] := by rfl) :
    PI X (.Tuple elts kk tpos) (.Call (.Name "enumerate" p) [e] [] pos) (iEnumA X.K ta) := by
  refine ⟨fun pins s σ H R I h => ?_⟩
  refine Call_ (ld_blt I hg hm boot_enumerate (PyProof.Rows.callWith_type1 (thn (ha.run pos pins s σ H _ I h) fun us s1 z => ?_) hs rfl))
  obtain ⟨vs, H1, I1, r1, a, xs, ex, q⟩ := z
  subst ex
  cases r1 with
  | cons r rr =>
    cases rr
    cases r
    have fp : ∀ b ∈ [s1.heap.objs.size + 1, s1.heap.objs.size], FpOk X pins H1 b := fun b hb => by
      have e' : b = s1.heap.objs.size + 1 ∨ b = s1.heap.objs.size := by simpa using hb
      have hle : s1.heap.objs.size ≤ b := by
        rcases e' with z | z
        · rw [z]
          exact Nat.le_succ _
        · rw [z]
          exact Nat.le_refl _
      exact I1.fpOk hle (I1.hok.fresh hle)
    rcases q with ⟨hq, q⟩ | ⟨hq, q⟩
    · obtain ⟨its, rv, p', hz⟩ := I1.list hq
      refine call_enumerate_list p'.isList fun h' he hit hsz hk => wpAny_pyIter_enum he ?_
      exact ⟨s1.heap.objs.size + 1, [s1.heap.objs.size + 1, s1.heap.objs.size], _, _, H1, rfl, I1.kept (t' := s1.toks) hk, turn_enum a (s1.heap.objs.size + 1) s1.heap.objs.size, ⟨⟨.none, he⟩, hit, Nat.succ_ne_self _⟩, fp, q⟩
    · obtain ⟨its, rv, p', hz⟩ := I1.tuple hq
      have hal : a < s1.heap.objs.size := p'.lt
      refine my_enum (begins_tuple a its.toArray) p' fun h' he hit hsz hk => wpAny_pyIter_enum he ?_
      exact ⟨s1.heap.objs.size + 1, [s1.heap.objs.size + 1, s1.heap.objs.size], _, _, H1, rfl, I1.kept (t' := s1.toks) hk, turn_enumT a (s1.heap.objs.size + 1) s1.heap.objs.size,
        ⟨⟨.none, he⟩, ⟨_, hit, rfl, rfl⟩, Nat.succ_ne_self _, Nat.ne_of_lt hal, Nat.ne_of_lt (Nat.lt_succ_of_lt hal)⟩, fp, q⟩
theorem for_enumT {K : PySem.W.Frag} {a : Addr} {xs : List V} {g : TG} {tb : TS} {D : Ends} {σ : L2.St} {H : Hp} (Pv : Nat → L2.St → Hp → Prop) (h0 : Pv 0 σ H) (hl : ∀ i σ H, i ≤ xs.length → Pv i σ H → SqT K H a xs)
    (hs : ∀ i x σ H T, xs[i]? = some x → Pv i σ H → H T = none → g (.ref T) σ (upd H T (.tup [.int (i : Nat), x])) fun σ2 H2 => tb { D with nx := Pv (i + 1), ct := Pv (i + 1), bk := D.nx } σ2 H2)
    (hd : ∀ σ H, Pv xs.length σ H → D.nx σ H) :
    ∃ W : Nat → Nat → L2.St → Hp → Prop, (∃ m, W 0 m σ H) ∧ ∀ i m σ H, W i m σ H →
      ((IteT K a).stop i H ∧ D.nx σ H) ∨ ((IteT K a).go i H ∧ ∃ N : L2.St → Hp → Prop, (∀ σ' H', N σ' H' → ∃ m', m' < m ∧ W (i + 1) m' σ' H') ∧ ∀ x H', (IteT K a).yld i H x H' → g x σ H' fun σ2 H2 => tb { D with nx := N, ct := N, bk := D.nx } σ2 H2) := by
  refine ⟨fun i m σ H => m = xs.length - i ∧ i ≤ xs.length ∧ Pv i σ H, ⟨xs.length, by simp, Nat.zero_le _, h0⟩, ?_⟩
  rintro i m σ H ⟨rfl, hi, p⟩
  have q := hl i σ H hi p
  by_cases hlt : i < xs.length
  · refine .inr ⟨⟨xs, xs[i], q, by simp [hlt]⟩, fun σ' H' => Pv (i + 1) σ' H', fun σ' H' z => ⟨xs.length - (i + 1), by omega, rfl, hlt, z⟩, ?_⟩
    rintro x H' ⟨T, y, rfl, hT, rfl, hy⟩
    exact hs i y σ H T (hy xs q) p hT
  · have e : i = xs.length := by omega
    subst e
    exact .inl ⟨⟨xs, q, rfl⟩, hd σ H p⟩
theorem for_enumL {K : PySem.W.Frag} {a : Addr} {xs : List V} {g : TG} {tb : TS} {D : Ends} {σ : L2.St} {H : Hp} (Pv : Nat → L2.St → Hp → Prop) (h0 : Pv 0 σ H) (hl : ∀ i σ H, i ≤ xs.length → Pv i σ H → SqL K H a xs)
    (hs : ∀ i x σ H T, xs[i]? = some x → Pv i σ H → H T = none → g (.ref T) σ (upd H T (.tup [.int (i : Nat), x])) fun σ2 H2 => tb { D with nx := Pv (i + 1), ct := Pv (i + 1), bk := D.nx } σ2 H2)
    (hd : ∀ σ H, Pv xs.length σ H → D.nx σ H) :
    ∃ W : Nat → Nat → L2.St → Hp → Prop, (∃ m, W 0 m σ H) ∧ ∀ i m σ H, W i m σ H →
      ((Ite K a).stop i H ∧ D.nx σ H) ∨ ((Ite K a).go i H ∧ ∃ N : L2.St → Hp → Prop, (∀ σ' H', N σ' H' → ∃ m', m' < m ∧ W (i + 1) m' σ' H') ∧ ∀ x H', (Ite K a).yld i H x H' → g x σ H' fun σ2 H2 => tb { D with nx := N, ct := N, bk := D.nx } σ2 H2) := by
  refine ⟨fun i m σ H => m = xs.length - i ∧ i ≤ xs.length ∧ Pv i σ H, ⟨xs.length, by simp, Nat.zero_le _, h0⟩, ?_⟩
  rintro i m σ H ⟨rfl, hi, p⟩
  have q := hl i σ H hi p
  by_cases hlt : i < xs.length
  · refine .inr ⟨⟨xs, xs[i], q, by simp [hlt]⟩, fun σ' H' => Pv (i + 1) σ' H', fun σ' H' z => ⟨xs.length - (i + 1), by omega, rfl, hlt, z⟩, ?_⟩
    rintro x H' ⟨T, y, rfl, hT, rfl, hy⟩
    exact hs i y σ H T (hy xs q) p hT
  · have e : i = xs.length := by omega
    subst e
    exact .inl ⟨⟨xs, q, Nat.le_refl _⟩, hd σ H p⟩

/-! ### unions, repr -/
section
variable {X : Cx}
def rMulS : R2 := fun x y H Q => ∃ (a : Str) (n : Int), x = .str a ∧ y = .int n ∧ 2 ≤ n ∧ n ≤ 1000 ∧ 0 < a.length ∧ a.length ≤ 1000 ∧ (⟨(List.replicate n.toNat a.cps).foldl (· ++ ·) #[]⟩ : Str).length ≤ sizeLine ∧ Q (.str ⟨(List.replicate n.toNat a.cps).foldl (· ++ ·) #[]⟩) H
theorem op_mulS : OpR X (binaryOp .Mult) rMulS := by
  intro pins s σ H x y v u Q I rx ry h
  obtain ⟨a, n, rfl, rfl, h2, h1000, h0, hl, hz, q⟩ := h
  obtain ⟨t, rfl⟩ := rx
  obtain ⟨t', rfl⟩ := ry
  have hn1 : ¬ n < 1 := by omega
  have hb1 : (n == 1 || a.length == 0) = false := by
    have e1 : (n == 1) = false := by simpa using (show n ≠ 1 by omega)
    have e2 : (a.length == 0) = false := by simpa using (show a.length ≠ 0 by omega)
    rw [e1, e2]
    rfl
  have hm : a.length * n.toNat ≤ 1000 * 1000 := Nat.mul_le_mul hl (by omega)
  refine P.mul_str ?_ (fun _ _ => ?_) (fun _ _ => ?_) ?_
  · have e1 : decide (n < -(2 ^ 63 : Int)) = false := decide_eq_false (by omega)
    have e2 : decide (n ≥ 2 ^ 63) = false := decide_eq_false (by omega)
    rw [e1, e2]
    rfl
  · have hd : (1000 : Int) ≤ (2 ^ 63 - 1) / n := by
      rw [Int.le_ediv_iff_mul_le (by omega)]
      omega
    omega
  · have z : a.length * n.toNat ≤ sizeLine := Nat.le_trans hm (by decide)
    first
      | exact decide_eq_false (Nat.not_lt.mpr z)
      | (unfold Builtin.tooLong; exact decide_eq_false (Nat.not_lt.mpr z))
      | (unfold Builtin.Str.tooLong; exact decide_eq_false (Nat.not_lt.mpr z))
  · rw [if_neg hn1, if_neg (by rw [hb1]; decide)]
    refine ⟨?_, .str _, H, I.tok _, ⟨_, rfl⟩, q⟩
    exact hz
def rReprD (K : PySem.W.Frag) : List V → Hp → VK → Prop := fun xs H Q => ∃ v d, xs = [v] ∧ Dp K H v d ∧ d.showable = true ∧ d.hasDict = false ∧ d.depth ≤ 40 ∧ d.shown.length ≤ sizeLine ∧ Q (.str d.shown) H
theorem call_reprD {k : Nat} (hr : Room k X.A) (hg : X.A.guards = some []) : CallR X (.builtin "repr") (rReprD X.K) := by
  intro pins s σ H xs us Q I r h
  obtain ⟨v, d, rfl, hd, hs, hk, hdep, hz, q⟩ := h
  cases r with
  | @cons _ u _ ur ru rr =>
    cases rr
    have hu := hr.units
    obtain ⟨as, hR⟩ := Dp.reads I d v u hd ru
    cases hd with
    | non =>
      cases (show u = Value.none from ru)
      exact PySem.P.repr_of_none ⟨.str _, H, I.tok _, ⟨_, rfl⟩, q⟩
    | bl b =>
      cases (show u = Value.bool b from ru)
      exact PySem.P.repr_of_bool ⟨.str _, H, I.tok _, ⟨_, rfl⟩, q⟩
    | int i =>
      obtain ⟨t, rfl⟩ := (show ∃ t, u = Value.int i t from ru)
      exact PySem.P.repr_of_int (by simpa [PyData.showable] using hs) ⟨.str _, H, I.tok _, ⟨_, rfl⟩, q⟩
    | str z =>
      obtain ⟨t, rfl⟩ := (show ∃ t, u = Value.str z t from ru)
      exact PySem.P.repr_of_str ⟨.str _, H, I.tok _, ⟨_, rfl⟩, q⟩ hz
    | @lst a ys ds h1 h2 =>
      cases (show u = Value.ref a from ru)
      exact repr_of_reads' hR hs (fun z => by rw [hk] at z; cases z) hg (by omega) (fun _ _ e => e) (fun h' u tk k => ⟨.str _, H, I.kept (t' := tk) k, ⟨_, rfl⟩, q⟩) hz
    | @tup a ys ds h1 h2 =>
      cases (show u = Value.ref a from ru)
      exact repr_of_reads' hR hs (fun z => by rw [hk] at z; cases z) hg (by omega) (fun _ _ e => e) (fun h' u tk k => ⟨.str _, H, I.kept (t' := tk) k, ⟨_, rfl⟩, q⟩) hz
end
end My

set_option maxRecDepth 100000
set_option maxHeartbeats 4000000
namespace My
open PySem PySem.Spec PyProof.Rows L2

/-! ### unions by name -/
section
variable {X : Cx}
def rAddU (K : PySem.W.Frag) : R2 := fun x y H Q => (∃ i j, x = .int i ∧ y = .int j ∧ Q (.int (i + j)) H) ∨ ((∃ i j, x = .str i ∧ y = .str j ∧ i.length + j.length ≤ sizeLine ∧ Q (.str (i ++ j)) H) ∨ (rCat x y H Q ∨ rCatA K x y H Q))
theorem op_addU : OpR X (binaryOp .Add) (rAddU X.K) := op_add.or (op_add_str.or (op_cat.or op_catA))
def rMulU : R2 := fun x y H Q => (∃ i j, x = .int i ∧ y = .int j ∧ CMul i j ∧ Q (.int (i * j)) H) ∨ rMulS x y H Q
theorem op_mulU : OpR X (binaryOp .Mult) rMulU := op_mul.or op_mulS
def rEqU (K : PySem.W.Frag) : R2 := fun x y H Q => rEq x y H Q ∨ rEqD K x y H Q
def rNeU (K : PySem.W.Frag) : R2 := fun x y H Q => rNe x y H Q ∨ rNeD K x y H Q
theorem op_eqU (hu : X.A.units + 64 < cLine) : OpR X (compareOp .Eq) (rEqU X.K) := op_eq.or (op_eqD hu)
theorem op_neU (hu : X.A.units + 64 < cLine) : OpR X (compareOp .NotEq) (rNeU X.K) := op_ne.or (op_neD hu)
def rLenU (K : PySem.W.Frag) : List V → Hp → VK → Prop := fun xs H Q => (∃ p ys, xs = [.ref p] ∧ (SqL K H p ys ∨ SqT K H p ys) ∧ Q (.int ys.length) H) ∨ (∃ z, xs = [.str z] ∧ z.length ≤ sizeLine ∧ Q (.int z.length) H)
theorem call_lenU : CallR X (.builtin "len") (rLenU X.K) := call_len_seq.or call_len_str
def rStrU : List V → Hp → VK → Prop := fun xs H Q => (∃ i, xs = [.int i] ∧ i.natAbs.log2 < 1920 ∧ Q (.str (toString i)) H) ∨ (∃ a, xs = [.str a] ∧ Q (.str a) H)
theorem call_strU : CallR X (.type "str") rStrU := call_str_int.or SkE.call_str_str
def rIntU : List V → Hp → VK → Prop := fun xs H Q => ((∃ i, xs = [.int i] ∧ Q (.int i) H) ∨ ∃ k, xs = [.bl k] ∧ Q (.int (if k then 1 else 0)) H) ∨ (∃ a n, xs = [.str a] ∧ PySem.intText? a = some n ∧ a.length ≤ 640 ∧ Q (.int n) H)
theorem call_intU : CallR X (.type "int") rIntU := call_int1.or call_int_str
def rSlU (K : PySem.W.Frag) : V → Option Int → Option Int → Hp → VK → Prop := fun x lo hi H Q => rSlL K x lo hi H Q ∨ (rSlS x lo hi H Q ∨ rSlA K x lo hi H Q)
theorem sl_any : SlR X (rSlU X.K) := sl_list.or (sl_str.or sl_tupA)
end

/-! ### readings, step by step -/
section
variable {K : PySem.W.Frag} {σ : L2.St} {H : Hp} {Q : VK} {QT : Bool → Hp → Prop} {QA : List V → Hp → Prop} {D : Ends} {ta tb te : TE} {t u : TT} {v x y : V} {r : R2} {tl : TA} {ts us : TS} {g : TG} {i j : Nat}
theorem r_var (h : σ[i]? = some (some v)) (q : Q v H) : tVar i σ H Q := ⟨v, h, q⟩
theorem r_c (q : Q v H) : tC v σ H Q := q
theorem r_op (h : ta σ H fun x H1 => tb σ H1 fun y H2 => r x y H2 Q) : tOp r ta tb σ H Q := h
theorem r_un {r : V → Hp → VK → Prop} (h : ta σ H fun x H1 => r x H1 Q) : tUn r ta σ H Q := h
theorem r_cb {r : List V → Hp → VK → Prop} (h : tl σ H fun vs H1 => r vs H1 Q) : tCB r tl σ H Q := h
theorem r_callR {sp : Sp} {E : XK} (h : tl σ H fun vs H1 => sp vs H1 Q E) : tCallR sp E tl σ H Q := h
theorem r_nil (q : QA [] H) : tNil σ H QA := q
theorem r_cons (h : ta σ H fun x H1 => tl σ H1 fun xs H2 => QA (x :: xs) H2) : tCons ta tl σ H QA := h
theorem r_tup (h : tl σ H fun xs H1 => xs.length ≤ sizeLine ∧ ∀ p, H1 p = none → Q (.ref p) (upd H1 p (.tup xs))) : tTup tl σ H Q := h
theorem r_lst (h : tl σ H fun xs H1 => xs.length ≤ sizeLine ∧ ∀ p, H1 p = none → Q (.ref p) (upd H1 p (.lst xs))) : tLst tl σ H Q := h
theorem r_dget (h : ta σ H fun x H1 => tb σ H1 fun y H2 => ∃ a v, x = .ref a ∧ DGet H2 a y (some v) ∧ Q v H2) : tDGet ta tb σ H Q := h
theorem r_test (h : ta σ H fun x H' => ∃ k, x = .bl k ∧ QT k H') : tTest ta σ H QT := h
theorem r_tB (h : ta σ H fun x H' => ∃ k, x = .bl k ∧ QT k H') : tB ta σ H QT := h
theorem r_not (h : t σ H fun c H1 => QT (!c) H1) : tNot t σ H QT := h
theorem r_notV (h : ta σ H fun x H1 => ∃ c, x = .bl c ∧ Q (.bl (!c)) H1) : tNotV ta σ H Q := h
theorem r_and (h : t σ H fun c H1 => if c = true then u σ H1 QT else QT false H1) : tAnd t u σ H QT := h
theorem r_or (h : t σ H fun c H1 => if c = true then QT true H1 else u σ H1 QT) : tOr t u σ H QT := h
theorem r_andV (h : ta σ H fun x H1 => ∃ c, x = .bl c ∧ if c = true then tb σ H1 Q else Q (.bl false) H1) : tAndV ta tb σ H Q := h
theorem r_orV (h : ta σ H fun x H1 => ∃ c, x = .bl c ∧ if c = true then Q (.bl true) H1 else tb σ H1 Q) : tOrV ta tb σ H Q := h
theorem r_if (h : t σ H fun c H1 => if c = true then ta σ H1 Q else tb σ H1 Q) : tIf t ta tb σ H Q := h
theorem r_sl {r : V → Option Int → Option Int → Hp → VK → Prop} {tl th : TO} (h : te σ H fun x H1 => tl σ H1 fun l H2 => th σ H2 fun u H3 => r x l u H3 Q) : tSl r te tl th σ H Q := h
theorem r_part {QO : Option Int → Hp → Prop} (h : ta σ H fun x H1 => ∃ i, x = .int i ∧ QO (some i) H1) : tPart ta σ H QO := h
theorem r_nopart {QO : Option Int → Hp → Prop} (h : QO none H) : tNoPart σ H QO := h
theorem r_bm {T : String} {r : V → List V → Hp → VK → Prop} (h : ta σ H fun x H1 => tyV K T x H1 ∧ tl σ H1 fun xs H2 => r x xs H2 Q) : tBM K T r ta tl σ H Q := h
theorem r_bm0 {T : String} {r : V → List V → Hp → VK → Prop} (h : ta σ H fun x H1 => tyV K T x H1 ∧ r x [] H1 Q) : tBM0 K T r ta σ H Q := h
theorem r_fld {f : Str} (h : ta σ H fun x H1 => ∃ a C dx fs v, x = .ref a ∧ H1 a = some (.ins C dx fs) ∧ Cls K C ∧ NoAttr K C f ∧ fs.lookup f = some v ∧ Q v H1) : tFld K ta f σ H Q := h
theorem r_propR {C : Addr} {sp : Sp} {E : XK} (h : ta σ H fun x H1 => ∃ a dx fs, x = .ref a ∧ H1 a = some (.ins C dx fs) ∧ sp [.ref a] H1 Q E) : tPropR C sp E ta σ H Q := h
theorem r_methR {C : Addr} {m : Str} {sp : Sp} {E : XK} (h : ta σ H fun x H1 => ∃ a dx fs, x = .ref a ∧ H1 a = some (.ins C dx fs) ∧ fs.lookup m = none ∧ tl σ H1 fun vs H2 => sp (x :: vs) H2 Q E) : tMethR C m sp E ta tl σ H Q := h
theorem r_makeR {C : Addr} {sp : Sp} {E : XK} (h : tl σ H fun vs H1 => ∀ x dx, H1 x = Option.none → H1 dx = Option.none → dx ≠ x → sp (V.ref x :: vs) (upd (upd H1 dx (.own x)) x (.ins C dx [])) (fun v H2 => v = .non ∧ Q (.ref x) H2) E) : StX.tMakeR C sp E tl σ H Q := h
theorem r_cmeth {C : Addr} {sp : Sp} {E : XK} (h : ta σ H fun x H1 => x = .ref C ∧ tl σ H1 fun vs H2 => sp (.ref C :: vs) H2 Q E) : ClX.tCMeth C sp E ta tl σ H Q := h
theorem r_star (h : ta σ H fun x H1 => ∃ p xs, x = V.ref p ∧ (SqT K H1 p xs ∨ SqL K H1 p xs) ∧ tl σ H1 fun ys H2 => QA (xs ++ ys) H2) : StX.tStar K ta tl σ H QA := h
theorem r_m0 {r : V → List V → Hp → VK → Prop} (h : ta σ H fun x H1 => (∃ a, x = .str a) ∧ r x [] H1 Q) : tM0 r ta σ H Q := h
theorem r_m1 {r : V → List V → Hp → VK → Prop} (h : ta σ H fun x H1 => (∃ a, x = .str a) ∧ tb σ H1 fun y H2 => r x [y] H2 Q) : tM1 r ta tb σ H Q := h
theorem r_chain {r r' : R2} {tc : TE} (h : ta σ H fun x H1 => tb σ H1 fun y H2 => r x y H2 fun z H3 => ∃ k, z = .bl k ∧ (if k = true then tc σ H3 fun w' H4 => r' y w' H4 Q else Q (.bl false) H3)) : tChain r r' ta tb tc σ H Q := h
-- statements
theorem r_cut (Mid : L2.St → Hp → Prop) (h : ts { D with nx := Mid } σ H) (k : ∀ σ' H', Mid σ' H' → us D σ' H') : C8.tCut ts us D σ H := ⟨Mid, h, k⟩
theorem r_seq (h : ts { D with nx := us D } σ H) : tSeq ts us D σ H := h
theorem r_next (h : D.nx σ H) : tNext D σ H := h
theorem r_drop (h : te σ H fun _ H1 => D.nx σ H1) : tDrop te D σ H := h
theorem r_ret (h : te σ H D.rt) : tRet te D σ H := h
theorem r_retN (h : D.rt .non H) : tRetN D σ H := h
theorem r_brk (h : D.bk σ H) : tBreak D σ H := h
theorem r_cont (h : D.ct σ H) : tCont D σ H := h
theorem r_ifS {tc : TT} (h : tc σ H fun b H1 => if b = true then ts D σ H1 else us D σ H1) : tIfS tc ts us D σ H := h
theorem r_asg (h : te σ H fun x H1 => g x σ H1 D.nx) : tAsg te g D σ H := h
theorem r_gname {QS : L2.St → Hp → Prop} (h : QS (σ.set i (some v)) H) : gName i v σ H QS := h
theorem r_par (h : tl σ H fun vs H1 => ∃ v w, vs = [v, w] ∧ D.nx ((σ.set i (some v)).set j (some w)) H1) : tPar i j tl D σ H := h
theorem r_gnil {QS : L2.St → Hp → Prop} (h : QS σ H) : gNil [] σ H QS := ⟨rfl, h⟩
theorem r_gcons {QS : L2.St → Hp → Prop} {gs : TGs} {vs : List V} (h : g v σ H fun σ' H' => gs vs σ' H' QS) : gCons g gs (v :: vs) σ H QS := ⟨v, vs, rfl, h⟩
theorem r_fldS {f : Str} {tv : TE} (h : tv σ H fun y H1 => ta σ H1 fun x H2 => ∃ a C dx fs, x = .ref a ∧ H2 a = some (.ins C dx fs) ∧ Cls K C ∧ NoAttr K C f ∧ fs.length < 1000 ∧ D.nx σ (upd H2 a (.ins C dx (putF f y fs)))) : sFld K ta tv f D σ H := h
theorem r_dput {tv : TE} (h : tv σ H fun v H1 => ta σ H1 fun x H2 => tb σ H2 fun y H3 => ∃ a H4, x = .ref a ∧ DPut H3 a y v H4 ∧ D.nx σ H4) : sDPut ta tb tv D σ H := h
theorem r_dgetV {a : Addr} {P : V → Prop} (h : DGet H a y (some v)) (q : P v) : ∃ b z, V.ref a = V.ref b ∧ DGet H b y (some z) ∧ P z := ⟨a, v, rfl, h, q⟩
theorem r_dputV {a : Addr} {H' : Hp} {P : Hp → Prop} (h : DPut H a y v H') (q : P H') : ∃ b H4, V.ref a = V.ref b ∧ DPut H b y v H4 ∧ P H4 := ⟨a, H', rfl, h, q⟩
theorem r_ex1 {α : Type} {a : α} {P : α → Prop} (q : P a) : ∃ b, a = b ∧ P b := ⟨a, rfl, q⟩
theorem r_gsub {s : TSet} {QS : L2.St → Hp → Prop} (h : ta σ H fun o H1 => tb σ H1 fun i H2 => s o i v H2 fun H3 => QS σ H3) : gSub ta tb s v σ H QS := h
-- by values
theorem r_I0 {f : Int → Int → V} {a b : Int} (q : Q (f a b) H) : rI0 f (.int a) (.int b) H Q := ⟨a, b, rfl, rfl, q⟩
theorem r_I {C : Int → Int → Prop} {f : Int → Int → V} {a b : Int} (c : C a b) (q : Q (f a b) H) : rI C f (.int a) (.int b) H Q := ⟨a, b, rfl, rfl, c, q⟩
theorem r_U {f : Int → V} {a : Int} (q : Q (f a) H) : rU f (.int a) H Q := ⟨a, rfl, q⟩
theorem r_addI {a b : Int} (q : Q (.int (a + b)) H) : rAddU K (.int a) (.int b) H Q := .inl ⟨a, b, rfl, rfl, q⟩
theorem r_addS {a b : Str} (c : a.length + b.length ≤ sizeLine) (q : Q (.str (a ++ b)) H) : rAddU K (.str a) (.str b) H Q := .inr (.inl ⟨a, b, rfl, rfl, c, q⟩)
theorem r_catL {p q : Addr} {xs ys : List V} (h1 : H p = some (.lst xs)) (h2 : H q = some (.lst ys)) (c : xs.length + ys.length ≤ sizeLine) (k : ∀ r, H r = none → Q (.ref r) (upd H r (.lst (xs ++ ys)))) : rAddU K (.ref p) (.ref q) H Q := .inr (.inr (.inl ⟨p, q, xs, ys, rfl, rfl, h1, h2, c, k⟩))
theorem r_mulI {a b : Int} (c : CMul a b) (q : Q (.int (a * b)) H) : rMulU (.int a) (.int b) H Q := .inl ⟨a, b, rfl, rfl, c, q⟩
theorem r_eqI {a b : Int} (q : Q (.bl (decide (a = b))) H) : rEqU K (.int a) (.int b) H Q := .inl ⟨rfl, by
  have e : decide (V.int a = V.int b) = decide (a = b) := by simp
  rw [e]
  exact q⟩
theorem r_eqS {a b : Str} (q : Q (.bl (decide (a = b))) H) : rEqU K (.str a) (.str b) H Q := .inl ⟨rfl, by
  have e : decide (V.str a = V.str b) = decide (a = b) := by simp
  rw [e]
  exact q⟩
theorem r_neI {a b : Int} (q : Q (.bl (!decide (a = b))) H) : rNeU K (.int a) (.int b) H Q := .inl ⟨rfl, by
  have e : decide (V.int a = V.int b) = decide (a = b) := by simp
  rw [e]
  exact q⟩
theorem r_neS {a b : Str} (q : Q (.bl (!decide (a = b))) H) : rNeU K (.str a) (.str b) H Q := .inl ⟨rfl, by
  have e : decide (V.str a = V.str b) = decide (a = b) := by simp
  rw [e]
  exact q⟩
theorem r_intI {a : Int} (q : Q (.int a) H) : rIntU [.int a] H Q := .inl (.inl ⟨a, rfl, q⟩)
theorem r_strI {a : Int} (c : a.natAbs.log2 < 1920) (q : Q (.str (toString a)) H) : rStrU [.int a] H Q := .inl ⟨a, rfl, c, q⟩
theorem r_strS {a : Str} (q : Q (.str a) H) : rStrU [.str a] H Q := .inr ⟨a, rfl, q⟩
theorem r_lenL {p : Addr} {ys : List V} (h : SqL K H p ys) (q : Q (.int ys.length) H) : rLenU K [.ref p] H Q := .inl ⟨p, ys, rfl, .inl h, q⟩
theorem r_lenT {p : Addr} {ys : List V} (h : SqT K H p ys) (q : Q (.int ys.length) H) : rLenU K [.ref p] H Q := .inl ⟨p, ys, rfl, .inr h, q⟩
theorem r_lenS {z : Str} (h : z.length ≤ sizeLine) (q : Q (.int z.length) H) : rLenU K [.str z] H Q := .inr ⟨z, rfl, h, q⟩
theorem r_ixL {p : Addr} {ys : List V} {n : Int} (h : SqL K H p ys) (e : atI ys n = some v) (q : Q v H) : rIx K (.ref p) (.int n) H Q := .inl ⟨p, ys, n, v, rfl, rfl, h, e, q⟩
theorem r_ixT {p : Addr} {ys : List V} {n : Int} (h : SqT K H p ys) (e : atI ys n = some v) (q : Q v H) : rIx K (.ref p) (.int n) H Q := .inr (.inl ⟨p, ys, n, v, rfl, rfl, h, e, q⟩)
theorem r_ixS {z : Str} {n : Int} {c : Nat} (h : z.length ≤ sizeLine) (e : atI z.cps.toList n = some c) (q : Q (.str ⟨#[c]⟩) H) : rIx K (.str z) (.int n) H Q := .inr (.inr ⟨z, n, c, rfl, rfl, h, e, q⟩)
theorem r_slL {p : Addr} {ys : List V} {lo hi : Option Int} (h : SqL K H p ys) (q : ∀ p, H p = none → Q (.ref p) (upd H p (.lst (cutV ys lo hi)))) : rSlU K (.ref p) lo hi H Q := .inl ⟨p, ys, rfl, h, q⟩
theorem r_slS {z : Str} {lo hi : Option Int} (h : z.length ≤ sizeLine) (q : Q (.str (cutS z lo hi)) H) : rSlU K (.str z) lo hi H Q := .inr (.inl ⟨z, rfl, h, q⟩)
theorem r_bl {b : Bool} {Qb : Bool → Prop} (q : Qb b) : ∃ k, V.bl b = V.bl k ∧ Qb k := ⟨b, rfl, q⟩
theorem r_int1 {n : Int} {Qb : Int → Prop} (q : Qb n) : ∃ k, V.int n = V.int k ∧ Qb k := ⟨n, rfl, q⟩
theorem r_two {v w : V} {P : V → V → Prop} (q : P v w) : ∃ a b, [v, w] = [a, b] ∧ P a b := ⟨v, w, rfl, q⟩
theorem r_ints1 {n : Int} {P : Int → Prop} (q : P n) : ∃ k, [V.int n] = [V.int k] ∧ P k := ⟨n, rfl, q⟩
theorem r_ints2 {n m : Int} {P : Int → Int → Prop} (q : P n m) : ∃ k l, [V.int n, V.int m] = [V.int k, V.int l] ∧ P k l := ⟨n, m, rfl, q⟩
theorem r_str1 {z : Str} {P : Prop} (q : P) : (∃ a, V.str z = V.str a) ∧ P := ⟨⟨z, rfl⟩, q⟩
theorem r_iteD {p A B : Prop} [Decidable p] (h1 : p → A) (h2 : ¬ p → B) : if decide p = true then A else B := by
  by_cases h : p
  · rw [if_pos (decide_eq_true h)]
    exact h1 h
  · rw [if_neg (by simpa using h)]
    exact h2 h
theorem r_iteN {p A B : Prop} [Decidable p] (h1 : ¬ p → A) (h2 : p → B) : if (!decide p) = true then A else B := by
  by_cases h : p
  · rw [if_neg (by simp [h])]
    exact h2 h
  · rw [if_pos (by simp [h])]
    exact h1 h
theorem r_iteT {A B : Prop} (h : A) : if true = true then A else B := by
  rw [if_pos rfl]
  exact h
theorem r_iteF {A B : Prop} (h : B) : if false = true then A else B := by
  rw [if_neg Bool.false_ne_true]
  exact h
theorem r_iteB {b : Bool} {A B : Prop} (h1 : b = true → A) (h2 : b = false → B) : if b = true then A else B := by
  cases b with
  | true => exact r_iteT (h1 rfl)
  | false => exact r_iteF (h2 rfl)
end

/-! ### what calls keep: all but the source of drawn numbers -/
def penlike : HO → Bool
  | .dK ((_, .ref _) :: _) => true
  | _ => false
structure Kp (H H' : Hp) : Prop where
  k : ∀ b o, penlike o = false → H b = some o → H' b = some o
  f : ∀ b, H' b = none → H b = none
theorem Kp.refl (H : Hp) : Kp H H := ⟨fun _ _ _ h => h, fun _ h => h⟩
theorem Kp.trans {H H1 H2 : Hp} (a : Kp H H1) (b : Kp H1 H2) : Kp H H2 := ⟨fun c o n h => b.k c o n (a.k c o n h), fun c h => a.f c (b.f c h)⟩
theorem Kp.new {H : Hp} {p : Addr} {o : HO} (h : H p = none) : Kp H (upd H p o) := ⟨fun a u _ e => by rw [upd_ne (ne_of_none e h)]; exact e, fun b e => by
  by_cases hb : b = p
  · rw [hb]
    exact h
  · rw [upd_ne hb] at e
    exact e⟩
/-- an object that H does not know may change -/
theorem Kp.mut {H H' : Hp} {p : Addr} {o : HO} (e : Kp H H') (h : H p = none) : Kp H (upd H' p o) := ⟨fun a u n ha => by rw [upd_ne (ne_of_none ha h)]; exact e.k a u n ha, fun b eb => by
  by_cases hb : b = p
  · rw [hb]
    exact h
  · rw [upd_ne hb] at eb
    exact e.f b eb⟩
theorem Kp.then {H H1 : Hp} {p : Addr} {o : HO} (e : Kp H H1) (h : H1 p = none) : Kp H (upd H1 p o) := e.trans (Kp.new h)
theorem Kp.l {H H' : Hp} (e : Kp H H') {p : Addr} {xs : List V} (h : H p = some (.lst xs)) : H' p = some (.lst xs) := e.k _ _ rfl h
theorem Kp.t {H H' : Hp} (e : Kp H H') {p : Addr} {xs : List V} (h : H p = some (.tup xs)) : H' p = some (.tup xs) := e.k _ _ rfl h
theorem Kp.i {H H' : Hp} (e : Kp H H') {p C dx : Addr} {fs : List (Str × V)} (h : H p = some (.ins C dx fs)) : H' p = some (.ins C dx fs) := e.k _ _ rfl h
theorem Kp.rdL {K : PySem.W.Frag} {H H' : Hp} (e : Kp H H') {p : Addr} {xs : List V} (h : SqL K H p xs) : SqL K H' p xs := by
  rcases h with (h | ⟨o, h⟩) | h
  · exact .inl (.inl (e.k _ _ rfl h))
  · exact .inl (.inr ⟨o, e.k _ _ rfl h⟩)
  · exact .inr h
theorem Kp.rdT {K : PySem.W.Frag} {H H' : Hp} (e : Kp H H') {p : Addr} {xs : List V} (h : SqT K H p xs) : SqT K H' p xs := by
  rcases h with (h | ⟨o, h⟩) | h
  · exact .inl (.inl (e.k _ _ rfl h))
  · exact .inl (.inr ⟨o, e.k _ _ rfl h⟩)
  · exact .inr h
mutual
theorem Kp.dp {K : PySem.W.Frag} {H H' : Hp} (e : Kp H H') : ∀ (d : PyData) (v : V), Dp K H v d → Dp K H' v d
  | _, _, .non => .non
  | _, _, .bl b => .bl b
  | _, _, .int i => .int i
  | _, _, .str x => .str x
  | .list ds, _, .lst h a => .lst (e.rdL h) (Kp.dpAll e ds _ a)
  | .tuple ds, _, .tup h a => .tup (e.rdT h) (Kp.dpAll e ds _ a)
theorem Kp.dpAll {K : PySem.W.Frag} {H H' : Hp} (e : Kp H H') : ∀ (ds : List PyData) (vs : List V), DpAll K H vs ds → DpAll K H' vs ds
  | _, _, .nil => .nil
  | d :: ds, _, .cons h r => .cons (Kp.dp e d _ h) (Kp.dpAll e ds _ r)
end

/-! ### the source of drawn numbers -/
def penKV (c : Addr) (b r : Int) : List (Key × V) := [(.inr "cells", .ref c), (.inr "begun", .int b), (.inr "rest", .int r)]
structure PenD (H : Hp) (a c : Addr) (ns : List Int) (b r : Int) : Prop where
  d : H a = some (.dK (penKV c b r))
  c : H c = some (.lst (ns.map V.int))
/-- the source: its dict, its list of cells, the cells -/
structure PenI where
  a : Addr
  c : Addr
  ns : List Int
def Pen (H : Hp) (z : PenI) (n : Nat) : Prop := ∃ b r, PenD H z.a z.c z.ns b r ∧ 0 ≤ b ∧ b ≤ n ∧ 0 ≤ r
theorem PenD.cells {H : Hp} {a c : Addr} {ns : List Int} {b r : Int} (p : PenD H a c ns b r) : DGet H a (.str "cells") (some (.ref c)) := by
  have h := DGet.k (k := .inr "cells") p.d
  exact h
theorem PenD.begun {H : Hp} {a c : Addr} {ns : List Int} {b r : Int} (p : PenD H a c ns b r) : DGet H a (.str "begun") (some (.int b)) := by
  have h := DGet.k (k := .inr "begun") p.d
  exact h
theorem PenD.rest {H : Hp} {a c : Addr} {ns : List Int} {b r : Int} (p : PenD H a c ns b r) : DGet H a (.str "rest") (some (.int r)) := by
  have h := DGet.k (k := .inr "rest") p.d
  exact h
theorem PenD.putBegun {H : Hp} {a c : Addr} {ns : List Int} {b r : Int} (p : PenD H a c ns b r) (b' : Int) : DPut H a (.str "begun") (.int b') (upd H a (.dK (penKV c b' r))) := by
  have h := DPut.k (k := .inr "begun") (v := .int b') p.d (by show 3 < sizeLine; decide)
  exact h
theorem PenD.putRest {H : Hp} {a c : Addr} {ns : List Int} {b r : Int} (p : PenD H a c ns b r) (r' : Int) : DPut H a (.str "rest") (.int r') (upd H a (.dK (penKV c b r'))) := by
  have h := DPut.k (k := .inr "rest") (v := .int r') p.d (by show 3 < sizeLine; decide)
  exact h
theorem PenD.upd {H : Hp} {a c : Addr} {ns : List Int} {b r : Int} (p : PenD H a c ns b r) (b' r' : Int) : PenD (L2.upd H a (.dK (penKV c b' r'))) a c ns b' r' :=
  ⟨upd_same, by rw [upd_ne (ne_of p.c p.d (by intro q; cases q))]; exact p.c⟩
theorem PenD.kp {H : Hp} {a c : Addr} {ns : List Int} {b r : Int} (p : PenD H a c ns b r) (b' r' : Int) : Kp H (L2.upd H a (.dK (penKV c b' r'))) :=
  ⟨fun x o n h => by
    have hx : x ≠ a := fun z => by
      rw [z, p.d] at h
      cases h
      cases n
    rw [upd_ne hx]
    exact h, fun x h => by
    by_cases hx : x = a
    · rw [hx, upd_same] at h
      cases h
    · rw [upd_ne hx] at h
      exact h⟩
theorem Kp.penD {H : Hp} {a c p : Addr} {ns : List Int} {b r : Int} {o : HO} (d : PenD H a c ns b r) (h : H p = none) : PenD (L2.upd H p o) a c ns b r :=
  ⟨by rw [upd_ne (ne_of_none d.d h)]; exact d.d, by rw [upd_ne (ne_of_none d.c h)]; exact d.c⟩
theorem Pen.new {H : Hp} {z : PenI} {p : Addr} {n : Nat} {o : HO} (d : Pen H z n) (h : H p = none) : Pen (L2.upd H p o) z n := by
  obtain ⟨b, r, d, y⟩ := d
  exact ⟨b, r, Kp.penD d h, y⟩
/-- a list, an instance .. that is no part of the source changes -/
theorem Pen.mut {H : Hp} {z : PenI} {p : Addr} {n : Nat} {o : HO} (d : Pen H z n) (h1 : p ≠ z.a) (h2 : p ≠ z.c) : Pen (L2.upd H p o) z n := by
  obtain ⟨b, r, d, y⟩ := d
  exact ⟨b, r, ⟨by rw [upd_ne (Ne.symm h1)]; exact d.d, by rw [upd_ne (Ne.symm h2)]; exact d.c⟩, y⟩
theorem Pen.mono {H : Hp} {z : PenI} {n m : Nat} (d : Pen H z n) (h : n ≤ m) : Pen H z m := by
  obtain ⟨b, r, d, z1, z2, z3⟩ := d
  exact ⟨b, r, d, z1, by omega, z3⟩
theorem Pen.free {H : Hp} {z : PenI} {p : Addr} {n : Nat} (d : Pen H z n) (h : H p = none) : p ≠ z.a ∧ p ≠ z.c := by
  obtain ⟨b, r, d, y⟩ := d
  exact ⟨(ne_of_none d.d h).symm, (ne_of_none d.c h).symm⟩
/-- a call is done: what it gives, at most c more cells begun, all else kept -/
def Aft (z : PenI) (H : Hp) (n c : Nat) (R : V → Hp → Prop) (Q : VK) : Prop := ∀ v n' H', R v H' → n' ≤ n + c → Kp H H' → Pen H' z n' → Q v H'
end My
namespace My
open PySem PySem.Spec PyProof.Rows L2
section
variable {K : PySem.W.Frag} {H : Hp} {Q : VK}
theorem dpAll_ints : ∀ ns : List Int, DpAll K H (ns.map V.int) (ns.map PyData.int)
  | [] => .nil
  | n :: ns => .cons (.int n) (dpAll_ints ns)
/-- a list of ints against a new empty one -/
theorem r_neL0 {p q : Addr} {ns : List Int} (h : SqL K H p (ns.map V.int)) (h0 : SqL K H q []) (k : Q (.bl (decide (ns ≠ []))) H) : rNeU K (.ref p) (.ref q) H Q := by
  refine .inr ⟨.list (ns.map PyData.int), .list [], .lst h (dpAll_ints ns), .lst h0 .nil, PySem.W.ke_shaped_ints ns, PySem.W.ke_shaped_ints [], ?_⟩
  have e : (!PyData.eqv (.list (ns.map PyData.int)) (.list [])) = decide (ns ≠ []) := by
    cases ns with
    | nil => rfl
    | cons n r => rfl
  rw [e]
  exact k
theorem atI_mod {α : Type} {xs : List α} {i : Int} (h : xs ≠ []) : ∃ v, atI xs (i % (xs.length : Int)) = some v ∧ v ∈ xs := by
  have hl : 0 < xs.length := List.length_pos_iff.mpr h
  have h0 := Int.emod_nonneg i (show (xs.length : Int) ≠ 0 by omega)
  have h1 := Int.emod_lt_of_pos i (show (0 : Int) < xs.length by omega)
  obtain ⟨j, hj⟩ : ∃ j : Nat, i % (xs.length : Int) = (j : Int) := ⟨(i % (xs.length : Int)).toNat, by omega⟩
  have hjl : j < xs.length := by omega
  exact ⟨xs[j], by rw [hj]; exact atI_nat (by simp [hjl]), List.getElem_mem hjl⟩
theorem atI_in {α : Type} {xs : List α} {i : Int} (h0 : 0 ≤ i) (h1 : i < xs.length) : ∃ v, atI xs i = some v ∧ xs[i.toNat]? = some v ∧ v ∈ xs := by
  obtain ⟨j, hj⟩ : ∃ j : Nat, i = (j : Int) := ⟨i.toNat, by omega⟩
  subst hj
  have hjl : j < xs.length := by omega
  exact ⟨xs[j], atI_nat (by simp [hjl]), by simp [hjl], List.getElem_mem hjl⟩
end
end My
namespace My
open PySem PySem.Spec PyProof.Rows L2
section
variable {K : PySem.W.Frag} {σ : L2.St} {H : Hp} {Q : VK} {D : Ends} {ta : TA} {te : TE} {tb : TS} {wi : TI} {g : TG} {tt : TT}
theorem r_for (h : wi σ H fun J H1 => ∃ W : Nat → Nat → L2.St → Hp → Prop, (∃ m, W 0 m σ H1) ∧ ∀ i m σ H, W i m σ H →
  (J.stop i H ∧ D.nx σ H) ∨ (J.go i H ∧ ∃ N : L2.St → Hp → Prop, (∀ σ' H', N σ' H' → ∃ m', m' < m ∧ W (i + 1) m' σ' H') ∧ ∀ x H', J.yld i H x H' → g x σ H' fun σ2 H2 => tb { D with nx := N, ct := N, bk := D.nx } σ2 H2)) : tFor wi g tb D σ H := h
theorem r_lc {vs : List Nat} (h : wi σ H fun J H1 => ∀ D, H1 D = none → ∃ W : Nat → Nat → Hp → Prop, (∃ m, W 0 m (upd H1 D (.lst []))) ∧ ∀ i m H, W i m H →
  (J.stop i H ∧ Q (.ref D) H) ∨ (J.go i H ∧ ∃ Nx : Hp → Prop, (∀ H', Nx H' → ∃ m', m' < m ∧ W (i + 1) m' H') ∧ ∀ x H', J.yld i H x H' → g x (wipe σ vs) H' fun σ2 H2 => wipe σ2 vs = wipe σ vs ∧ tt σ2 H2 fun b H3 =>
    if b = true then te σ2 H3 fun y H4 => ∃ acc, H4 D = some (.lst acc) ∧ acc.length < sizeLine ∧ Nx (upd H4 D (.lst (acc ++ [y]))) else Nx H3)) : tLc wi g tt te vs σ H Q := h
theorem r_rng1 {R : It → Hp → Prop} (h : ta σ H fun vs H1 => ∃ j : Int, vs = [.int j] ∧ -(2 ^ 62) ≤ j ∧ j < 2 ^ 62 ∧ R (Itr 0 j.toNat) H1) : iRng1 ta σ H R := h
theorem r_rng2 {R : It → Hp → Prop} (h : ta σ H fun vs H1 => ∃ i j : Int, vs = [.int i, .int j] ∧ (-(2 ^ 62) ≤ i ∧ i < 2 ^ 62 ∧ -(2 ^ 62) ≤ j ∧ j < 2 ^ 62) ∧ R (Itr i (j - i).toNat) H1) : iRng2 ta σ H R := h
theorem r_enumA {R : It → Hp → Prop} (h : ta σ H fun vs H1 => ∃ a xs, vs = [.ref a] ∧ ((SqL K H1 a xs ∧ R (Ite K a) H1) ∨ (SqT K H1 a xs ∧ R (IteT K a) H1))) : iEnumA K ta σ H R := h
/-- range(n), the turns told by i -/
theorem for_rng {n : Nat} {j : Int} (e : j.toNat = n) (Pv : Nat → L2.St → Hp → Prop) (h0 : Pv 0 σ H)
    (hs : ∀ (i : Nat) σ H, i < n → Pv i σ H → g (.int i) σ H fun σ2 H2 => tb { D with nx := Pv (i + 1), ct := Pv (i + 1), bk := D.nx } σ2 H2) (hd : ∀ σ H, Pv n σ H → D.nx σ H) :
    ∃ W : Nat → Nat → L2.St → Hp → Prop, (∃ m, W 0 m σ H) ∧ ∀ i m σ H, W i m σ H →
      ((Itr 0 j.toNat).stop i H ∧ D.nx σ H) ∨ ((Itr 0 j.toNat).go i H ∧ ∃ N : L2.St → Hp → Prop, (∀ σ' H', N σ' H' → ∃ m', m' < m ∧ W (i + 1) m' σ' H') ∧ ∀ x H', (Itr 0 j.toNat).yld i H x H' → g x σ H' fun σ2 H2 => tb { D with nx := N, ct := N, bk := D.nx } σ2 H2) := by
  rw [e]
  exact for_range Pv h0 (fun i σ H hi p => by rw [Int.zero_add]; exact hs i σ H hi p) hd
theorem lc_rng {n : Nat} {j : Int} (e : j.toNat = n) {H1 : Hp} {D : Addr} {vs : List Nat} {Qd : Hp → Prop} (Pv : Nat → Hp → Prop) (h0 : Pv 0 (upd H1 D (.lst [])))
    (hs : ∀ (i : Nat) H, i < n → Pv i H → g (.int i) (wipe σ vs) H fun σ2 H2 => wipe σ2 vs = wipe σ vs ∧ tt σ2 H2 fun b H3 =>
      if b = true then te σ2 H3 fun y H4 => ∃ acc, H4 D = some (.lst acc) ∧ acc.length < sizeLine ∧ Pv (i + 1) (upd H4 D (.lst (acc ++ [y]))) else Pv (i + 1) H3) (hd : ∀ H, Pv n H → Qd H) :
    ∃ W : Nat → Nat → Hp → Prop, (∃ m, W 0 m (upd H1 D (.lst []))) ∧ ∀ i m H, W i m H →
      ((Itr 0 j.toNat).stop i H ∧ Qd H) ∨ ((Itr 0 j.toNat).go i H ∧ ∃ Nx : Hp → Prop, (∀ H', Nx H' → ∃ m', m' < m ∧ W (i + 1) m' H') ∧ ∀ x H', (Itr 0 j.toNat).yld i H x H' → g x (wipe σ vs) H' fun σ2 H2 => wipe σ2 vs = wipe σ vs ∧ tt σ2 H2 fun b H3 =>
        if b = true then te σ2 H3 fun y H4 => ∃ acc, H4 D = some (.lst acc) ∧ acc.length < sizeLine ∧ Nx (upd H4 D (.lst (acc ++ [y]))) else Nx H3) := by
  rw [e]
  exact lc_range Pv h0 (fun i H hi p => by rw [Int.zero_add]; exact hs i H hi p) hd
end
/-! ### a list under construction, with draws in between -/
structure Acc (z : PenI) (H0 H : Hp) (n : Nat) (p : Addr) (xs : List V) : Prop where
  kp : Kp H0 H
  pen : Pen H z n
  new : H0 p = none
  l : H p = some (.lst xs)
  ne : p ≠ z.c
theorem Pen.ne {H : Hp} {z : PenI} {n : Nat} {p : Addr} {xs : List V} (d : Pen H z n) (h : H p = some (.lst xs)) : p ≠ z.a := fun e => by
  obtain ⟨b, r, d, _⟩ := d
  rw [e, d.d] at h
  cases h
theorem Acc.start {z : PenI} {H0 H : Hp} {n : Nat} {p : Addr} {xs : List V} (k : Kp H0 H) (d : Pen H z n) (h : H p = none) : Acc z H0 (upd H p (.lst xs)) n p xs :=
  ⟨k.then h, d.new h, k.f _ h, upd_same, (d.free h).2⟩
theorem Acc.put {z : PenI} {H0 H : Hp} {n : Nat} {p : Addr} {xs : List V} (a : Acc z H0 H n p xs) (ys : List V) : Acc z H0 (upd H p (.lst ys)) n p ys :=
  ⟨a.kp.mut a.new, a.pen.mut (a.pen.ne a.l) a.ne, a.new, upd_same, a.ne⟩
theorem Acc.go {z : PenI} {H0 H H1 : Hp} {n m : Nat} {p : Addr} {xs : List V} (a : Acc z H0 H n p xs) (k : Kp H H1) (d : Pen H1 z m) : Acc z H0 H1 m p xs :=
  ⟨a.kp.trans k, d, a.new, k.l a.l, a.ne⟩
theorem Acc.newO {z : PenI} {H0 H : Hp} {n : Nat} {p q : Addr} {xs : List V} {o : HO} (a : Acc z H0 H n p xs) (h : H q = none) : Acc z H0 (upd H q o) n p xs := a.go (Kp.new h) (a.pen.new h)
theorem Acc.mono {z : PenI} {H0 H : Hp} {n m : Nat} {p : Addr} {xs : List V} (a : Acc z H0 H n p xs) (h : n ≤ m) : Acc z H0 H m p xs := ⟨a.kp, a.pen.mono h, a.new, a.l, a.ne⟩
section
variable {X : Cx} {tg e : Expr} {te : TE} {wi wj : TI} {σ : L2.St} {H : Hp} {R : It → Hp → Prop}
theorem pi_or (a : PI X tg e wi) (b : PI X tg e wj) : PI X tg e (fun σ H R => wi σ H R ∨ wj σ H R) := ⟨fun pins s σ H R I h => h.elim (fun h => a.run pins s σ H R I h) (fun h => b.run pins s σ H R I h)⟩
def iAny (K : PySem.W.Frag) (te : TE) : TI := fun σ H R => iList K te σ H R ∨ (iTup K te σ H R ∨ iStr te σ H R)
theorem pi_any (h : PE X e te) : PI X tg e (iAny X.K te) := pi_or (pi_list h) (pi_or (pi_tup h) (pi_str h))
theorem r_iL {K : PySem.W.Frag} (h : te σ H fun x H1 => ∃ a, x = .ref a ∧ (∃ xs, SqL K H1 a xs) ∧ R (Itl K a) H1) : iAny K te σ H R := .inl h
theorem r_iT {K : PySem.W.Frag} (h : te σ H fun x H1 => ∃ a, x = .ref a ∧ (∃ xs, SqT K H1 a xs) ∧ R (Itt K a) H1) : iAny K te σ H R := .inr (.inl h)
theorem r_iS {K : PySem.W.Frag} (h : te σ H fun v H1 => ∃ x, v = .str x ∧ R (Its x) H1) : iAny K te σ H R := .inr (.inr h)
theorem r_iLv {K : PySem.W.Frag} {a : Addr} {xs : List V} (hl : SqL K H a xs) (h : R (Itl K a) H) : ∃ b, V.ref a = V.ref b ∧ (∃ xs, SqL K H b xs) ∧ R (Itl K b) H := ⟨a, rfl, ⟨xs, hl⟩, h⟩
theorem r_iTv {K : PySem.W.Frag} {a : Addr} {xs : List V} (hl : SqT K H a xs) (h : R (Itt K a) H) : ∃ b, V.ref a = V.ref b ∧ (∃ xs, SqT K H b xs) ∧ R (Itt K b) H := ⟨a, rfl, ⟨xs, hl⟩, h⟩
end
theorem r_yes {σ : L2.St} {H : Hp} {QT : Bool → Hp → Prop} (h : QT true H) : tYes σ H QT := h
theorem ty_list {K : PySem.W.Frag} {H : Hp} {p : Addr} {xs : List V} (h : H p = some (.lst xs)) : tyV K "list" (.ref p) H := .inl ⟨rfl, xs, SqL.of h⟩
theorem r_append {H : Hp} {p : Addr} {xs : List V} {y : V} {Q : VK} (h : H p = some (.lst xs)) (c : xs.length < sizeLine) (q : Q .non (upd H p (.lst (xs ++ [y])))) : rAppend (.ref p) [y] H Q := ⟨p, xs, y, rfl, rfl, h, c, q⟩
theorem r_setL {H : Hp} {p : Addr} {xs : List V} {i : Int} {j : Nat} {v : V} {Q : Hp → Prop} (h : H p = some (.lst xs)) (c : ixN xs.length i = some j) (q : Q (upd H p (.lst (xs.set j v)))) : rSetL (.ref p) (.int i) v H Q := ⟨p, xs, i, j, rfl, rfl, h, c, q⟩
theorem r_slA {K : PySem.W.Frag} {H : Hp} {p : Addr} {xs : List V} {lo hi : Option Int} {Q : VK} (h : H p = some (.tup xs)) (c : ¬ (HT.sIx xs.length 0 lo = 0 ∧ HT.sIx xs.length xs.length hi = xs.length)) (q : ∀ r, H r = none → Q (.ref r) (upd H r (.tup (cutV xs lo hi)))) : rSlU K (.ref p) lo hi H Q :=
  .inr (.inr ⟨p, xs, rfl, SqT.of h, fun z => absurd z c, fun _ => q⟩)
theorem r_catA {K : PySem.W.Frag} {H : Hp} {p q : Addr} {xs ys : List V} {Q : VK} (h1 : H p = some (.tup xs)) (h2 : H q = some (.tup ys)) (e1 : xs ≠ []) (e2 : ys ≠ []) (c : xs.length + ys.length ≤ sizeLine) (k : ∀ r, H r = none → Q (.ref r) (upd H r (.tup (xs ++ ys)))) :
    rAddU K (.ref p) (.ref q) H Q := .inr (.inr (.inr ⟨p, q, xs, ys, rfl, rfl, SqT.of h1, SqT.of h2, c, fun z => absurd z e1, fun _ z => absurd z e2, fun _ _ => k⟩))
theorem r_gtup {K : PySem.W.Frag} {n : Nat} {gs : TGs} {p : Addr} {xs : List V} {σ : L2.St} {H : Hp} {Q : L2.St → Hp → Prop} (h : H p = some (.tup xs)) (e : xs.length = n) (k : gs xs σ H Q) : gTup K n gs (.ref p) σ H Q := ⟨p, xs, rfl, SqT.of h, e, k⟩
end My

set_option maxRecDepth 100000
set_option maxHeartbeats 4000000
/-! a, *b = a list; [.. for c in a text]; decimal words -/
namespace My
open PySem PySem.Spec PySem.Calls PyProof.Rows L2
section
variable {prog : Program} {w : World} {A : Around} {E : Value → Shared → Prop} {s : Shared}
theorem unpack_star {l : Addr} {v : Value} {vs : List Value} {Q : List Value → Shared → Prop} (hl : s.heap.IsList l (v :: vs).toArray) (hh : A.handled = none) (hz : (v :: vs).length ≤ sizeLine)
    (h : ∀ h' tk, Heap.ExtBut s.heap.objs.size s.heap h' → Q [v, .ref h'.objs.size] { s with heap := h'.push { cls := .type "list", data := .seq vs.toArray }, toks := tk }) : wpAny (model prog w) A (unpackItems (.ref l) 2 (some 1)) Q E s := by
  have hlt : l ≠ s.heap.objs.size := by obtain ⟨o, ho, _⟩ := hl; exact Nat.ne_of_lt (Heap.lt_size ho)
  unfold unpackItems
  refine wpAny_bind ?_
  unfold notIterableAtAll
  refine wpAny_bind (wpAny_specialOf hl.typeIs slot_list_iter.lookup ?_)
  refine wpAny_pure ?_
  simp only [Bool.false_eq_true, if_false]
  refine wpAny_bind (wpAny_holding (wpAny_pyIter_list hl ?_))
  have hsz : (v :: vs).toArray.size = vs.length + 1 := by simp
  refine wpAny_bind (wpAny_holding (PySem.W.kun_draw hlt 1 0 _ _ ⟨_, Heap.get?_push_size _ rfl, rfl, rfl⟩ (hl.push _) (by omega) fun h₁ hit₁ hs₁ => ?_))
  have hl₁ : h₁.IsList l (v :: vs).toArray := (hl.push _).extBut hs₁.extBut hlt
  rw [Nat.zero_add] at hit₁
  have hit₁' := hit₁
  obtain ⟨oi, hoi, _⟩ := hit₁'
  have hl₁' := hl₁
  obtain ⟨ol, hol, _⟩ := hl₁'
  have e1 : ((v :: vs).toArray.toList.drop 0).take 1 = [v] := by simp
  rw [e1]
  rw [if_neg (show ¬ ([v].length < 1) by simp)]
  refine wpAny_bind (wpAny_holding (PySem.W.kun_collect (s := { s with heap := h₁ }) (T := "list_iterator") (.inr (.inr (.inl rfl))) (Walks.list (A := A.in1) hh s.heap.objs.size l hlt (v :: vs).toArray) (fun j u st => st.1.typeIs) (k := 1) (by omega) ⟨hit₁, hl₁⟩ (Heap.lt_size hoi) (Heap.lt_size hol) (fun h₂ tk hk => ?_) (by rw [hsz]; simpa using hz)))
  have e2 : (v :: vs).toArray.toList.drop 1 = vs := by simp
  rw [e2]
  show wpAny _ _ (if vs.length < 0 then _ else _) _ _ _
  rw [if_neg (by omega)]
  show wpAny _ _ (newList (vs.take (vs.length - 0)) >>= fun d => pure ([v] ++ [d] ++ vs.drop (vs.length - 0))) _ _ _
  have e3 : vs.take (vs.length - 0) = vs := by simp
  have e4 : vs.drop (vs.length - 0) = [] := by simp
  rw [e3, e4]
  have he : Heap.ExtBut s.heap.objs.size s.heap h₂ := fun b o hb e => hk b o hb (hs₁.extBut b o hb (Heap.get?_push_of_some _ e))
  have hz' : vs.length ≤ sizeLine := by
    have hz := hz
    rw [List.length_cons] at hz
    omega
  exact wpAny_bind (wpAny_newList (wpAny_pure (h h₂ tk he)) hz')
end
section
variable {X : Cx}
/-- a, *b = l -/
def gStar (K : PySem.W.Frag) (g1 g2 : TG) : TG := fun v σ H Q => ∃ a x xs, v = .ref a ∧ SqL K H a (x :: xs) ∧ ∀ p, H p = none → g1 x σ (upd H p (.lst xs)) fun σ' H' => g2 (.ref p) σ' H' Q
theorem pg_star {e b : Expr} {k : Nat} {sp pos : Pos} {g1 g2 : TG} (hc : X.calm = true) (h1 : PG X e g1) (h2 : PG X b g2) (hn : (assignEach [e, .Starred b sp] X.env) = [(false, assign e X.env), (true, assign b X.env)] := by rfl) :
    PG X (.Tuple [e, .Starred b sp] k pos) (gStar X.K g1 g2) := by
  refine ⟨fun pins s σ H v u Q I r hw => ?_⟩
  obtain ⟨a, x, xs, e1, hq, hw⟩ := hw
  subst e1
  cases r
  obtain ⟨its, rv, hp, hz⟩ := I.list hq
  cases rv with
  | cons r1 rr =>
    rename_i v vs
    rw [assign_Tuple]
    refine wpAny_bind (wpAny_standAt ?_)
    unfold unpack
    rw [hn]
    refine wpAny_bind (wpAny_holding (unpack_star (v := v) (vs := vs) hp.isList (I.ok.hd hc) (by
      have := rr.length
      rw [List.length_cons] at hz ⊢
      omega) fun h' tk he => ?_))
    have I1 : Inv X pins σ H { s with heap := h', toks := tk } := I.kept fun b o e => he b o (Nat.ne_of_lt (Heap.lt_size e)) e
    have hf : H h'.objs.size = none := I1.hok.fresh (Nat.le_refl _)
    have I2 : Inv X pins σ (upd H h'.objs.size (.lst xs)) { s with heap := h'.push { cls := .type "list", data := .seq vs.toArray }, toks := tk } := I1.laid (t' := tk) (fun b u e => Heap.get?_push_of_some _ e) (Nat.le_refl _) ⟨by
      rw [List.length_cons] at hz
      omega, vs, 0, rr, Heap.get?_push_size _ rfl⟩
    refine assignInOrder_cons (thn (h1.run pins _ σ _ _ _ _ I2 r1 (hw _ hf)) fun _ s3 ⟨σ3, H3, I3, q3⟩ => ?_)
    refine assignInOrder_cons (thn (h2.run pins s3 σ3 H3 (.ref h'.objs.size) _ _ I3 rfl q3) fun _ s4 ⟨σ4, H4, I4, q4⟩ => ?_)
    exact assignInOrder_nil ⟨σ4, H4, I4, q4⟩
end
section
variable {K : PySem.W.Frag} {σ : L2.St} {H : Hp} {Q : VK} {g : TG} {tt : TT} {te : TE} {D : Ends} {tb : TS}
/-- a comprehension over a text -/
theorem lc_txt {x : Str} {H1 : Hp} {D : Addr} {vs : List Nat} {Qd : Hp → Prop} (Pv : Nat → Hp → Prop) (h0 : Pv 0 (upd H1 D (.lst [])))
    (hs : ∀ (i c : Nat) H, x.cps.toList[i]? = some c → Pv i H → g (.str ⟨#[c]⟩) (wipe σ vs) H fun σ2 H2 => wipe σ2 vs = wipe σ vs ∧ tt σ2 H2 fun b H3 =>
      if b = true then te σ2 H3 fun y H4 => ∃ acc, H4 D = some (.lst acc) ∧ acc.length < sizeLine ∧ Pv (i + 1) (upd H4 D (.lst (acc ++ [y]))) else Pv (i + 1) H3) (hd : ∀ H, Pv x.length H → Qd H) :
    ∃ W : Nat → Nat → Hp → Prop, (∃ m, W 0 m (upd H1 D (.lst []))) ∧ ∀ i m H, W i m H →
      ((Its x).stop i H ∧ Qd H) ∨ ((Its x).go i H ∧ ∃ Nx : Hp → Prop, (∀ H', Nx H' → ∃ m', m' < m ∧ W (i + 1) m' H') ∧ ∀ y H', (Its x).yld i H y H' → g y (wipe σ vs) H' fun σ2 H2 => wipe σ2 vs = wipe σ vs ∧ tt σ2 H2 fun b H3 =>
        if b = true then te σ2 H3 fun y H4 => ∃ acc, H4 D = some (.lst acc) ∧ acc.length < sizeLine ∧ Nx (upd H4 D (.lst (acc ++ [y]))) else Nx H3) := by
  refine ⟨fun i m H => m = x.cps.size - i ∧ i ≤ x.cps.size ∧ Pv i H, ⟨x.cps.size, by simp, Nat.zero_le _, h0⟩, ?_⟩
  rintro i m H ⟨rfl, hi, p⟩
  by_cases hlt : i < x.cps.size
  · refine .inr ⟨hlt, Pv (i + 1), fun H' p' => ⟨x.cps.size - (i + 1), by omega, rfl, hlt, p'⟩, fun y H' yv => ?_⟩
    obtain ⟨e, c, hc, y⟩ := yv
    subst e y
    exact hs i c _ (by simpa using hc) p
  · have e : i = x.cps.size := by omega
    subst e
    exact .inl ⟨Nat.le_refl _, hd H p⟩
end
end My

set_option maxRecDepth 100000
set_option maxHeartbeats 4000000
/-! own ==, own + by promises by position; what isinstance asks -/
namespace Hk
open PySem PySem.W PySem.Calls PyProof.Rows He He5
def insB (K : Frag) (x : PySem.Str) : Bool := (Fa.cls x).ok K && (eqO (findIn K (.ref (ga K x)) "__class__") (some (some (.builtin "object.__class__"))) && (eqO (specialIn K (.builtin "object.__class__") "__get__") (some (some (.builtin "getset_descriptor.__get__"))) &&
  (decide (takesIn K (.builtin "object.__class__") = some true) && (decide (mroIn K (ga K x) (.type "object") = some true) && decide (kitOne K (.ref (ga K x)) (.ref (ga K x)) = some true)))))
theorem ins_of {K : Frag} {x : PySem.Str} (c : insB K x = true) : C8.InsC K (ga K x) := by
  obtain ⟨c0, c⟩ := ba c
  obtain ⟨c1, c⟩ := ba c
  obtain ⟨c2, c⟩ := ba c
  obtain ⟨c3, c⟩ := ba c
  obtain ⟨c4, c5⟩ := ba c
  exact ⟨cls_ok c0, eqO_ok c1, eqO_ok c2, of_decide_eq_true c3, of_decide_eq_true c4, of_decide_eq_true c5⟩
/-- a special def of the text's own class -/
def ownB (K : Frag) (x m : PySem.Str) : Bool := eqO (findIn K (.ref (ga K x)) m) (some (some (.ref (ma K (ga K x) m)))) && (isFn K (.ref (ma K (ga K x) m)) && fnIn K (ma K (ga K x) m))
structure OwnD (K : Frag) (C : Addr) (m : PySem.Str) (g : Addr) : Prop where
  f : findIn K (.ref C) m = some (some (.ref g))
  i : isFn K (.ref g) = true
  n : fnIn K g = true
theorem own_of {K : Frag} {x m : PySem.Str} (c : ownB K x m = true) : OwnD K (ga K x) m (ma K (ga K x) m) := by
  obtain ⟨c0, c⟩ := ba c
  obtain ⟨c1, c2⟩ := ba c
  exact ⟨eqO_ok c0, c1, c2⟩
/-- C + D, both with a def for it, none for the other way, D not below C -/
def addB (K : Frag) (x y : PySem.Str) : Bool := eqO (findIn K (.ref (ga K x)) "__radd__") (some none) && (eqO (findIn K (.ref (ga K y)) "__radd__") (some none) && (decide (subIn K (.ref (ga K y)) (.ref (ga K x)) = some false) && (decide (ga K x ≠ ga K y) &&
  ((match clsIn K (ga K x) with | some cd => cd.mro.head? == some (.ref (ga K x)) | none => false) && (match clsIn K (ga K y) with | some cd => cd.mro.head? == some (.ref (ga K y)) | none => false)))))
structure AddD (K : Frag) (C D : Addr) : Prop where
  rc : findIn K (.ref C) "__radd__" = some none
  rd : findIn K (.ref D) "__radd__" = some none
  sub : subIn K (.ref D) (.ref C) = some false
  ne : C ≠ D
  mc : ∃ cd r, clsIn K C = some cd ∧ cd.mro = .ref C :: r
  md : ∃ cd r, clsIn K D = some cd ∧ cd.mro = .ref D :: r
theorem mro_head {K : Frag} {C : Addr} (c : (match clsIn K C with | some cd => cd.mro.head? == some (.ref C) | none => false) = true) : ∃ cd r, clsIn K C = some cd ∧ cd.mro = .ref C :: r := by
  cases e : clsIn K C with
  | none => rw [e] at c; cases c
  | some cd =>
    rw [e] at c
    have h : cd.mro.head? = some (.ref C) := by simpa using c
    cases hm : cd.mro with
    | nil => rw [hm] at h; cases h
    | cons v r =>
      rw [hm] at h
      have : v = .ref C := by simpa using h
      exact ⟨cd, r, rfl, by rw [hm, this]⟩
theorem add_of {K : Frag} {x y : PySem.Str} (c : addB K x y = true) : AddD K (ga K x) (ga K y) := by
  obtain ⟨c0, c⟩ := ba c
  obtain ⟨c1, c⟩ := ba c
  obtain ⟨c2, c⟩ := ba c
  obtain ⟨c3, c⟩ := ba c
  obtain ⟨c4, c5⟩ := ba c
  exact ⟨eqO_ok c0, eqO_ok c1, of_decide_eq_true c2, of_decide_eq_true c3, mro_head c4, mro_head c5⟩
end Hk
namespace My
open PySem PySem.Spec PyProof.Rows L2
section
variable {X : Cx} {n : Nat} {CX : CXT} {E : XK} {pins : List (Addr × Obj)} {σ : L2.St} {H : Hp} {s : Shared}
/-- a def of the text that is called by an operator's machinery, from another place of the same depth -/
theorem run_at {A : Around} {Q : VK} {f : Addr} {us : List Value} {ws : List V} {sp : Sp} (F : FnR X.prog X.w X.K X.mg X.base CX n f sp) (hr : Room n A) (hf : A.frames = X.A.frames) (hx : Passes CX X E) (I : Inv X pins σ H s) (r : Vals ws us) (h : sp ws H Q E) :
    wpAny (model X.prog X.w) A (call (.ref f) us) (EP X pins σ Q) X.xe s := by
  have e := I.env0
  exact run_below F hr ⟨by rw [hf]; exact e.frames, e.mod, e.bs, e.bsz, e.funs, e.frf, e.hok, e.bare⟩ hx I r h
theorem rcG_R {C f : Addr} {R : Addr → Addr → Hp → Prop} (F : FnR X.prog X.w X.K X.mg X.base CX n f (spEq R)) (o : Hk.OwnD X.K C "__eq__" f) (hx : Passes CX X E) : RcG X n (DIns C R) := by
  rintro A pins s σ H x y u v sb I rx ry ⟨a, b, dx, dy, fs, gs, rfl, rfl, ha, hb, hr⟩
  cases rx
  cases ry
  obtain ⟨od, J⟩ := ins_at I ha
  obtain ⟨_, J'⟩ := ins_at I hb
  obtain ⟨m, hF⟩ := I.fr
  refine PySem.W.cmp_K (tb := .ref C) (op := .Eq) sb.room.units0 hF I.ok.mod.kin J J'.type (by simp [PySem.W.notFirst]) o.f o.i ?_
  refine wpAny_mono (run_at (us := [.ref a, .ref b]) (ws := [.ref a, .ref b]) (Q := fun v H' => v = .bl true ∧ Ext H H') F sb.room sb.fr hx I (.cons rfl (.cons rfl .nil)) ⟨a, b, rfl, hr, fun H' e => ⟨rfl, e⟩⟩) (fun w s' z => ?_) fun _ _ q => q
  obtain ⟨x, H', I', rz, rfl, ex⟩ := z
  cases rz
  exact ⟨rfl, H', I', ex⟩
theorem ins_two {D : Addr → Addr → Hp → Prop} {C : Addr} {x y : V} {H : Hp} (d : DIns C D x y H) : ∃ a b, x = .ref a ∧ y = .ref b := by
  obtain ⟨a, b, _, _, _, _, h1, h2, _⟩ := d
  exact ⟨a, b, h1, h2⟩
/-- a + b for two own classes -/
def rAddOwn (C D : Addr) (sp : Sp) (E : XK) : R2 := fun x y H Q => ∃ a b dx dy fs gs, x = .ref a ∧ y = .ref b ∧ H a = some (.ins C dx fs) ∧ H b = some (.ins D dy gs) ∧ sp [x, y] H (fun z H' => (∃ p, z = .ref p) ∧ Q z H') E
theorem op_addOwn {C D f g : Addr} {sp : Sp} (F : FnR X.prog X.w X.K X.mg X.base CX n f sp) (o : Hk.OwnD X.K C "__add__" f) (o2 : Hk.OwnD X.K D "__add__" g) (ad : Hk.AddD X.K C D) (hr : Room n X.A) (hx : Passes CX X E) : OpR X (binaryOp .Add) (rAddOwn C D sp E) := by
  rintro pins s σ H x y v u Q I rx ry ⟨a, b, dx, dy, fs, gs, rfl, rfl, ha, hb, q⟩
  cases rx
  cases ry
  obtain ⟨od, J⟩ := ins_at I ha
  obtain ⟨_, J'⟩ := ins_at I hb
  obtain ⟨m, hF⟩ := I.fr
  obtain ⟨cc, rc, hcc, hmc⟩ := ad.mc
  obtain ⟨cd, rd, hcd, hmd⟩ := ad.md
  have ht : PySem.W.Looks (model X.prog X.w) s.heap (typeOf (.ref b)) (.ref D) := J'.type
  have key := Bo.binop2 (nm := "add") (A := X.A) (E := X.xe) (Q := fun r s' => ∃ z, r = some z ∧ EP X pins σ Q z s') hF I.ok.mod.kin J ht ad.ne hcc hmc hcd hmd o.f o.i o2.f ad.rc ad.rd ad.sub
    (wpAny_mono (run_at (us := [.ref a, .ref b]) (ws := [.ref a, .ref b]) F hr rfl hx I (.cons rfl (.cons rfl .nil)) q) (fun w s' z => by
      obtain ⟨x, H', I', rz, ⟨p, rfl⟩, q'⟩ := z
      cases rz
      exact ⟨by simp, _, rfl, .ref p, H', I', rfl, q'⟩) fun _ _ z => z)
  show wpAny (model X.prog X.w) X.A (binaryOp .Add (.ref a) (.ref b)) (EP X pins σ Q) X.xe s
  refine wpAny_holding (wpAny_bind (thn key fun r s1 z => ?_))
  obtain ⟨z, rfl, q⟩ := z
  exact wpAny_pure q
end
end My

set_option maxRecDepth 100000
set_option maxHeartbeats 4000000
/-! calls with a spread sequence -/
namespace My
open PySem PySem.Spec PySem.Calls PyProof.Rows L2
theorem args_two {M : Model} {A : Around} {E : Value → Shared → Prop} {s : Shared} {f : Value} {a b : Bool × Sem Value} {r : List (Bool × Sem Value)} {Q : Args → Shared → Prop} (h : wpAny M A (spliced (a :: b :: r)) (fun vs s1 => Q ⟨vs, []⟩ s1) E s) :
    wpAny M A (evalArgs f true (a :: b :: r) []) Q E s := by
  unfold evalArgs
  obtain ⟨k, x⟩ := a
  cases k
  all_goals
    show wpAny M A (spliced (_ :: b :: r) >>= _) Q E s
    exact wpAny_bind (wpAny_mono h (fun vs s1 q => wpAny_holding (wpAny_bind (wpAny_pure (wpAny_bind (wpAny_pure (wpAny_pure q)))))) fun _ _ z => z)
section
variable {X : Cx} {CX : CXT} {k : Nat} {f C : Addr} {sp : Sp} {E : XK} {x m : Str} {p pos apos sp_ : Pos} {e o : Expr} {es : List Expr} {ta te : TE} {t : TA}
def tCallS (K : PySem.W.Frag) (sp : Sp) (E : XK) (te : TE) : TE := fun σ H Q => te σ H fun y H1 => ∃ a xs, y = V.ref a ∧ (SqT K H1 a xs ∨ SqL K H1 a xs) ∧ sp xs H1 Q E
theorem r_callS {K : PySem.W.Frag} {σ : L2.St} {H : Hp} {Q : VK} (h : te σ H fun y H1 => ∃ a xs, y = V.ref a ∧ (SqT K H1 a xs ∨ SqL K H1 a xs) ∧ sp xs H1 Q E) : tCallS K sp E te σ H Q := h
/-- f( *e) -/
theorem pe_callS1 (F : FnR X.prog X.w X.K X.mg X.base CX k f sp) (hr : Room k X.A) (hk : PySem.W.keepIn X.K (.ref f) = true) (hg : Gl X x) (hm : X.mg x = some (.ref f)) (hx : Passes CX X E) (he : PE X e te) (hd : (x == ("__debug__" : Str)) = false := by decide)
    (hst : starEach [.Starred e sp_] X.env = [(true, eval e X.env)] := by rfl) : PE X (.Call (.Name x p) [.Starred e sp_] [] pos) (tCallS X.K sp E te) := by
  refine ⟨fun pins s σ H Q I h => ?_⟩
  refine wpAny_Call_Name_kw (ld_glob I hg hm ?_ hd)
  refine PySem.W.callWith_S (h₀ := X.base) I.ok.mod.kin hk (thn (he.run pins s σ _ _ I h) fun u s2 z => ?_) hst
  obtain ⟨y, H2, I2, ry, a, xs, ey, hxs, q⟩ := z
  subst ey
  obtain rfl : u = Value.ref a := ry
  exact StX.star_any I2 hxs fun us s3 I3 rv => ⟨I3.kIn, wpAny_call (run_fnR F hr hx I3 rv q)⟩
theorem r_makeS1 {K : PySem.W.Frag} {σ : L2.St} {H : Hp} {Q : VK} (h : te σ H fun y H1 => ∃ a xs, y = V.ref a ∧ (SqT K H1 a xs ∨ SqL K H1 a xs) ∧ ∀ x dx, H1 x = Option.none → H1 dx = Option.none → dx ≠ x →
  sp (V.ref x :: xs) (upd (upd H1 dx (.own x)) x (.ins C dx [])) (fun v H2 => v = .non ∧ Q (.ref x) H2) E) : tMakeS1 K C sp E te σ H Q := h
/-- C( *e), C a class of the module -/
theorem pe_makeG1 (M : Mk X.K C f) (F : FnR X.prog X.w X.K X.mg X.base CX k f sp) (hr : Room (k + 1) X.A) (hg : Gl X x) (hm : X.mg x = some (.ref C)) (hx : Passes CX X E) (he : PE X e te) (hd : (x == ("__debug__" : Str)) = false := by decide)
    (hst : starEach [.Starred e sp_] X.env = [(true, eval e X.env)] := by rfl) : PE X (.Call (.Name x p) [.Starred e sp_] [] pos) (tMakeS1 X.K C sp E te) := by
  refine ⟨fun pins s σ H Q I h => ?_⟩
  refine wpAny_Call_Name_kw (ld_glob I hg hm ?_ hd)
  refine PySem.W.callWith_S (h₀ := X.base) I.ok.mod.kin M.kp (thn (he.run pins s σ _ _ I h) fun u s2 z => ?_) hst
  obtain ⟨y, H2, I2, ry, a, xs, ey, hxs, q⟩ := z
  subst ey
  obtain rfl : u = Value.ref a := ry
  exact StX.star_any I2 hxs fun us s3 I3 rv => ⟨I3.kIn, StX.run_makeR M F hr hx I3 rv q⟩
/-- C( *e, e2, ..) -/
theorem pe_makeS2 {e2 : Expr} {rest : List Expr} (M : Mk X.K C f) (F : FnR X.prog X.w X.K X.mg X.base CX k f sp) (hr : Room (k + 1) X.A) (hg : Gl X x) (hm : X.mg x = some (.ref C)) (hx : Passes CX X E) (ha : PA X (.Starred e sp_ :: e2 :: rest) t) (hd : (x == ("__debug__" : Str)) = false := by decide)
    (hst : ∃ a b r, backTo pos (starEach (.Starred e sp_ :: e2 :: rest) X.env) = a :: b :: r ∧ a.1 = true := by exact ⟨_, _, _, rfl, rfl⟩) :
    PE X (.Call (.Name x p) (.Starred e sp_ :: e2 :: rest) [] pos) (StX.tMakeR C sp E t) := by
  obtain ⟨a, b, r, eq, ea⟩ := hst
  refine pe_makeS M F hr hg hm hx ha hd (by rw [eq, List.any_cons, ea]; rfl) (fun z => nomatch z) fun {s Q} h => ?_
  rw [eq] at h ⊢
  exact PySem.W.ks_call (by rw [List.any_cons, ea]; rfl) (PySem.W.keeps_K M.kp) (args_two h)
end
section
variable {X : Cx}
/-- a sign in a text -/
def rSgn : R2 := fun x y H Q => ∃ (c : Nat) (z : Str), x = .str ⟨#[c]⟩ ∧ y = .str z ∧ Q (.bl (decide (c ∈ z.cps.toList))) H
theorem op_sgn : OpR X (compareOp .In) rSgn := op_in_sign
theorem r_sgn {c : Nat} {z : Str} {H : Hp} {Q : VK} (q : Q (.bl (decide (c ∈ z.cps.toList))) H) : rSgn (.str ⟨#[c]⟩) (.str z) H Q := ⟨c, z, rfl, rfl, q⟩
end
/-- nothing known changes, nothing goes -/
structure Gr (H H' : Hp) : Prop where
  e : Ext H H'
  f : ∀ b, H' b = none → H b = none
section
variable {H H1 H2 : Hp} {p : Addr} {o : HO}
theorem Gr.refl (H : Hp) : Gr H H := ⟨fun _ _ h => h, fun _ h => h⟩
theorem Gr.trans (a : Gr H H1) (b : Gr H1 H2) : Gr H H2 := ⟨fun c o h => b.e c o (a.e c o h), fun c h => a.f c (b.f c h)⟩
theorem Gr.mut (a : Gr H H1) (h : H p = none) : Gr H (upd H1 p o) := ⟨fun c u hc => by rw [upd_ne (ne_of_none hc h)]; exact a.e c u hc, fun c hc => by
  by_cases e : c = p
  · rw [e]; exact h
  · rw [upd_ne e] at hc; exact a.f c hc⟩
theorem Gr.new (h : H p = none) : Gr H (upd H p o) := (Gr.refl H).mut h
theorem Gr.then (a : Gr H H1) (h : H1 p = none) : Gr H (upd H1 p o) := a.mut (a.f p h)
theorem Gr.kp (a : Gr H H1) : Kp H H1 := ⟨fun b o _ h => a.e b o h, a.f⟩
theorem Gr.pen {z : PenI} {n : Nat} (a : Gr H H1) (d : Pen H z n) : Pen H1 z n := by
  obtain ⟨b, r, d, y⟩ := d
  exact ⟨b, r, ⟨a.e _ _ d.d, a.e _ _ d.c⟩, y⟩
end
section
variable {ts : List TE} {te : TE} {acc : Str} {σ : L2.St} {H : Hp} {Q : VK} {QS : Str → Hp → Prop}
theorem r_js0 (q : QS acc H) : tJs [] acc σ H QS := q
theorem r_jsT (h : te σ H fun x H1 => ∃ y : Str, x = .str y ∧ (acc ++ y).length ≤ sizeLine ∧ tJs ts (acc ++ y) σ H1 QS) : tJs (te :: ts) acc σ H QS := h
theorem r_fmt (h : te σ H fun x H1 => (∃ y : Str, x = .str y ∧ y.length ≤ sizeLine ∧ Q (.str y) H1) ∨ ∃ i : Int, x = .int i ∧ i.natAbs.log2 < 1920 ∧ Q (.str (toString i)) H1) : tFmt te σ H Q := h
theorem log_small {i : Int} (h1 : -(10 ^ 70) ≤ i) (h2 : i ≤ 10 ^ 70) : i.natAbs.log2 < 1920 := by
  by_cases h : i.natAbs = 0
  · rw [h]
    decide
  · have e : (10 : Int) ^ 70 < 2 ^ 250 := by decide
    exact Nat.lt_trans ((Nat.log2_lt h).mpr (show i.natAbs < 2 ^ 250 by omega)) (by decide)
end
theorem r_con {K : PySem.W.Frag} {f : Str} {ta : TE} {σ : L2.St} {H : Hp} {Q : VK} (h : ta σ H fun x H1 => ∃ a C dx fs v u, x = .ref a ∧ H1 a = some (.ins C dx fs) ∧ Cls K C ∧ Con K C f v u ∧ fs.lookup f = none ∧ Q v H1) : tCon K ta f σ H Q := h
theorem r_conV {K : PySem.W.Frag} {f : Str} {H : Hp} {a C dx : Addr} {fs : List (Str × V)} {v : V} {P : V → Prop} (h : H a = some (.ins C dx fs)) (c : Cls K C) (k : ∃ u, Con K C f v u) (l : fs.lookup f = none) (q : P v) :
    ∃ b D dy gs w u, V.ref a = V.ref b ∧ H b = some (.ins D dy gs) ∧ Cls K D ∧ Con K D f w u ∧ gs.lookup f = none ∧ P w := by
  obtain ⟨u, k⟩ := k
  exact ⟨a, C, dx, fs, v, u, rfl, h, c, k, l, q⟩
theorem r_fldV {K : PySem.W.Frag} {f : Str} {H : Hp} {a C dx : Addr} {fs : List (Str × V)} {v : V} {P : V → Prop} (h : H a = some (.ins C dx fs)) (c : Cls K C) (k : NoAttr K C f) (l : fs.lookup f = some v) (q : P v) :
    ∃ b D dy gs w, V.ref a = V.ref b ∧ H b = some (.ins D dy gs) ∧ Cls K D ∧ NoAttr K D f ∧ gs.lookup f = some w ∧ P w := ⟨a, C, dx, fs, v, rfl, h, c, k, l, q⟩
/-! the same rules, the written part by name (within a comprehension the context's own is not to be seen) -/
section
variable {X : Cx} {K : PySem.W.Frag} {tg e : Expr} {te : TE}
theorem pg_tupK {es : List Expr} {k : Nat} {pos : Pos} {t : TGs} {n : Nat} (hK : X.K = K) (hc : X.calm = true) (h : PGs X es t) (hn : (assignEach es X.env).length = n := by rfl) (hst : (assignEach es X.env).findIdx? (·.1) = none := by rfl) :
    PG X (.Tuple es k pos) (gTup K n t) := hK ▸ pg_tup hc h hn hst
theorem ix_seqK (hK : X.K = K) : IxR X (rIx K) := hK ▸ ix_seq
theorem op_addUK (hK : X.K = K) : OpR X (binaryOp .Add) (rAddU K) := hK ▸ op_addU
theorem op_eqUK (hK : X.K = K) (hu : X.A.units + 64 < cLine) : OpR X (compareOp .Eq) (rEqU K) := hK ▸ op_eqU hu
theorem op_neUK (hK : X.K = K) (hu : X.A.units + 64 < cLine) : OpR X (compareOp .NotEq) (rNeU K) := hK ▸ op_neU hu
theorem call_lenUK (hK : X.K = K) : CallR X (.builtin "len") (rLenU K) := hK ▸ call_lenU
theorem sl_anyK (hK : X.K = K) : SlR X (rSlU K) := hK ▸ sl_any
theorem pi_anyK (hK : X.K = K) (h : PE X e te) : PI X tg e (iAny K te) := hK ▸ pi_any h
theorem op_inK (hK : X.K = K) : OpR X (compareOp .In) (rIn K false) := hK ▸ op_in_seq
theorem op_notInK (hK : X.K = K) : OpR X (compareOp .NotIn) (rIn K true) := hK ▸ op_notIn_seq
end
/-- a dict comprehension over enumerate(a list) -/
theorem dc_enumL {K : PySem.W.Frag} {a : Addr} {xs : List V} {g : TG} {tt : TT} {tk tv : TE} {vs : List Nat} {σ : L2.St} {H1 : Hp} {D : Addr} {Qd : Hp → Prop} (Pv : Nat → Hp → Prop) (h0 : Pv 0 (upd H1 D (.dK []))) (hl : ∀ i H, i ≤ xs.length → Pv i H → SqL K H a xs)
    (hs : ∀ i x H T, xs[i]? = some x → Pv i H → H T = none → g (.ref T) (wipe σ vs) (upd H T (.tup [.int (i : Nat), x])) fun σ2 H2 => wipe σ2 vs = wipe σ vs ∧ tt σ2 H2 fun b H3 =>
      if b = true then tk σ2 H3 fun y H4 => tv σ2 H4 fun z H5 => ∃ kvs k, y = kV k ∧ H5 D = some (.dK kvs) ∧ kvs.length < sizeLine ∧ Pv (i + 1) (upd H5 D (.dK (putK kvs k z))) else Pv (i + 1) H3) (hd : ∀ H, Pv xs.length H → Qd H) :
    ∃ W : Nat → Nat → Hp → Prop, (∃ m, W 0 m (upd H1 D (.dK []))) ∧ ∀ i m H, W i m H →
      ((Ite K a).stop i H ∧ Qd H) ∨ ((Ite K a).go i H ∧ ∃ Nx : Hp → Prop, (∀ H', Nx H' → ∃ m', m' < m ∧ W (i + 1) m' H') ∧ ∀ x H', (Ite K a).yld i H x H' → g x (wipe σ vs) H' fun σ2 H2 => wipe σ2 vs = wipe σ vs ∧ tt σ2 H2 fun b H3 =>
        if b = true then tk σ2 H3 fun y H4 => tv σ2 H4 fun z H5 => ∃ kvs k, y = kV k ∧ H5 D = some (.dK kvs) ∧ kvs.length < sizeLine ∧ Nx (upd H5 D (.dK (putK kvs k z))) else Nx H3) := by
  refine ⟨fun i m H => m = xs.length - i ∧ i ≤ xs.length ∧ Pv i H, ⟨xs.length, by simp, Nat.zero_le _, h0⟩, ?_⟩
  rintro i m H ⟨rfl, hi, p⟩
  have q := hl i H hi p
  by_cases hlt : i < xs.length
  · refine .inr ⟨⟨xs, xs[i], q, by simp [hlt]⟩, Pv (i + 1), fun H' p' => ⟨xs.length - (i + 1), by omega, rfl, hlt, p'⟩, fun x H' y => ?_⟩
    obtain ⟨T, v, e, hT, eH, hv⟩ := y
    subst e eH
    exact hs i v H T (hv xs q) p hT
  · have e : i = xs.length := by omega
    subst e
    exact .inl ⟨⟨xs, q, Nat.le_refl _⟩, hd H p⟩
section
variable {H H5 : Hp} {x : Addr} {u u0 v : HO}
theorem Gr.back (g : Gr (upd H x u) H5) (h : H x = some u0) : Gr H (upd H5 x u0) := ⟨fun c o hc => by
  by_cases e : c = x
  · rw [e, upd_same]
    rw [e, h] at hc
    exact hc
  · rw [upd_ne e]
    exact g.e c o (by rw [upd_ne e]; exact hc), fun c hc => by
  by_cases e : c = x
  · rw [e, upd_same] at hc
    cases hc
  · rw [upd_ne e] at hc
    have := g.f c hc
    rw [upd_ne e] at this
    exact this⟩
end
theorem r_dc {wi : TI} {g : TG} {tt : TT} {tk tv : TE} {vs : List Nat} {σ : L2.St} {H : Hp} {Q : VK} (h : wi σ H fun J H1 => ∀ D, H1 D = none → ∃ W : Nat → Nat → Hp → Prop, (∃ m, W 0 m (upd H1 D (.dK []))) ∧ ∀ i m H, W i m H →
  (J.stop i H ∧ Q (.ref D) H) ∨ (J.go i H ∧ ∃ Nx : Hp → Prop, (∀ H', Nx H' → ∃ m', m' < m ∧ W (i + 1) m' H') ∧ ∀ x H', J.yld i H x H' → g x (wipe σ vs) H' fun σ2 H2 => wipe σ2 vs = wipe σ vs ∧ tt σ2 H2 fun b H3 =>
    if b = true then tk σ2 H3 fun y H4 => tv σ2 H4 fun z H5 => ∃ kvs k, y = kV k ∧ H5 D = some (.dK kvs) ∧ kvs.length < sizeLine ∧ Nx (upd H5 D (.dK (putK kvs k z))) else Nx H3)) : tDc wi g tt tk tv vs σ H Q := h
end My

set_option maxRecDepth 100000
set_option maxHeartbeats 4000000
/-! tuple(a dict): the keys in their order -/
namespace My
open PySem PySem.Spec PySem.Calls PyProof.Rows L2
section
variable {prog : Program} {w : World} {A : Around} {E : Value → Shared → Prop} {s : Shared} {T : String} {r d : Addr} {n : Nat} {P : Nat → Value → Prop} {OK : Heap → Prop}
theorem src_collect {Q : List Value → Shared → Prop} (S : PySem.W.KdlSrc prog w T r d n P OK) (hA : A.handled = none) (ok : OK s.heap) (hn : n ≤ sizeLine)
    (k : ∀ (h' : Heap) (tk : Nat) (its : Array Value), (∀ b o, s.heap.get? b = some o → h'.get? b = some o) → ItemsOf P its n → Q its.toList { s with heap := h', toks := tk }) : wpAny (model prog w) A (collect (.ref r)) Q E s := by
  generalize hL : s.heap.objs.size = L
  unfold collect
  refine wpAny_bind (wpAny_runValue (codeAny_builtin F.entry_proto_collect ?_))
  rw [Around.under_plainId F.plain_proto_collect _]
  show wpAny _ A.in1 (newList [] >>= fun l => again (.builtin "list.__iadd__" ⟨[l, .ref r], []⟩)) _ _ _
  refine wpAny_bind (wpAny_newObj_type (wpAny_pure ⟨plainId_quiet F.plain_list_iadd _, codeAny_builtin F.entry_list_iadd ?_⟩))
  rw [Around.under_plainId F.plain_list_iadd _, hL]
  show wpAny _ A.in1 (Builtin.List.listExtendWith (.ref L) (.ref r) (.ref L)) _ _ _
  have e0 : (s.heap.push { cls := .type "list", data := .seq ([] : List Value).toArray }).get? L = some { cls := .type "list", data := .seq #[] 0 } := by rw [← hL]; exact Heap.get?_push_size _ rfl
  have lt := S.there _ ok
  rw [hL] at lt
  have n1 : L ≠ r := Nat.ne_of_gt lt.1
  have n2 : L ≠ d := Nat.ne_of_gt lt.2
  refine wpAny_mono (PySem.W.kdl_extend (s := { s with heap := s.heap.push { cls := .type "list", data := .seq ([] : List Value).toArray } }) (R := fun rr s' => rr = .ok (.ret (.ref L)) ∧ ∃ (h' : Heap) (tk : Nat) (its : Array Value) (c' : Nat), s' = { s with heap := h', toks := tk } ∧
      (∀ b o, s.heap.get? b = some o → h'.get? b = some o) ∧ h'.get? L = some { cls := .type "list", dict := none, data := .seq its c', slots := #[] } ∧ ItemsOf P its n)
    S hA (S.keep _ _ ok fun b _ o e => Heap.get?_push_of_some _ e) L n1 n2 (.ref L) 0 e0
    (fun h' tk its c' kp e hi => ⟨rfl, h', tk, its, c', rfl, fun b o q => kp b o (by have z := Heap.lt_size q; rw [hL] at z; exact Nat.ne_of_lt z) (Heap.get?_push_of_some _ q), e, hi⟩) hn) (fun fin s1 z => ?_) fun x s1 z => absurd z.1 (by simp)
  cases fin with
  | done f =>
    obtain ⟨ef, h', tk, its, c', rfl, kp, eL, hi⟩ := z
    cases ef
    show wpAny _ A (load L >>= _) _ _ _
    exact wpAny_bind (wpAny_load eL (wpAny_pure (k h' tk its kp hi)))
  | again c =>
    refine ⟨z.1, codeAny_mono z.2 fun rr s2 zr => ?_⟩
    obtain ⟨rfl, h', tk, its, c', rfl, kp, eL, hi⟩ := zr
    show wpAny _ A (load L >>= _) _ _ _
    exact wpAny_bind (wpAny_load eL (wpAny_pure (k h' tk its kp hi)))
theorem src_new {Q : Value → Shared → Prop} (S : PySem.W.KdlSrc prog w T r d n P OK) (hA : A.handled = none) (ok : OK s.heap) (hn : n ≤ sizeLine) (hT : (Value.type T == Value.type "tuple") = false)
    (k : ∀ (h' : Heap) (tk : Nat) (its : Array Value), (∀ b o, s.heap.get? b = some o → h'.get? b = some o) → ItemsOf P its n → Q (.ref h'.objs.size) { s with heap := h'.push { cls := .type "tuple", data := .seq its }, toks := tk }) :
    codeAny (model prog w) A (.call (.builtin "tuple.__new__") ⟨[.type "tuple", .ref r], []⟩) (wants Q E) s := by
  refine codeAny_of_tree ?_
  show wpAny _ A.in1 (do checkBuiltinCall "tuple.__new__" ⟨[.type "tuple", .ref r], []⟩; again (.builtin "tuple.__new__" ⟨[.type "tuple", .ref r], []⟩)) _ _ s
  refine wpAny_bind (wpAny_of_eq (F.newCall_tuple_1 _) (wpAny_pure ⟨plainId_quiet F.plain_tuple_new _, codeAny_builtin F.entry_tuple_new ?_⟩))
  rw [Around.under_plainId F.plain_tuple_new _]
  have z1 := sub_tuple_self
  have z2 := init_tuple_lookup
  have z3 := madeHere_tuple
  have tI := S.type s ok
  have hA1 : A.in1.handled = none := hA
  wp_walk using wpAny_typeOf tI, src_collect (A := A.in1) S hA1 ok hn
  intro h' tk its kp hi
  have ei : its.toList.toArray = its := by simp
  show wpAny _ _ (Builtin.Tuple.tupleExact its.toList.toArray >>= fun v => ret v) _ _ _
  rw [ei]
  unfold Builtin.Tuple.tupleExact
  refine wpAny_bind (wpAny_newObj_type (wpAny_pure (k h' tk its kp hi)) ?_)
  show its.size ≤ sizeLine
  rw [hi.1]
  exact hn
theorem src_tuple {Q : Value → Shared → Prop} (S : PySem.W.KdlSrc prog w T r d n P OK) (hA : A.handled = none) (ok : OK s.heap) (hn : n ≤ sizeLine) (hT : (Value.type T == Value.type "tuple") = false)
    (k : ∀ (h' : Heap) (tk : Nat) (its : Array Value), (∀ b o, s.heap.get? b = some o → h'.get? b = some o) → ItemsOf P its n → Q (.ref h'.objs.size) { s with heap := h'.push { cls := .type "tuple", data := .seq its }, toks := tk }) :
    wpAny (model prog w) A (call (.type "tuple") [.ref r]) Q E s := by
  refine callType_codes (Q₁ := fun o s1 => s1.TypeIs o "tuple" ∧ Q o s1) F.called_tuple (F.typeCall_tuple_1 _) F.entry_object_init
    (src_new (A := A.in1) S hA ok hn hT fun h' tk its kp hi => ⟨⟨_, Heap.get?_push_size _ rfl, rfl⟩, k h' tk its kp hi⟩) fun o s1 z => ?_
  exact ⟨z.1, F.args_object_init_2 o _, object_init_meets F.called_tuple.init.lookup F.called_tuple.made (by decide) prog w A.in1 _ s1 ⟨z.1, rfl, z.2⟩⟩
end
def rTupD : List V → Hp → VK → Prop := fun xs H Q => ∃ p kvs, xs = [.ref p] ∧ H p = some (.dK kvs) ∧ ∀ q, H q = none → Q (.ref q) (upd H q (.tup (kvs.map fun kv => kV kv.1)))
theorem call_tupleD {X : Cx} (hc : X.calm = true) : CallR X (.type "tuple") rTupD := by
  rintro pins s σ H xs us Q I r ⟨p, kvs, rfl, hk, q⟩
  obtain ⟨u, rfl, rx⟩ := vals1 r
  obtain rfl : u = Value.ref p := rx
  obtain ⟨z, lo, vs, rk, hd⟩ := (show ObjOk X.prog X.w H s.heap p (.dK kvs) from I.hok p _ hk)
  obtain ⟨ep, hat⟩ := hd.dictAt
  have hl : kvs.length = vs.length := Paired.length rk
  refine src_tuple (PySem.W.kdl_dict (knd := mixKind X.prog X.w) (kvs := vs) (ep := ep) lo) (I.ok.hd hc) hat (by rw [← hl]; exact z) (by decide) fun h' tk its kp hi => ?_
  have I1 : Inv X pins σ H { s with heap := h', toks := tk } := I.kept kp
  have rel : Vals (kvs.map fun kv => kV kv.1) its.toList := by
    have el : its.toList.length = its.size := by simp
    refine vals_of_at (by rw [List.length_map, el, hi.1, hl]) fun j x v h1 h2 => ?_
    obtain ⟨k, y, hky, hik⟩ := hi.2 j v (by rw [← Array.getElem?_toList]; exact h2)
    have e1 : (kvs.map (·.1))[j]? = some k := by
      rw [KV.keys rk, List.getElem?_map, hky]
      rfl
    rw [List.getElem?_map] at h1 e1
    obtain ⟨kv, f1, f2⟩ := Option.map_eq_some_iff.mp h1
    rw [f1] at e1
    have e3 : kv.1 = k := by simpa using e1
    rw [← f2, e3]
    exact keyIs_rel hik
  refine ⟨.ref h'.objs.size, _, I1.laid (t' := tk) (o := .tup (kvs.map fun kv => kV kv.1)) (fun b o e => Heap.get?_push_of_some _ e) (Nat.le_refl _) ⟨by rw [List.length_map]; exact z, its.toList, rel, by rw [Array.toArray_toList]; exact IsTup.new _ _⟩, rfl, q _ (I1.hok.fresh (Nat.le_refl _))⟩
def rTupleU (K : PySem.W.Frag) : List V → Hp → VK → Prop := fun xs H Q => rTupD xs H Q ∨ (∃ p ys, xs = [.ref p] ∧ ((SqL K H p ys ∧ ∀ l, H l = none → Q (.ref l) (upd H l (.tup ys))) ∨ (SqT K H p ys ∧ Q (.ref p) H)))
theorem call_tupleU {X : Cx} {K : PySem.W.Frag} (hK : X.K = K) (hc : X.calm = true) : CallR X (.type "tuple") (rTupleU K) := hK ▸ (call_tupleD hc).or call_tuple_of
theorem r_disp {trs : List (TE × TE)} {σ : L2.St} {H : Hp} {Q : VK} (h : ∀ p, H p = none → tPairs trs σ (upd H p (.dK [])) fun ps H2 => H2 p = some (.dK []) ∧ ∃ kvs : List (Key × V), ps = kvs.map (fun kv => (kV kv.1, kv.2)) ∧ kvs.length ≤ 15 ∧ Q (.ref p) (upd H2 p (.dK (mergeK [] kvs)))) : tDisp trs σ H Q := h
theorem r_pp0 {σ : L2.St} {H : Hp} {Q : List (V × V) → Hp → Prop} (h : Q [] H) : tPairs [] σ H Q := h
theorem r_ppC {tk tv : TE} {r : List (TE × TE)} {σ : L2.St} {H : Hp} {Q : List (V × V) → Hp → Prop} (h : tk σ H fun x H1 => tv σ H1 fun y H2 => tPairs r σ H2 fun ps H3 => Q ((x, y) :: ps) H3) : tPairs ((tk, tv) :: r) σ H Q := h
theorem r_iteNT {A B : Prop} (h : B) : if (!true) = true then A else B := by
  rw [if_neg (by decide)]
  exact h
theorem r_iteNF {A B : Prop} (h : A) : if (!false) = true then A else B := by
  rw [if_pos (by decide)]
  exact h
end My

set_option maxRecDepth 100000
set_option maxHeartbeats 4000000
/-! a law's end where its def is promised for known guards -/
namespace My
open PySem PySem.Spec PyProof.Rows L2
section
variable {P : Program} {w : World} {K : PySem.W.Frag} {mg mb : Str → Option Value} {k : Nat} {f p : Addr} {sp : Sp} {t : Shared} {us : List Value} {ns : List Int}
/-- the wanted end of the caller -/
abbrev Told (t : Shared) : Result → Shared → Prop := fun r u => r = .ok (.ret (.bool true)) ∧ OldK t.heap u.heap ∧ u.os = t.os ∧ AllBare u.gens
theorem core_at (kin : K.In t.heap) (gl : t.heap.Ns mainGlobals mg) (bl : t.heap.Ns builtinsNs mb) (bb : ∀ x : Str, x ≠ "__name__" → mb x = bootBuiltins x) (nl : t.heap.NoLimit) (gn : t.gens = #[])
    (at_ : t.heap.get? p = some { cls := .type "list", data := .seq us.toArray }) (room : Room k callerA) (F : ∀ base : Heap, K.In base → base.Ns mainGlobals mg → FnG P w K mg base (L2.CX P w) k f sp)
    {H : Hp} (only : Only H) (want : sp [.ref p] H (fun v _ => v = .bl true) fun _ _ _ => False) (ok : HOk P w H t.heap) (one : ∀ b, H b ≠ none → b = p) (kn : H p ≠ none → K.lookup p = none) :
    codeAny (model P w) callerA (.call (.ref f) ⟨[.ref p], []⟩) (Told t) t := by
  have same : ∀ b, H b = none ∨ b = p := fun b => by
    by_cases z : H b = none
    · exact .inl z
    · exact .inr (one b z)
  have dict : ∀ (b : Addr) (o : Obj) (es : Array DictEntry) (m : Nat), t.heap.get? b = some o → o.data = .dict es m → H b = none := fun b o es m e d => by
    rcases same b with z | rfl
    · exact z
    · rw [at_] at e
      cases e
      cases (show Data.seq us.toArray _ = Data.dict es m from d)
  have names : ∀ (b : Addr) (m : Str → Option Value), t.heap.Ns b m → (hidT t.heap H).Ns b m := fun b m z => by
    obtain ⟨o, es, n, e, d, r⟩ := z
    exact ⟨o, es, n, hidT_get e (dict b o es n e d), d, r⟩
  have kb : K.In (hidT t.heap H) := fun b o e => by
    refine hidT_get (kin b o e) ?_
    rcases same b with z | rfl
    · exact z
    · by_cases z : H b = none
      · exact z
      · rw [kn z] at e
        cases e
  obtain ⟨mc, nl1, nl2⟩ := nl
  have mod : Mod K mg (hidT t.heap H) := ⟨kb, names _ _ gl, ⟨mb, names _ _ bl, bb⟩, ⟨mc, names _ _ nl1, nl2⟩⟩
  have env : Env0 P w K mg (hidT t.heap H) callerA [] t H := ⟨rfl, mod, fun b o e => of_hidT e, Nat.le_of_eq (hidT_size _ _), trivial, fun b hb => (List.not_mem_nil hb).elim, ok, .of_eq gn⟩
  refine codeAny_mono (F _ kb (names _ _ gl) callerA [] t H [.ref p] [.ref p] _ _ room rfl env (.cons rfl .nil) want) fun r u z => ?_
  match r, z with
  | .error x, z =>
    exfalso
    have z : L2.CX P w [] H t (fun _ _ _ => False) x u := z
    obtain ⟨_, _, _, _, _, _, _, _, _, _, _, _, hE⟩ := z
    exact hE
  | .ok .next, z => exact False.elim z
  | .ok .brk, z => exact False.elim z
  | .ok .cont, z => exact False.elim z
  | .ok (.ret y), z =>
    obtain ⟨v, H2, os, bare, un, ok2, rel, q⟩ := z
    have q : v = .bl true := q
    subst q
    obtain rfl : y = Value.bool true := rel
    refine ⟨rfl, OldK.of_keep fun b o e => ?_, os, bare⟩
    rcases only b with z | ⟨ob, xs, z⟩
    · exact un.keep b o e z (by simp [frs]) (by simp)
    · obtain ⟨e1, _⟩ := ok b _ z
      obtain ⟨e2, _⟩ := ok2 b _ (un.frzs b ob _ z)
      rw [e1] at e
      cases e
      exact e2
theorem law_at (kin : K.In t.heap) (gl : t.heap.Ns mainGlobals mg) (bl : t.heap.Ns builtinsNs mb) (bb : ∀ x : Str, x ≠ "__name__" → mb x = bootBuiltins x) (nl : t.heap.NoLimit) (gn : t.gens = #[])
    (at_ : t.heap.get? p = some { cls := .type "list", data := .seq us.toArray }) (isInts : IntsAre us ns) (few : ns.length ≤ sizeLine) (room : Room k callerA) (F : ∀ base : Heap, K.In base → base.Ns mainGlobals mg → FnG P w K mg base (L2.CX P w) k f sp)
    (want : ∀ H : Hp, Only H → SqL K H p (ns.map V.int) → sp [.ref p] H (fun v _ => v = .bl true) fun _ _ _ => False) : codeAny (model P w) callerA (.call (.ref f) ⟨[.ref p], []⟩) (Told t) t := by
  have rel := vals_ints isInts
  have len := isInts.length
  by_cases hk : K.lookup p = none
  · generalize ho : (HO.frz { cls := .type "list", data := .seq us.toArray } (.lst (ns.map V.int))) = o
    have here : (fun b => if b = p then some o else none : Hp) p = some o := if_pos rfl
    have away : ∀ b, b ≠ p → (fun b => if b = p then some o else none : Hp) b = none := fun b z => if_neg z
    generalize (fun b => if b = p then some o else none : Hp) = H at here away
    have only : Only H := fun b => by
      by_cases z : b = p
      · exact .inr ⟨_, _, by rw [z, here, ← ho]⟩
      · exact .inl (away b z)
    refine core_at kin gl bl bb nl gn at_ room F only (want H only (.inl (.inr ⟨_, by rw [here, ← ho]⟩))) (fun b u z => ?_) (fun b z => ?_) fun _ => hk
    · by_cases e : b = p
      · subst e
        rw [here, ← ho] at z
        cases z
        exact ⟨at_, by rw [List.length_map]; exact few, us, _, rel, at_⟩
      · rw [away b e] at z
        cases z
    · by_cases e : b = p
      · exact e
      · exact absurd (away b e) z
  · obtain ⟨o, hk⟩ : ∃ o, K.lookup p = some o := by
      cases z : K.lookup p with
      | none => exact absurd z hk
      | some o => exact ⟨o, rfl⟩
    have e := kin p o hk
    rw [at_] at e
    cases e
    have only : Only (fun _ => none) := fun _ => .inl rfl
    refine core_at kin gl bl bb nl gn at_ room F only (want _ only (.inr ⟨_, us.toArray, _, hk, rfl, rfl, rfl, by rw [List.size_toArray, len]; exact few, by simpa using rel⟩)) (fun b u z => by cases (show (none : Option HO) = some u from z)) (fun b z => absurd rfl z) fun z => absurd rfl z
end
/-- the end over a head by facts -/
theorem walk_G {l : PySem.W.OpenLaw} {n k : Nat} {q : Program} {loose : List Str} {XP : (Str → Option Value) → Heap → Prop} {YP : World → Heap → Prop} {d : DefRec} (hn : l.most = some n) (hz : n ≤ sizeLine) (hd : d.params.defaults = []) (room : Room k callerA)
    (F : ∀ (w : World) (mg : Str → Option Value) (f : Addr) (h : Heap), YP w h → h.Ns mainGlobals mg → mg d.name = some (.ref f) →
      ∃ (K : PySem.W.Frag) (sp : Sp), K.In h ∧ (∀ (H : Hp) (p : Addr) (ns : List Int), ns.length ≤ n → Only H → SqL K H p (ns.map V.int) → sp [.ref p] H (fun v _ => v = .bl true) fun _ _ _ => False) ∧
        ∀ base : Heap, K.In base → base.Ns mainGlobals mg → FnG l.prog w K mg base (L2.CX l.prog w) k f sp) : PySem.W.WalkO q loose XP YP l.row.toRowW d [] (fun f vs => PySem.call f vs) := by
  refine Att.attach_call hn hd fun w t0 t mg mb f o pm cd doc p us ns G Y ho hf hcd hmg hobj hints hlen hg => ?_
  obtain ⟨K, sp, kin, want, hF⟩ := F w mg f _ Y G.T.g hmg
  exact law_at kin G.T.g G.T.b G.T.builtins G.T.nolimit hg hobj hints (Nat.le_trans hlen hz) room hF fun H only rd => want H p ns hlen only rd
end My

set_option maxRecDepth 100000
set_option maxHeartbeats 4000000
/-! own errors over a built-in one: def __init__(self, a): super().__init__(a); self.f = a -/
namespace Ox
open PySem PySem.W PySem.Calls PyProof.Rows PySem.Spec Builtin Builtin.ObjectAttr
/-- how an object of a class over the chain tl is made: newId is that of a base B1 in it -/
structure MadeF (newId : String) (tl : List Value) : Prop where
  ex : ∃ B1 i1 bm1, ExcBaseFacts B1 newId i1 bm1 ∧ tl.contains (.type B1) = true
  noA : tl.contains (.type "AttributeError") = false
  noN : tl.contains (.type "NameError") = false
/-- what is known of the chain's __init__ -/
structure IniF (B initId : String) : Prop where
  slot : Slot B "__init__" initId
  entry : entryFor table initId = some Builtin.«BaseException.__init__»
  kind : builtinKind initId = some .slot
  row : Manifest.signature? initId = some ⟨.positional, "*", B, .self, [⟨"args", .varPos, false⟩]⟩
  star : (B != "*") = true
theorem ini_of {B newId initId : String} {bm : List Value} (F : ExcBaseFacts B newId initId bm) : IniF B initId := ⟨F.init, F.initEntry, F.initKind, F.initRow, F.noStar⟩
theorem made_of {B newId initId : String} {bm : List Value} (F : ExcBaseFacts B newId initId bm) : MadeF newId bm := ⟨⟨B, initId, bm, F, F.hasB⟩, F.noAttr, F.noName⟩
/-- the chain above a base, what the machine knows of it -/
structure Chain (B newId initId : String) (tl : List Value) : Prop where
  made : MadeF newId tl
  ini : IniF B initId
  kx : KxsFacts B initId
  st : StoreFacts B tl "object.__setattr__" "object"
theorem chain_VE : Chain "ValueError" "ValueError.__new__" "ValueError.__init__" [.type "ValueError", .type "Exception", .type "BaseException", .type "object"] := ⟨made_of F.excBase_ValueError, ini_of F.excBase_ValueError, kxs_ValueError, F.store_ValueError⟩
theorem chain_OE : Chain "OverflowError" "OverflowError.__new__" "OverflowError.__init__" [.type "OverflowError", .type "ArithmeticError", .type "Exception", .type "BaseException", .type "object"] := ⟨made_of F.excBase_OverflowError, ini_of F.excBase_OverflowError, kxs_OverflowError, F.store_OverflowError⟩
theorem chain_LE : Chain "LookupError" "LookupError.__new__" "LookupError.__init__" [.type "LookupError", .type "Exception", .type "BaseException", .type "object"] := ⟨made_of F.excBase_LookupError, ini_of F.excBase_LookupError, kxs_LookupError, F.store_LookupError⟩
abbrev keTl : List Value := [.type "KeyError", .type "LookupError", .type "Exception", .type "BaseException", .type "object"]
theorem ke_slot : Slot "KeyError" "__init__" "KeyError.__init__" := PyProof.Rows.excClass_KeyError.init
theorem chain_KE : Chain "KeyError" "LookupError.__new__" "KeyError.__init__" keTl where
  made := ⟨⟨_, _, _, F.excBase_LookupError, by decide +kernel⟩, by decide +kernel, by decide +kernel⟩
  ini := ⟨PyProof.Rows.excClass_KeyError.init, PyProof.Rows.excClass_KeyError.initEntry, PyProof.Rows.excClass_KeyError.initKind, by kernel_rfl, by decide +kernel⟩
  kx := ⟨by show builtinType _ = _; rw [builtinType_eq_fast]; kernel_rfl, by first | kernel_rfl | rfl⟩
  st := {
    mro := by kernel_rfl, kind := by decide +kernel, split := by decide +kernel, hasOwner := by decide +kernel
    slot := .of (owner := "object") (n := "__setattr__") (by rw [typeLookup_type, builtinLookup_eq_fast] <;> kernel_rfl) (by decide +kernel) (by decide +kernel) (by decide +kernel) (by first | exact .inl (by decide +kernel) | exact .inr (by decide +kernel)) (by rw [isSubtype_type] <;> kernel_rfl)
    entry := F.store_LookupError.entry
    args := F.store_LookupError.args
    passes := fun self => by kernel_rfl }
section
variable {prog : Program} {w : World} {M : Model} {A : Around} {E : Value → Shared → Prop} {R : Result → Shared → Prop} {h : Heap} {g : Array GenState} {d : Drawn} {t : Nat} {os : OsState}
variable {nm q : Str} {C N : Addr} {bs bm : List Value} {hdct : Bool} {sn : List Str} {sub : List Value} {ab : Bool} {col : Option Bool} {dd : Option Addr} {k0 k1 k2 k3 k5 : Option Value} {newId : String}
theorem chk_new (F : MadeF newId bm) {rest : List Value} {Q : Unit → Shared → Prop} (hC : h.get? C = some (excClassObj nm q C N bs bm hdct sn sub ab col dd k0 k1 k2 k3 k5 newId)) (hq : Q () ⟨h, g, d, t, os⟩) : wpAny M A (checkBuiltinCall newId ⟨.ref C :: rest, []⟩) Q E ⟨h, g, d, t, os⟩ := by
  obtain ⟨B1, i1, bm1, G, hb⟩ := F.ex
  have one : (Value.ref C :: bm).contains (.type B1) = true := (List.contains_cons ..).trans (by rw [hb, Bool.or_true])
  have star := G.noStar
  simp only [checkBuiltinCall, G.newKind, G.newSplit, G.newRow]
  repeat (first | refine wpAny_loadPart_at hC ?_ | (refine wpAny_isSubtype_exc hC ?_; rw [one]) | refine wpAny_staticBase_exc hC ?_ | refine wpAny_madeBy_exc hC ?_ | simp only [bne_self_eq_false, Bool.false_eq_true, if_false] | wp_step)
  exact hq
theorem new_at (F : MadeF newId bm) {rest : List Value} (hC : h.get? C = some (excClassObj nm q C N bs bm hdct sn sub ab col dd k0 k1 k2 k3 k5 newId))
    (hq : R (.ok (.ret (.ref (h.objs.size + 1)))) ⟨(h.push (kdv_tup rest)).push (HandSPX.excO C h.objs.size), g, d, t, os⟩) (few : rest.length ≤ sizeLine) : codeAny (model prog w) A (.builtin newId ⟨.ref C :: rest, []⟩) R ⟨h, g, d, t, os⟩ := by
  obtain ⟨B1, i1, bm1, G, hb⟩ := F.ex
  have ends := G.ends
  have one : (Value.ref C :: bm).contains (.type B1) = true := (List.contains_cons ..).trans (by rw [hb, Bool.or_true])
  have two : (Value.ref C :: bm).contains (.type "AttributeError") = false := (List.contains_cons ..).trans (by rw [F.noA]; rfl)
  have three : (Value.ref C :: bm).contains (.type "NameError") = false := (List.contains_cons ..).trans (by rw [F.noN]; rfl)
  refine codeAny_builtinAt G.entry ?_
  unfold Builtin.«BaseException.__new__»
  refine PySem.wpAt_bind ?_
  refine PySem.wpAt_bind (PySem.wpAt_stack fun p below => PySem.wpAt_of_wpAny ?_)
  wp_walk
  refine PySem.wpAt_of_wpAny ?_
  rw [G.owner]
  repeat (first | with_reducible refine wpAny_madeHere_exc G.canon hC ?_ | with_reducible refine wpAny_loadPart_at hC ?_ | (with_reducible refine wpAny_isSubtype_exc hC ?_; first | rw [one] | rw [two] | rw [three]) | wp_step)
  show R _ _
  rw [Heap.size_push]
  exact hq
theorem tcall_at (F : MadeF newId bm) {rest : List Value} {fI : Addr} {Q : Fin → Shared → Prop} (hC : h.get? C = some (excClassObj nm q C N bs bm hdct sn sub ab col dd k0 k1 k2 k3 k5 newId)) (quiet : newId.startsWith "lifetime." = false)
    (hi : Looks (model prog w) h (typeLookup (.ref C) "__init__") (some (.ref fI))) (hb : ∀ self, Looks (model prog w) h (bindSpecial (.ref fI) self) (.ref fI, [self])) (few : rest.length ≤ sizeLine)
    (hq : codeAny (model prog w) A (.call (.ref fI) ⟨.ref (h.objs.size + 1) :: rest, []⟩) (fun r s' => match r with | .ok (.ret v) => v = .none ∧ Q (.done (.ret (.ref (h.objs.size + 1)))) s' | .ok _ => False | .error e => E e s')
      ⟨(h.push (kdv_tup rest)).push (HandSPX.excO C h.objs.size), g, d, t, os⟩) : wpAny (model prog w) A (Builtin.«type.__call__» ⟨.ref C :: rest, []⟩) Q E ⟨h, g, d, t, os⟩ := by
  repeat (first | with_reducible refine wpAny_loadPart_at hC ?_ | with_reducible refine wpAny_madeBy_exc hC ?_ | wp_step)
  refine codeAny_call_builtin_code (Code.quiet_builtin _ quiet) (chk_new F hC (new_at F hC ?_ few))
  show wpAny _ _ _ _ _ _
  have kp : ∀ b o, h.get? b = some o → ((h.push (kdv_tup rest)).push (HandSPX.excO C h.objs.size)).get? b = some o := fun b o e => Heap.get?_push_of_some _ (Heap.get?_push_of_some _ e)
  have hC1 := kp _ _ hC
  have here : ((h.push (kdv_tup rest)).push (HandSPX.excO C h.objs.size)).get? (h.objs.size + 1) = some (HandSPX.excO C h.objs.size) := by heap_get
  have own : (Value.ref C :: bm).contains (.ref C) = true := by simp
  have i1 := hi.keeps kp
  have b1 := (hb (.ref (h.objs.size + 1))).keeps kp
  unfold isInstance
  repeat (first | with_reducible refine wpAny_loadPart_at here ?_ | (with_reducible refine wpAny_isSubtype_exc hC1 ?_; rw [own]) | wp_step)
  show wpAny _ _ (typeLookup (.ref C) _) _ _ _
  refine i1.at (wpAny_holding (wpAny_bind (b1.at (wpAny_bind (wpAny_call (codeAny_mono hq fun r s' z => ?_))))))
  match r, z with
  | .error e, z => exact z
  | .ok .next, z => exact z.elim
  | .ok .brk, z => exact z.elim
  | .ok .cont, z => exact z.elim
  | .ok (.ret v), z =>
    obtain ⟨rfl, z⟩ := z
    first
      | exact wpAny_pure (wpAny_pure z)
      | (wp_walk; exact z)
theorem ccall_at (F : MadeF newId bm) {rest : List Value} {fI : Addr} (hC : h.get? C = some (excClassObj nm q C N bs bm hdct sn sub ab col dd k0 k1 k2 k3 k5 newId))
    (hi : Looks (model prog w) h (typeLookup (.ref C) "__init__") (some (.ref fI))) (hb : ∀ self, Looks (model prog w) h (bindSpecial (.ref fI) self) (.ref fI, [self])) (few : rest.length ≤ sizeLine)
    (hq : codeAny (model prog w) (A.under (.builtin "type.__call__" ⟨.ref C :: rest, []⟩)) (.call (.ref fI) ⟨.ref (h.objs.size + 1) :: rest, []⟩) (InitBack (h.objs.size + 1) R)
      ⟨(h.push (kdv_tup rest)).push (HandSPX.excO C h.objs.size), g, d, t, os⟩) : codeAny (model prog w) A (.call (.ref C) ⟨rest, []⟩) R ⟨h, g, d, t, os⟩ := by
  have quiet : newId.startsWith "lifetime." = false := by
    obtain ⟨_, _, _, G, _⟩ := F.ex
    exact G.quiet
  have f1 := tc_lookup
  have f2 := tc_bind (.ref C)
  have ty : (⟨h, g, d, t, os⟩ : Shared).TypeIs (.ref C) "type" := ⟨_, hC, rfl⟩
  refine codeAny_of_tree ?_
  show wpAny _ _ (callAny (.ref C) _) _ _ _
  repeat (any_goals (first | assumption | with_reducible refine wpAny_loadPart_at hC ?_ | wp_step))
  refine ⟨rfl, codeAny_call_builtin_at (Code.quiet_builtin _ (by decide +kernel)) entry_typeCall (wpAny_check_type_call_sub hC (tcall_at F hC quiet hi hb few (codeAny_mono hq fun r s' z => ?_)))⟩
  match r, z with
  | .error e, z => exact z
  | .ok .next, z => exact z
  | .ok .brk, z => exact z
  | .ok .cont, z => exact z
  | .ok (.ret v), z => exact z
theorem chk_init {B initId : String} (F : IniF B initId) {e : Addr} {oe : Obj} {rest : List Value} {Q : Unit → Shared → Prop} (hC : h.get? C = some (excClassObj nm q C N bs bm hdct sn sub ab col dd k0 k1 k2 k3 k5 newId)) (he : h.get? e = some oe) (hcls : oe.cls = .ref C)
    (hq : Q () ⟨h, g, d, t, os⟩) : wpAny M A (checkBoundCall initId ⟨.ref e :: rest, []⟩) Q E ⟨h, g, d, t, os⟩ := by
  have star := F.star
  simp only [checkBoundCall, F.kind, F.row]
  repeat (first | (with_reducible refine wpAny_loadPart_at he ?_; rw [hcls]) | with_reducible refine wpAny_loadPart_at hC ?_ | wp_step)
  refine wpAny_onRaise ?_
  have all : ∀ (a b : String) (n : Nat), Bind.check ⟨.positional, "*", B, .self, [⟨"args", .varPos, false⟩]⟩ a b n (List.map (fun x => x.fst) ({ pos := Value.ref e :: rest } : Args).kw) = pure () := fun a b n => check_star_args _ _ _ _ _ _
  rw [all]
  exact wpAny_pure hq
end
/-- the text of such a def -/
structure IText (params : Arguments) (body : List Stmt) (scope : Scope) (a f : Str) : Prop where
  pa : ∃ p q, params = { posonlyargs := [], args := [{ arg := "self", annotation := none, pos := p }, { arg := a, annotation := none, pos := q }], vararg := none, kwonlyargs := [], kw_defaults := [], kwarg := none, defaults := [] }
  bo : ∃ p0 p1 p2 p3 p4 p5 q1 q2 q3 q4, body = [.Expr (.Call (.Attribute (.Call (.Name "super" p0) [] [] p1) "__init__" p2) [.Name a p3] [] p4) p5, .Assign [.Attribute (.Name "self" q1) f q2] (.Name a q3) q4] ∧ (p2.endLine == p4.line) = true
  su : scope.names.lookup ("super" : Str) = some .globalImplicit
  cl : scope.names.lookup ("__class__" : Str) = some .free
  se : scope.names.lookup ("self" : Str) = some .local
  ar : scope.names.lookup a = some .local
  no : ∀ x ∈ scope.names, x.2 ≠ .cell
  kd : scope.kind = .function
  co : scope.isCoroutine = false
  ge : scope.isGenerator = false
  ne : (a == ("__debug__" : Str)) = false
  na : a ≠ "self"
/-- what the written part says of such a class -/
structure XTxt (P : Program) (K : Frag) (C : Addr) (f : Str) (newId initId B : String) (tl : List Value) : Prop where
  cls : ∃ nm q N bs sn sub ab col dd k0 k1 k2 k3 k5, K.lookup C = some (excClassObj nm q C N bs tl true sn sub ab col dd k0 k1 k2 k3 k5 newId)
  sa : findIn K (.ref C) "__setattr__" = some (some (.builtin "object.__setattr__"))
  ga : findIn K (.ref C) "__getattribute__" = some (some (.builtin "BaseException.__getattribute__"))
  gg : findIn K (.ref C) "__getattr__" = some none
  noN : findIn K (.ref C) f = some none
  init : ∃ fI, findIn K (.ref C) "__init__" = some (some (.ref fI)) ∧ typeIn K (.ref fI) = some (.type "function") ∧
    ∃ (oc : Value) (od : Option Addr) (nm qual : Str) (params : Arguments) (body : List Stmt) (scope : Scope) (kV doc pm : Value) (an : Option Addr) (cda : Addr) (ct : Value) (osl : Array (Option Value)) (cc : Addr) (a : Str),
      K.lookup fI = some ⟨oc, od, .func (ksFn nm qual params body scope .none kV doc pm an (.ref cda) ct cc), osl⟩ ∧ codeIn K (.ref cda) qual = true ∧ IText params body scope a f ∧ (∀ u v : Value, bindArgs (ksFn nm qual params body scope .none kV doc pm an (.ref cda) ct cc) ⟨[u, v], []⟩ = pure [(Str.ofString "self", u), (a, v)]) ∧
      (∃ cl cld csl, K.lookup cc = some ⟨cl, cld, .cell (some (.ref C)), csl⟩) ∧ ∃ ccl cdd vs ccs file tf, K.lookup cda = some ⟨ccl, cdd, .fields vs, ccs⟩ ∧ vs[2]? = some (.str file tf) ∧ ((P.main.file : Str) == file) = true
  kC : keepIn K (.ref C) = true
  exC : subIn K (.ref C) (.type "BaseException") = some true
  subB : subIn K (.ref C) (.type B) = some true
  tyC : typeIn K (.ref C) = some (.type "type")
  hdC : hasDictIn K C = true
  te : exmOne K (.ref C) (.ref C) = some true
  selfC : mroIn K C (.ref C) = some true
  sup : ks_superIn K C C "__init__" = some (some (.builtin initId))
  any : nsIn K cStatics "thirdparty.any" = some none
  nosup : nsIn K mainGlobals "super" = some none
  top : (P.main.scope.names.lookup ("super" : Str)).isSome = false
/-- what __init__ leaves of a fresh exception at x -/
structure Left (h h' : Heap) (x C dx t1 : Addr) (f : Str) (v : Value) : Prop where
  keep : ∀ b o, b ≠ x → h.get? b = some o → h'.get? b = some o
  obj : h'.get? x = some { cls := .ref C, dict := some dx, data := .fields #[.ref t1, .none, .none, .none, .bool false, .none] }
  big : h.objs.size ≤ dx
  ne : dx ≠ x
  ns : h'.Ns1 dx (fun y => if y = f then some v else none)
section
variable {prog : Program} {w : World} {A : Around} {E : Value → Shared → Prop} {R : Result → Shared → Prop} {K : Frag} {C : Addr} {f : Str} {newId initId B : String} {tl : List Value}
/-- self.f = v: the first field -/
theorem put_first (ch : Chain B newId initId tl) {hp : Heap} {g : Array GenState} {d : Drawn} {t : Nat} {os : OsState} {name : Str} {tk : Tok} {v : Value} {x : Addr} {fv : Array Value} {cd : ClassData}
    (X : K.In hp) (hx : hp.get? x = some { cls := .ref C, data := .fields fv }) (hcd : clsIn K C = some cd) (hm : cd.mro = .ref C :: tl) (hh : cd.hasDict = true) (ha : findIn K (.ref C) name = some none)
    (hq : ∀ h' tk' dx, (∀ b o, b ≠ x → hp.get? b = some o → h'.get? b = some o) → hp.objs.size ≤ dx → dx ≠ x → h'.get? x = some { cls := .ref C, dict := some dx, data := .fields fv } →
      h'.Ns1 dx (fun y => if y = name then some v else none) → R (.ok (.ret .none)) ⟨h', g, d, tk', os⟩) :
    codeAny (model prog w) A (.call (.builtin "object.__setattr__") ⟨[.ref x, .str name tk, v], []⟩) R ⟨hp, g, d, t, os⟩ := by
  have inst : InstAt hp x { cls := .ref C, data := .fields fv } C none := ⟨hx, rfl, rfl, trivial⟩
  have apart : x ≠ hp.objs.size := Nat.ne_of_lt (Heap.lt_size hx)
  have SF := ch.st
  have has : (Value.ref C :: tl).contains (.type "object") = true := by
    rw [List.contains_cons, SF.hasOwner, Bool.or_true]
  have mro : mroIn K C (.type "object") = some true := by
    unfold mroIn
    rw [hcd, Option.bind_some, hm, if_neg (by simp), has]
  have sub : Looks (model prog w) hp (isInstance (.ref x) (.type "object")) true := inst.type.andThen (looks_mroIn X mro)
  refine codeAny_call_builtin SF.slot.plain SF.entry (@check_slot (model prog w) _ _ ⟨hp, g, d, t, os⟩ "object.__setattr__" "object" "__setattr__" (.ref x) [.str name tk, v] [] _ SF.kind SF.split sub (SF.args (.ref x) (.str name tk) v) ?_)
  have lm : Looks (model prog w) hp (mroOf (.ref C)) cd.mro := (looks_clsIn X hcd).andThen .now
  have l3 : Looks (model prog w) hp (storeTaker? none) none := .now
  have pass : refuseLoop (.ref x) "__setattr__" cd.mro = pure () := by
    rw [hm, refuseLoop_ref]
    exact SF.passes _
  rw [osa_eq, refuse_eq]
  refine wpAny_bind (wpAny_bind (inst.type.at (wpAny_bind (lm.at ?_))))
  rw [pass]
  refine wpAny_pure (wpAny_bind (inst.type.at (wpAny_bind ((looks_findIn X ha).at (wpAny_bind (l3.at ?_))))))
  have hcls : Looks (model prog w) hp (classData C) cd := looks_clsIn X hcd
  show wpAny _ _ (storeInOwnDict (.ref x) (.ref C) (.str name tk) name v false) _ _ _
  obtain ⟨nm, bs, mro', ns, qn, hd, sn, sb, ab, col, del⟩ := cd
  dsimp only at hh
  subst hh
  unfold storeInOwnDict ownDictForStores
  repeat (first | with_reducible refine HandSPX.store_in_new ?_ ?_ | with_reducible refine wpAny_loadPart_at hx ?_ | with_reducible refine hcls.at ?_ | wp_step)
  · exact ⟨_, #[], _, (Heap.get?_update_ne _ _ _ _ apart.symm).trans (Heap.get?_push_at rfl rfl), rfl, fun e he => absurd he (by simp), fun _ => rfl⟩
  · intro h' tk' hn' hs
    have hx1 : (hp.push { cls := .type "dict", data := .dict #[] }).get? x = some { cls := .ref C, data := .fields fv } := Heap.get?_push_of_some _ hx
    refine hq h' tk' hp.objs.size (fun b o hb ho => ?_) (Nat.le_refl _) apart.symm ?_ hn'
    · exact (hs.2 b (Nat.ne_of_lt (Heap.lt_size ho))).trans ((Heap.get?_update_ne _ _ _ _ hb).trans (Heap.get?_push_of_some _ ho))
    · exact (hs.2 x apart).trans (Heap.get?_update_self _ hx1 rfl)
theorem ldV {M : Model} {s : Shared} {qual : Str} {scope : Scope} {L a : Addr} {cd : Value} {cc : Addr} {m : Str → Option Value} {x : Str} {pos : Pos} {v : Value} {Q : Value → Shared → Prop} {A : Around} {E : Value → Shared → Prop} (hn : s.heap.Ns L m) (hv : m x = some v) (hl : scope.names.lookup x = some .local) (hk : scope.kind = .function)
    (hd : (x == ("__debug__" : Str)) = false) (h : Q v s) : wpAny M A (eval (.Name x pos) (ksEnv qual scope L a cd cc)) Q E s := wpAny_Name (wpAny_loadName_local hk hl hn hv h) hd
theorem super_eq {p0 p1 p2 p3 p4 : Pos} {a : Str} {env : Env} (hli : (p2.endLine == p4.line) = true) :
    eval (.Call (.Attribute (.Call (.Name "super" p0) [] [] p1) "__init__" p2) [.Name a p3] [] p4) env = (do
      let ov ← attributeBase (.Call (.Name "super" p0) [] [] p1) "__init__" env (eval (.Call (.Name "super" p0) [] [] p1) env)
      standAt p2.atName
      let __x ← holding [ov] (getMethod ov "__init__" (do
        let __do_lift ← importBound (.Call (.Name "super" p0) [] [] p1) env
        pure (__do_lift.getD true)))
      match __x with
        | (f, first) => callWith p4 f first (backTo p4 (starEach [.Name a p3] env)) []) := by
  rw [arm_eval_Call]
  have hm : methodCallPos true (.Call (.Name "super" p0) [] [] p1) env p2 p4 = pure p4 := by
    unfold methodCallPos
    rw [hli]
    rfl
  have hm2 : ∀ ov, methodCall (.Call (.Name "super" p0) [] [] p1) "__init__" p2 p4 env ov ([Expr.Name a p3].length + ([] : List Keyword).length) (backTo p4 (starEach [.Name a p3] env)) (backToKw p4 (keywordEach [] env)) = (do
      let __x ← holding [ov] (getMethod ov "__init__" (do
        let __do_lift ← importBound (.Call (.Name "super" p0) [] [] p1) env
        pure (__do_lift.getD true)))
      match __x with
        | (f, first) => callWith p4 f first (backTo p4 (starEach [.Name a p3] env)) []) := by
    intro ov
    show (do
      let __x ← holding [ov] (getMethod ov "__init__" (do
        let __do_lift ← importBound (.Call (.Name "super" p0) [] [] p1) env
        pure (__do_lift.getD true)))
      match __x with
        | (f, first) => do
          let callPos ← methodCallPos true (.Call (.Name "super" p0) [] [] p1) env p2 p4
          callWith callPos f first (backTo p4 (starEach [.Name a p3] env)) []) = _
    rw [hm]
    rfl
  simp only [hm2]
/-- super().__init__(..), the built-in one bound to x, called -/
theorem bound_run (ch : Chain B newId initId tl) {hh : Heap} {g : Array GenState} {d : Drawn} {t : Nat} {os : OsState} {u x t0 : Addr} {rest : List Value} {Q : Value → Shared → Prop} {nm q : Str} {N : Addr} {bs : List Value} {sn : List Str} {sub : List Value} {ab : Bool} {col : Option Bool} {dd : Option Addr} {k0 k1 k2 k3 k5 : Option Value}
    (hC : hh.get? C = some (excClassObj nm q C N bs tl true sn sub ab col dd k0 k1 k2 k3 k5 newId)) (hu : hh.get? u = some (kxs_mw initId x)) (hx : hh.get? x = some (HandSPX.excO C t0)) (hz : rest.length ≤ sizeLine)
    (k : ∀ h', (∀ b o, b ≠ x → hh.get? b = some o → h'.get? b = some o) → h'.get? x = some (HandSPX.excO C hh.objs.size) → Q .none ⟨h', g, d, t, os⟩) : wpAny (model prog w) A (call (.ref u) rest) Q E ⟨hh, g, d, t, os⟩ := by
  refine wpAny_call (codeAny_of_tree ?_)
  show wpAny _ A.in1 (callAny (.ref u) ⟨rest, []⟩) _ _ _
  simp only [callAny]
  refine wpAny_bind (wpAny_load hu ?_)
  have m1 : (Value.type "method-wrapper" == Value.type "method" || Value.type "method-wrapper" == Value.type "builtin_function_or_method" || Value.type "method-wrapper" == Value.type "method-wrapper") = true := by decide
  simp only [kxs_mw, m1, if_true]
  refine KFB.if_so (by decide) (wpAny_bind (chk_init ch.ini hC hx rfl (wpAny_bind (wpAny_pure (wpAny_pure ⟨plainId_quiet ch.ini.slot.plain _, codeAny_builtin ch.ini.entry ?_⟩)))))
  exact exc_init_tree (cls := .ref C) (t0 := t0) (dv := none) (c2 := .none) (c3 := .none) (b4 := .bool false) hx hz fun h' kp e _ => k h' kp e
/-- the def, called on a fresh exception -/
theorem init_run (ch : Chain B newId initId tl) (T : XTxt prog K C f newId initId B tl) {s : Shared} {mg mb : Str → Option Value} {x t0 : Addr} {v : Value} (X : K.In s.heap) (gl : s.heap.Ns mainGlobals mg) (bl : s.heap.Ns builtinsNs mb) (bb : ∀ x : Str, x ≠ "__name__" → mb x = bootBuiltins x)
    (nl : s.heap.NoLimit) (hx : s.heap.get? x = some (HandSPX.excO C t0)) (hnx : K.lookup x = none) (room : A.depth < recursionLimit) {fI : Addr} (hfI : findIn K (.ref C) "__init__" = some (some (.ref fI)))
    (hq : ∀ h' tk dx t1, Left s.heap h' x C dx t1 f v → R (.ok (.ret .none)) { s with heap := h', toks := tk }) : codeAny (model prog w) A (.call (.ref fI) ⟨[.ref x, v], []⟩) R s := by
  obtain ⟨fI', h1, h2, oc, od, nmI, qual, params, body, scope, kV, doc, pm, an, cda, ct, osl, cc, a, ho, hcd, TX, hbind, ⟨clc, cld, csl, hcell⟩, ccl, cdd, vs, ccs, file, tf, hcode, hvs, hfile⟩ := T.init
  have same := hfI.symm.trans h1
  cases same
  obtain ⟨nmC, qC, N, bs, sn, sub, ab, col, dd, k0, k1, k2, k3, k5, hC⟩ := T.cls
  have hcl : clsIn K C = some { name := nmC, bases := bs, mro := .ref C :: tl, ns := N, qualname := qC, hasDict := true, slotNames := sn, subclasses := sub, abstract := ab, collection := col, hasDel := false } := by
    unfold clsIn
    rw [hC]
  obtain ⟨pa1, pa2, hpa⟩ := TX.pa
  obtain ⟨p0, p1, p2, p3, p4, p5, q1, q2, q3, q4, hbo, hli⟩ := TX.bo
  subst hpa hbo
  refine ks_codeAny_call_defAt room (X _ _ ho) rfl nl (codeRec_of X hcd) rfl (BindsTo.of_eq (hbind _ _)) TX.no (fun y hy => ?_) (fun h1 ns1 kp1 => ?_) TX.co TX.ge TX.kd
  · simp only [List.mem_cons, List.not_mem_nil, or_false] at hy
    rcases hy with rfl | rfl
    · exact TX.se
    · exact TX.ar
  · have X1 : K.In h1 := X.keeps kp1
    have hx1 := kp1 _ _ hx
    have ma : ([(Str.ofString "self", Value.ref x), (a, v)] : List (Str × Value)).reverse.lookup a = some v := by simp [List.lookup]
    have ms : ([(Str.ofString "self", Value.ref x), (a, v)] : List (Str × Value)).reverse.lookup (Str.ofString "self") = some (.ref x) := by
      have : (Str.ofString "self" == a) = false := by simpa using Ne.symm TX.na
      simp [List.lookup, this]
    have old : s.heap.objs.size < h1.objs.size := ns1.lt
    have inst1 : InstAt h1 x (HandSPX.excO C t0) C none := ⟨hx1, rfl, rfl, trivial⟩
    obtain ⟨hh, g, d, tk, os⟩ := s
    generalize hL : (⟨hh, g, d, tk, os⟩ : Shared).heap.objs.size = L at ns1 old ⊢
    have ke : ∀ y, (ksEnv qual scope L fI (.ref cda) cc).kindOf y = scope.names.lookup y := fun _ => rfl
    refine ks_wpAt_execs_cons (ks_wpAt_Expr_any (ks_wpAt_MethodCall ?_ (super_eq hli)) ?_ ?_)
    · have hC1 := X1 _ _ hC
      refine ks_wpAt_super_base (attr := Str.ofString "__init__") (env := ksEnv qual scope L fI (.ref cda) cc) TX.su TX.cl (by decide) rfl (X1 _ _ ho) rfl rfl rfl (X1 _ _ hcode) rfl hvs hfile T.top ?_
      refine ks_loadName_global TX.kd TX.su (loadGlobal_builtin (env := ksEnv qual scope L fI (.ref cda) cc) (mg := mg) (mb := mb) ?_ (mg_none_of X gl T.nosup) ?_ ((bb _ (by decide +kernel)).trans (by rfl)) ⟨rfl, ?_⟩)
      · exact gl.keeps kp1
      · exact bl.keeps kp1
      refine wpAny_loadName_free TX.kd TX.cl rfl ⟨_, X1 _ _ hcell, rfl⟩ ?_
      refine wpAny_loadName_local TX.kd TX.se ns1 ms ?_
      refine ks_wpAny_isType_cls hC1 rfl ⟨rfl, ?_⟩
      refine ks_wpAny_call_super hC1 rfl hx1 rfl (fun c e => by cases e) (looks_mroIn X1 T.selfC) (fun h2 so kp2 => ?_)
      have X2 : K.In h2 := X1.keeps kp2
      have hx2 := kp2 _ _ hx1
      have inst2 : InstAt h2 x (HandSPX.excO C t0) C none := ⟨hx2, rfl, rfl, trivial⟩
      have hal : alongIn K (Str.ofString "__init__") tl = some (some (.builtin initId)) := by
        have z := T.sup
        unfold ks_superIn at z
        rw [hcl, Option.bind_some] at z
        simpa [List.dropWhile_cons] using z
      refine kxs_getMethod ch.kx (l₀ := .ref C :: tl) (l := tl) so (looks_opaque X2 T.any) (fun A Q E s k q => wpAny_bind ((looks_clsIn X2 hcl) A _ E s k (wpAny_pure q))) (by simp [List.dropWhile_cons]) X2 hal (inst2.type.andThen (looks_subIn X2 T.subB)) (ks_ne X2 inst2 hcl) (by decide) ?_
      have kp3 : ∀ b o, h2.get? b = some o → (h2.push (kxs_mw initId x)).get? b = some o := fun b o e => Heap.get?_push_of_some _ e
      have ns3 : (h2.push (kxs_mw initId x)).Ns L fun y => ([(Str.ofString "self", Value.ref x), (a, v)] : List (Str × Value)).reverse.lookup y := (ns1.keeps kp2).keeps kp3
      refine kxs_callWith (i := initId) (x := x) rfl (evalArgs_plain (args_cons (ldV ns3 ma TX.ar TX.kd TX.ne (args_nil ⟨Heap.get?_push_at rfl rfl, ?_⟩)) rfl))
      have hLx : L ≠ x := fun z => by
        have := Heap.lt_size hx
        rw [hL, z] at this
        exact absurd this (Nat.lt_irrefl _)
      have hx3 := kp3 _ _ hx2
      show wpAny _ _ (call (.ref h2.objs.size) [v]) _ _ _
      refine bound_run ch (kp3 _ _ (kp2 _ _ hC1)) (Heap.get?_push_at rfl rfl) hx3 (by show 1 ≤ 16777216; decide) fun h4 kp4 hx4 => ?_
      generalize h2.push (kxs_mw initId x) = h3 at *
      have ns4 : h4.Ns L fun y => ([(Str.ofString "self", Value.ref x), (a, v)] : List (Str × Value)).reverse.lookup y := ns3.at fun o q => kp4 L o hLx q
      refine wpAt_of_wpAny ?_
      show wpAny _ _ (execs _ _) _ _ _
      refine wpAny_execs_cons (plainObj_wpAny_Assign_Attribute ?_)
      refine ldV ns4 ma TX.ar TX.kd TX.ne (ldV ns4 ms TX.se TX.kd (by decide) ?_)
      have X4 : K.In h4 := fun b o e => by
        by_cases z : b = x
        · rw [z, hnx] at e
          cases e
        · exact kp4 b o z (kp3 _ _ (X2 b o e))
      refine set_plain X4 (ox := HandSPX.excO C _) (od := none) ⟨hx4, rfl, rfl, trivial⟩ T.sa ?_
      refine put_first ch X4 hx4 hcl rfl rfl T.noN fun h5 tk5 dx kp5 big ne hx5 ns5 => ?_
      show wpAny _ _ (execs _ _) _ _ _
      exact wpAny_execs_nil (hq h5 _ dx _ ⟨fun b o hb e => kp5 b o hb (kp4 b o hb (kp3 _ _ (kp2 _ _ (kp1 b o e)))), hx5, (show hh.objs.size ≤ dx from (show hh.objs.size = L from hL) ▸ Nat.le_of_lt (Nat.lt_of_lt_of_le ns4.lt big)), ne, ns5⟩)
    · unfold interactive
      show (scope.kind == _ && _) = false
      rw [TX.kd]
      rfl
    · rfl
/-- a made error -/
structure Made (h h' : Heap) (e C d : Addr) (f : Str) (v : Value) : Prop where
  keep : ∀ b o, h.get? b = some o → h'.get? b = some o
  new : h.objs.size ≤ e
  obj : ∃ oe vs, h'.get? e = some oe ∧ oe.cls = .ref C ∧ oe.dict = some d ∧ oe.data = .fields vs ∧ vs[1]? = some .none ∧ vs[2]? = some .none
  dbig : h.objs.size ≤ d
  dne : d ≠ e
  ns : h'.Ns1 d (fun y => if y = f then some v else none)
theorem made_run (ch : Chain B newId initId tl) (T : XTxt prog K C f newId initId B tl) {s : Shared} {mg mb : Str → Option Value} {v : Value} (X : K.In s.heap) (gl : s.heap.Ns mainGlobals mg) (bl : s.heap.Ns builtinsNs mb) (bb : ∀ x : Str, x ≠ "__name__" → mb x = bootBuiltins x)
    (nl : s.heap.NoLimit) (room : A.depth + 1 < recursionLimit)
    (hq : ∀ h' tk e d, Made s.heap h' e C d f v → R (.ok (.ret (.ref e))) { s with heap := h', toks := tk }) : codeAny (model prog w) A (.call (.ref C) ⟨[v], []⟩) R s := by
  obtain ⟨nmC, qC, N, bs, sn, sub, ab, col, dd, k0, k1, k2, k3, k5, hC⟩ := T.cls
  obtain ⟨fI, hfI, hty, -⟩ := T.init
  obtain ⟨hp, g, dr, tk, os⟩ := s
  have kp : ∀ b o, hp.get? b = some o → ((hp.push (kdv_tup [v])).push (HandSPX.excO C hp.objs.size)).get? b = some o := fun b o e => Heap.get?_push_of_some _ (Heap.get?_push_of_some _ e)
  have hget : ((hp.push (kdv_tup [v])).push (HandSPX.excO C hp.objs.size)).get? (hp.objs.size + 1) = some (HandSPX.excO C hp.objs.size) := by heap_get
  have hnx : K.lookup (hp.objs.size + 1) = none := by
    cases e : K.lookup (hp.objs.size + 1) with
    | none => rfl
    | some o =>
      have z : hp.get? (hp.objs.size + 1) = some o := X _ _ e
      exact absurd (Nat.lt_of_succ_lt (Heap.lt_size z)) (Nat.lt_irrefl _)
  refine ccall_at ch.made (X _ _ hC) (looks_findIn X hfI) (fun self => bind_fn X self hty) (by show 1 ≤ sizeLine; decide) ?_
  refine init_run ch T (s := ⟨(hp.push (kdv_tup [v])).push (HandSPX.excO C hp.objs.size), g, dr, tk, os⟩) (X.keeps kp) (gl.keeps kp) (bl.keeps kp) bb (nl.keeps kp) hget hnx ?_ hfI fun h' tk' dx t1 ⟨k', hx, dn, dne, hns⟩ => ?_
  · show A.depth + 1 < recursionLimit
    exact room
  · have old : ∀ b o, hp.get? b = some o → h'.get? b = some o := fun b o e => k' b o (Nat.ne_of_lt (Nat.lt_succ_of_lt (Heap.lt_size e))) (kp b o e)
    have z : hp.objs.size + 1 + 1 ≤ dx := by
      first
        | (simpa only [Heap.size_push] using dn)
        | exact dn
        | (have q := dn; rw [Heap.size_push, Heap.size_push] at q; exact q)
    exact ⟨rfl, hq h' tk' (hp.objs.size + 1) dx ⟨old, Nat.le_succ _, ⟨_, _, hx, rfl, rfl, rfl, rfl, rfl⟩, Nat.le_trans (Nat.le_trans (Nat.le_succ _) (Nat.le_succ _)) z, dne, hns⟩⟩
end
end Ox

set_option maxRecDepth 100000
set_option maxHeartbeats 4000000
/-! errors that leave a def, with what is known of their context: none, or an exception of the ground whose own context is none (the kit's layer with contexts None alone: L2N) -/
namespace Oc
open PySem PySem.W PySem.Calls PyProof.Rows PySem.Spec L2
/-- the context of an exception: none, or one of the ground, not known of, whose context is none -/
def CtxB (B : Heap) (H : Hp) (o : Obj) : Prop := ∀ vs : Array Value, o.data = .fields vs → vs[2]? = some .none ∨
  ∃ b ob vb, vs[2]? = some (.ref b) ∧ H b = none ∧ B.get? b = some ob ∧ ob.data = .fields vb ∧ vb[2]? = some .none
def Zb (B : Heap) (H : Hp) (cls : Value) (d : Option Addr) (o : Obj) : Prop := o.cls = cls ∧ o.dict = d ∧ CtxB B H o
theorem steady_ctxB {B : Heap} {H : Hp} : PXN.Steady1 (CtxB B H) := by
  intro o v h vs e
  obtain ⟨c, dd, dt, sl⟩ := o
  cases dt with
  | fields us =>
    have e2 : us.setIfInBounds 1 v = vs := by
      have z : Data.fields (us.setIfInBounds 1 v) = .fields vs := e
      exact Data.fields.inj z
    subst e2
    have q : (us.setIfInBounds 1 v)[2]? = us[2]? := Array.getElem?_setIfInBounds_ne (by decide)
    rw [q]
    exact h us rfl
  | _ => cases e
theorem steady_Zb {B : Heap} {H : Hp} {cls : Value} {d : Option Addr} : PXN.Steady1 (Zb B H cls d) :=
  PXN.steady_and PXN.steady_cls (PXN.steady_and PXN.steady_dict steady_ctxB)
/-- what is known of the object of an error: by the ground and what is known of the heap -/
abbrev ZF := Heap → Hp → Value → Option Addr → Obj → Prop
structure ZOk (Z : ZF) : Prop where
  st : ∀ {B H cls d}, PXN.Steady1 (Z B H cls d)
  zc : ∀ {B H cls d o}, Z B H cls d o → Zc cls d o
abbrev zC : ZF := fun _ _ => Zc
abbrev zN : ZF := fun _ _ => L2N.Zn
theorem zb_ok : ZOk Zb := ⟨steady_Zb, fun h => ⟨h.1, h.2.1⟩⟩
theorem zc_ok : ZOk zC := ⟨PXN.steady_and PXN.steady_cls PXN.steady_dict, fun h => h⟩
theorem zn_ok : ZOk zN := ⟨L2N.Zn.steady, fun h => ⟨h.1, h.2.1⟩⟩
variable {Z : ZF}
def XE (Z : ZF) (X : Cx) (W : WX) (u : Value) (s' : Shared) : Prop := ∃ a B sI pins σ H cls d, u = .ref a ∧ Inv X pins σ H sI ∧ (∀ b o, sI.heap.get? b = some o → b ∉ frs X.stack → B.get? b = some o) ∧
  sI.heap.UpToSlots s'.heap ∧ Sky B X.stack a (Z B H cls d) X.env.locals s'.heap ∧ H a = none ∧ s'.os = sI.os ∧ AllBare s'.gens ∧ W cls d σ H
def CX (Z : ZF) (P : Program) (w : World) (outer : List Env) (H : Hp) (s : Shared) (E : XK) (u : Value) (s' : Shared) : Prop := ∃ a B H' cls d, u = .ref a ∧ HandSPX.FlyingZ B outer a (Z B H' cls d) s'.heap ∧
  HOk P w H' B ∧ UB (frs outer) H H' s.heap B s'.heap ∧ H' a = none ∧ s'.os = s.os ∧ AllBare s'.gens ∧ E cls d H'
def Takes (Z : ZF) (X : Cx) (W : WX) : Prop := ∀ u s', XE Z X W u s' → X.xe u s'
theorem Takes.imp {X : Cx} {W W' : WX} (t : Takes Z X W) (h : ∀ c d σ H, W' c d σ H → W c d σ H) : Takes Z X W' := by
  rintro u s' ⟨a, B, sI, pins, σ, H, cls, d, e, I, nb, up, sky, na, os, ag, w⟩
  exact t u s' ⟨a, B, sI, pins, σ, H, cls, d, e, I, nb, up, sky, na, os, ag, h _ _ _ _ w⟩
theorem XE.of_call {X : Cx} {pins : List (Addr × Obj)} {σ : L2.St} {H : Hp} {s s' : Shared} {W : WX} {E : XK} (I : Inv X pins σ H s) (hW : ∀ cls d H', E cls d H' → W cls d σ H') {u : Value} (c : CX Z X.prog X.w X.stack H s E u s') : XE Z X W u s' := by
  obtain ⟨a, B, H', cls, d, rfl, fl, hok, ub, na, os, ag, hE⟩ := c
  obtain ⟨G, g1, g2⟩ := L2.restrict s'.heap fun b => (B.get? b).isSome || decide (b ∈ frs X.stack)
  have st := fl.1
  have gB : ∀ b o, B.get? b = some o → G.get? b = some o := fun b o e => by
    rw [g1 b (by simp [e])]
    exact st b o e
  have gF : ∀ b, b ∈ frs X.stack → G.get? b = s'.heap.get? b := fun b hb => g1 b (by simp [hb])
  have og : ∀ b o, G.get? b = some o → s'.heap.get? b = some o ∧ ((B.get? b).isSome = true ∨ b ∈ frs X.stack) := fun b o e => by
    cases q : ((B.get? b).isSome || decide (b ∈ frs X.stack)) with
    | false =>
      rw [g2 b q] at e
      cases e
    | true =>
      rw [g1 b q] at e
      exact ⟨e, by simpa using q⟩
  refine ⟨a, B, ⟨G, s'.gens, s'.drawn, s'.toks, s.os⟩, pins, σ, H', cls, d, rfl, ?_, ?_, ?_, Or.inr (Or.inl fl), na, os, ag, hW _ _ _ hE⟩
  · refine Inv.call (ch := []) I ⟨fun b o e n hb _ => gB b o (ub.keep b o e n hb), fun b o e n hb _ => ?_, fun b o e n _ => ub.free b o e n, fun b o e _ => ?_, ub.tups, ub.frzs, ub.tbls⟩ (HOk.kept hok gB) ag (fun _ z => nomatch z)
    · obtain ⟨sl, q⟩ := ub.slot b o e hb
      exact ⟨sl, (gF b hb).trans q⟩
    · by_cases hb : b ∈ frs X.stack
      · obtain ⟨sl, q⟩ := ub.slot b o e hb
        exact ⟨_, (gF b hb).trans q⟩
      · obtain ⟨o', q⟩ := ub.there b o e hb
        exact ⟨o', gB b o' q⟩
  · intro b o e hb
    obtain ⟨e', h⟩ := og b o e
    rcases h with h | h
    · obtain ⟨o', q⟩ := Option.isSome_iff_exists.mp h
      have := st b o' q
      rw [e'] at this
      cases this
      exact q
    · exact absurd h hb
  · exact Heap.UpToSlots.of_keeps fun b o e => (og b o e).1
theorem passAt {X : Cx} {W : WX} (tk : Takes Z X W) (σ : L2.St) : PassesAt (CX Z X.prog X.w) X σ (WE W σ) := fun _ _ _ e s' I c => tk e s' (XE.of_call I (fun _ _ _ h => h) c)
theorem xe_c {X : Cx} {W : WX} {u : Value} {s' : Shared} : XE zC X W u s' = L2.XE X W u s' := rfl
theorem cx_c : CX zC = L2.CX := rfl
theorem xe_n {X : Cx} {W : WX} {u : Value} {s' : Shared} : XE zN X W u s' = L2N.XE X W u s' := rfl
theorem cx_n : CX zN = L2N.CX := rfl
theorem XE.leave (hZ : ZOk Z) {X : Cx} {s' : Shared} {W : WX} {E : XK} (hs : X.stack = X.env :: X.outer) (hf : X.env.frame = some X.env.locals) (hex : X.ex = []) {E₁ : Value → Shared → Prop} (hW : ∀ cls d σ H, W cls d σ H → E cls d H) {u : Value}
    (x : XE Z X W u s') : wpAny (model X.prog X.w) X.A (leaving X.env u) (fun _ s'' => CX Z X.prog X.w X.outer X.H_0 X.s_0 E u s'') E₁ s' := by
  obtain ⟨a, B, sI, pins, σ, H, cls, d, rfl, I, nb, up, sky, na, os, ag, w⟩ := x
  have hfr : X.A.frames = some (X.env :: X.outer) := I.ok.frames.trans (congrArg some hs)
  have nst : ∀ b (o : Obj), X.s_0.heap.get? b = some o → b ∉ frs X.outer → b ∉ frs X.stack := fun b o e hb hm => by
    rcases List.mem_cons.mp (L2.Inv.stkSub I b hm) with z | z
    · have h1 := Heap.lt_size e
      have h2 := I.ok.above
      rw [z] at h1
      exact absurd (Nat.lt_of_lt_of_le h1 h2) (Nat.lt_irrefl _)
    · exact hb z
  have hex' : ∀ b, b ∉ X.ex := fun b hb => by
    rw [hex] at hb
    cases hb
  have hokB := L2.Inv.inGround I nb
  have fin : ∀ h', HandSPX.FlyingZ B X.outer a (Z B H cls d) h' → s'.heap.UpToSlots h' → CX Z X.prog X.w X.outer X.H_0 X.s_0 E (.ref a) ⟨h', s'.gens, s'.drawn, s'.toks, s'.os⟩ := fun h' fl up' => by
    refine ⟨a, B, H, cls, d, rfl, fl, hokB, ⟨fun b o e n hb => nb b o (I.base.keep b o e n hb (hex' b)) (nst b o e hb), fun b o e hb => ?_, fun b o e n => I.base.free b o e n (hex' b), fun b o e hb => ?_, I.base.tups, I.base.frzs, I.base.tbls⟩, na, os.trans I.os, ag, hW _ _ _ _ w⟩
    · obtain ⟨_, o₀, e₀, hnf⟩ := Heap.FunFrames.mem I.ok.funs hb
      rw [e] at e₀
      cases e₀
      obtain ⟨sl, e1⟩ := I.base.slot b o e (I.ok.frf b hb) hb (hex' b)
      obtain ⟨sl2, e2⟩ := up b _ e1 hnf
      obtain ⟨sl3, e3⟩ := up' b _ e2 hnf
      exact ⟨sl3, e3⟩
    · obtain ⟨o', e1⟩ := I.base.there b o e (hex' b)
      exact ⟨o', nb b o' e1 (nst b o e hb)⟩
  rw [hs] at sky
  rcases sky with ⟨hB, hn, hl, oe, vs, he, hz, hd, h1⟩ | fl | hd
  · exact PXN.leaving_firstZ hZ.st hfr hl hf he hB hn hd h1 hz fin
  · exact PXN.leaves_onZ hZ.st hfr hf fl fin
  · exact HandSPX.leaves_heldZ hf hd fin
theorem takes_of (hZ : ZOk Z) {X : Cx} {E : XK} (hs : X.stack = X.env :: X.outer) (hf : X.env.frame = some X.env.locals) (hex : X.ex = []) {E₁ : Value → Shared → Prop}
    (hx : X.xe = fun e s' => wpAny (model X.prog X.w) X.A (leaving X.env e) (fun _ s'' => CX Z X.prog X.w X.outer X.H_0 X.s_0 E e s'') E₁ s') : Takes Z X fun cls d _ H => E cls d H := by
  intro u s' x
  rw [hx]
  exact XE.leave (W := fun cls d _ H => E cls d H) hZ hs hf hex (fun _ _ _ _ h => h) x
/-- knowing less of the object -/
theorem Takes.le {Z' : ZF} {X : Cx} {W : WX} (t : Takes Z X W) (h : ∀ B H cls d o, Z' B H cls d o → Z B H cls d o) : Takes Z' X W := by
  rintro u s' ⟨a, B, sI, pins, σ, H, cls, d, e, I, nb, up, sky, na, os, ag, w⟩
  refine t u s' ⟨a, B, sI, pins, σ, H, cls, d, e, I, nb, up, ?_, na, os, ag, w⟩
  rcases sky with ⟨hB, hn, hl, oe, vs, he, hz, hd, h1⟩ | fl | hd
  · exact Or.inl ⟨hB, hn, hl, oe, vs, he, h _ _ _ _ _ hz, hd, h1⟩
  · exact Or.inr (Or.inl (L2H.flyingZ_imp (fun o => h _ _ _ _ o) fl))
  · exact Or.inr (Or.inr ⟨hd.1, hd.2.1, hd.2.2.1, L2H.tracedZ_imp (fun o => h _ _ _ _ o) hd.2.2.2⟩)
theorem zn_zb {B : Heap} {H : Hp} {cls : Value} {d : Option Addr} {o : Obj} (h : L2N.Zn cls d o) : Zb B H cls d o := ⟨h.1, h.2.1, fun vs e => Or.inl (h.2.2 vs e)⟩
theorem Takes.ofC (hZ : ZOk Z) {X : Cx} {W : WX} (t : L2.Takes X W) : Takes Z X W := Takes.le (Z := zC) t fun _ _ _ _ _ h => hZ.zc h
/-- raise e: e made and new; what raiseNew does is told -/
theorem raise_by {prog : Program} {w : World} {A : Around} {E : Value → Shared → Prop} {env : Env} {s : Shared} {x : Sem Value} {Q : Flow → Shared → Prop}
    (h : wpAny (model prog w) A x (fun v s₁ => ∃ a oe vs cls, v = .ref a ∧ s₁.heap.get? a = some oe ∧ oe.cls = cls ∧ oe.data = .fields vs ∧ vs[1]? = some .none ∧ Looks (model prog w) s₁.heap (isSubtype cls (.type "BaseException")) true ∧
      Looks (model prog w) s₁.heap (typeOf cls) (.type "type") ∧ wpAny (model prog w) A (raiseNew (.ref a) : Sem Flow) Q E s₁) E s) : wpAny (model prog w) A (raiseStmt env (some x) none) Q E s := by
  show wpAny _ _ (do let xv ← x; _) _ _ _
  refine wpAny_bind (wpAny_mono h ?_ fun _ _ z => z)
  rintro v s₁ ⟨a, oe, vs, cls, rfl, ha, hcls, hd, h1, L1, L3, hn⟩
  have LT : Looks (model prog w) s₁.heap (typeOf (.ref a)) cls := fun A Q E s k q => wpAny_typeOf_ref (k a oe ha) (by rw [hcls]; exact q)
  have LI : Looks (model prog w) s₁.heap (isInstance (.ref a) (.type "BaseException")) true := Looks.andThen LT L1
  have hnt : ∀ {Q' : Bool → Shared → Prop}, Q' false s₁ → wpAny (model prog w) A (isType (.ref a)) Q' E s₁ := fun {Q'} hq => by
    refine wpAny_bind (wpAny_loadPart ha ?_)
    rw [hd]
    exact wpAny_pure hq
  refine wpAny_bind (wpAny_pure ?_)
  refine wpAny_bind (wpAny_holding ?_)
  show wpAny _ _ (excFromValue (.ref a) _) _ _ _
  unfold excFromValue isExcClass
  refine wpAny_bind (wpAny_bind (hnt ?_))
  simp only [Bool.false_eq_true, if_false]
  refine wpAny_pure (wpAny_bind (LI.here ?_))
  simp only [if_true]
  refine wpAny_pure (wpAny_bind (hnt ?_))
  simp only [Bool.false_eq_true, if_false]
  show wpAny _ _ (raisedInstance (.ref a) >>= _) _ _ _
  unfold raisedInstance
  refine wpAny_bind (wpAny_bind (LT.here (wpAny_bind (L3.here ?_))))
  rw [if_pos (beq_self_eq_true _)]
  refine wpAny_pure (wpAny_bind ?_)
  unfold setFlight
  refine wpAny_bind (wpAny_field ha hd h1 ?_)
  rw [if_neg (by decide)]
  exact wpAny_pure hn
/-- the handled error's context does not lead to the new one -/
def Quiet (M : Model) (A : Around) (E : Value → Shared → Prop) (a x1 : Addr) (s : Shared) : Prop := ∀ Q : Value → Shared → Prop, Q .none s → wpAny M A (holding [.ref a] (runValue (.builtin "proto.unchain" ⟨[.ref a, .ref x1, .ref x1, .bool false], []⟩))) Q E s
theorem raiseNew_un {prog : Program} {w : World} {A : Around} {E : Value → Shared → Prop} {s : Shared} {α : Type} {a x1 : Addr} {oe : Obj} {vs : Array Value} {Q : α → Shared → Prop} (hh : A.handled = some (.ref x1)) (un : Quiet (model prog w) A E a x1 s)
    (hne : x1 ≠ a) (ha : s.heap.get? a = some oe) (da : oe.data = .fields vs) (hi : 2 < vs.size) (hE : E (.ref a) { s with heap := s.heap.update a (Obj.mapFields fun x => x.setIfInBounds 2 (.ref x1)) }) : wpAny (model prog w) A (raiseNew (.ref a)) Q E s := by
  unfold raiseNew
  refine wpAny_bind (wpAny_handled ?_)
  rw [hh]
  have hb := HotX.ref_bne hne
  show wpAny _ _ (if (Value.ref x1 != Value.ref a) = true then _ else _) _ _ _
  rw [if_pos hb]
  exact wpAny_bind (un _ (wpAny_bind (HotX.chained ha da hi (wpAny_throw hE))))
theorem raiseNew_cold {prog : Program} {w : World} {A : Around} {E : Value → Shared → Prop} {s : Shared} {α : Type} {a : Addr} {Q : α → Shared → Prop} (hh : A.handled = none) (hE : E (.ref a) s) : wpAny (model prog w) A (raiseNew (.ref a)) Q E s := by
  unfold raiseNew
  refine wpAny_bind (wpAny_handled ?_)
  rw [hh]
  exact wpAny_throw hE
theorem quiet_one {prog : Program} {w : World} {A : Around} {E : Value → Shared → Prop} {s : Shared} {a x1 : Addr} {o1 : Obj} {v1 : Array Value} (h1 : s.heap.get? x1 = some o1) (d1 : o1.data = .fields v1) (c1 : v1[2]? = some .none) : Quiet (model prog w) A E a x1 s :=
  fun Q q => HotX.unchained h1 d1 c1 q
theorem quiet_two {prog : Program} {w : World} {A : Around} {E : Value → Shared → Prop} {s : Shared} {a x1 x2 : Addr} {o1 o2 : Obj} {v1 v2 : Array Value} (h1 : s.heap.get? x1 = some o1) (d1 : o1.data = .fields v1) (c1 : v1[2]? = some (.ref x2)) (h2 : s.heap.get? x2 = some o2) (d2 : o2.data = .fields v2) (c2 : v2[2]? = some .none) (n1 : x2 ≠ a) (n2 : x2 ≠ x1) : Quiet (model prog w) A E a x1 s := by
  intro Q q
  refine wpAny_holding (wpAny_runValue (codeAny_builtin HotX.entry_unchain ?_))
  show wpAny _ _ (Builtin.«proto.unchain» _) _ _ _
  unfold Builtin.«proto.unchain»
  refine wpAny_bind (wpAny_field h1 d1 c1 ?_)
  rw [if_neg (by simp), if_neg (by simpa using n1), if_neg (by simpa using n2)]
  refine wpAny_bind (wpAny_pure ?_)
  refine wpAny_pure ⟨plainId_quiet (by decide +kernel) _, codeAny_builtin HotX.entry_unchain ?_⟩
  show wpAny _ _ (Builtin.«proto.unchain» _) _ _ _
  unfold Builtin.«proto.unchain»
  refine wpAny_bind (wpAny_field h2 d2 c2 ?_)
  rw [if_pos (by rfl)]
  exact wpAny_pure q
/-- the makers of errors serve this knowledge -/
structure ZMk (Z : ZF) : Prop where
  zn : ∀ {B H cls d o}, L2N.Zn cls d o → Z B H cls d o
theorem zb_mk : ZMk Zb := ⟨zn_zb⟩
theorem zc_mk : ZMk zC := ⟨fun h => ⟨h.1, h.2.1⟩⟩
theorem zn_mk : ZMk zN := ⟨fun h => h⟩
theorem XE.new {X : Cx} {pins : List (Addr × Obj)} {σ : L2.St} {H : Hp} {sI s' : Shared} {W : WX} {a : Addr} {oe : Obj} {vs : Array Value} {cls : Value} {d : Option Addr} (I : Inv X pins σ H sI) (k : ∀ b o, sI.heap.get? b = some o → s'.heap.get? b = some o)
    (hne : sI.heap.get? a = none) (he : s'.heap.get? a = some oe) (hz : Z (hideAll sI.heap (frs X.stack)) H cls d oe) (hd : oe.data = .fields vs) (h1 : vs[1]? = some .none) (na : H a = none) (os : s'.os = sI.os) (ag : AllBare s'.gens) (w : W cls d σ H) : XE Z X W (.ref a) s' := by
  refine ⟨a, hideAll sI.heap (frs X.stack), sI, pins, σ, H, cls, d, rfl, I, fun b o e hb => hideAll_get (frs X.stack) e hb, Heap.UpToSlots.of_keeps k, Or.inl ⟨fun b o e => k b o (of_hideAll (frs X.stack) e), ?_, ?_, oe, vs, he, hz, hd, h1⟩, na, os, ag, w⟩
  · cases q : (hideAll sI.heap (frs X.stack)).get? a with
    | none => rfl
    | some o =>
      have z := of_hideAll (frs X.stack) q
      rw [hne] at z
      cases z
  · exact Heap.FunFrames.of_keeps (fun b o e _ => ⟨o, k b o e, rfl⟩) (L2.funFrames_none (L2.Inv.stack I) fun b hb => hideAll_none (frs X.stack) hb)
/-- raise e, nothing handled -/
theorem ps_raise (hM : ZMk Z) {X : Cx} {W : WX} {e : Expr} {t : L2.St → Hp → XK → Prop} {pos : Pos} (hc : X.calm = true) (tk : Takes Z X W) (he : L2N.PMk X e t) : PS X (.Raise (some e) none pos) (fun _ σ H => t σ H fun cls d H' => W cls d σ H') := by
  refine ⟨fun pins s σ H D I h => wpAny_bind (wpAny_standAt (raise_by (wpAny_bind (wpAny_mono (he pins s σ H (fun cls d H' => W cls d σ H') I h) (fun u s1 hu => wpAny_bind (wpAny_standAt (wpAny_pure ?_))) fun _ _ z => z))))⟩
  obtain ⟨a, oe, vs, sI, H', cls, d, rfl, J, k, hne, ha, hz, hd, h1, na, os, ag, r, q⟩ := hu
  obtain ⟨r1, r2⟩ := r (model X.prog X.w) s1.heap (J.kIn.keeps k)
  exact ⟨a, oe, vs, cls, rfl, ha, hz.1, hd, h1, r1, r2, raiseNew_cold (I.ok.hd hc) (tk _ _ (XE.new J k hne ha (hM.zn hz) hd h1 na os ag q))⟩
theorem pin_stk {X : Cx} {pins : List (Addr × Obj)} {σ : L2.St} {H : Hp} {s : Shared} (I : Inv X pins σ H s) {p : Addr × Obj} (hp : p ∈ X.pn) : p.1 ∉ frs X.stack := by
  obtain ⟨_, _, n1, n2, _⟩ := I.pin p (List.mem_append_left _ hp)
  intro hm
  rcases List.mem_cons.mp (L2.Inv.stkSub I _ hm) with z | z
  · exact n1 z
  · exact n2 z
/-- raise e within a suite; the handled error has no context -/
theorem ps_raise1 {X : Cx} {W : WX} {e : Expr} {t : L2.St → Hp → XK → Prop} {pos : Pos} (hot : L2H.HotC X) (tk : Takes Zb X W) (he : L2N.PMk X e t) : PS X (.Raise (some e) none pos) (fun _ σ H => t σ H fun cls d H' => W cls d σ H') := by
  obtain ⟨p, ⟨hh, v1, e1, c1⟩, hp⟩ := hot
  refine ⟨fun pins s σ H D I h => wpAny_bind (wpAny_standAt (raise_by (wpAny_bind (wpAny_mono (he pins s σ H (fun cls d H' => W cls d σ H') I h) (fun u s1 hu => wpAny_bind (wpAny_standAt (wpAny_pure ?_))) fun _ _ z => z))))⟩
  obtain ⟨a, oe, vs, sI, H', cls, d, rfl, J, k, hne, ha, hz, hd, h1, na, os, ag, r, q⟩ := hu
  obtain ⟨r1, r2⟩ := r (model X.prog X.w) s1.heap (J.kIn.keeps k)
  obtain ⟨P1, P2, _, _, _⟩ := J.pin p (List.mem_append_left _ hp)
  have nap : p.1 ≠ a := fun z => by
    rw [z, hne] at P1
    cases P1
  have hi : 2 < vs.size := (Array.getElem?_eq_some_iff.mp (hz.2.2 vs hd)).1
  have hd' := Obj.data_mapFields hd (fun x => x.setIfInBounds 2 (Value.ref p.1))
  refine ⟨a, oe, vs, cls, rfl, ha, hz.1, hd, h1, r1, r2, raiseNew_un hh (quiet_one (k _ _ P1) e1 c1) nap ha hd hi (tk _ _ (XE.new J (fun b u z => ?_) hne (Heap.get?_update_self _ ha (Obj.isFreed_of_fields hd')) ⟨(Obj.cls_mapFields oe _).trans hz.1, (HandSPX.dict_mapFields oe _).trans hz.2.1, ?_⟩ hd' ?_ na os ag q))⟩
  · have nab : a ≠ b := fun y => by
      rw [← y, hne] at z
      cases z
    exact (Heap.get?_update_other _ _ nab).trans (k b u z)
  · intro vs' e'
    rw [hd'] at e'
    cases e'
    refine Or.inr ⟨p.1, p.2, v1, ?_, P2, hideAll_get _ P1 (pin_stk J hp), e1, c1⟩
    rw [Array.getElem?_setIfInBounds_self, if_pos hi]
  · exact (Array.getElem?_setIfInBounds_ne (by decide)).trans h1
/-- the handled error's context has no context -/
def Hot2 (X : Cx) : Prop := ∃ p q : Addr × Obj, X.A.handled = some (.ref p.1) ∧ p ∈ X.pn ∧ q ∈ X.pn ∧ q.1 ≠ p.1 ∧ ∃ v1 v2, p.2.data = .fields v1 ∧ v1[2]? = some (.ref q.1) ∧ q.2.data = .fields v2 ∧ v2[2]? = some .none
/-- raise e within a suite; the handled error has a context at most of depth one -/
theorem ps_raise2 {X : Cx} {W : WX} {e : Expr} {t : L2.St → Hp → XK → Prop} {pos : Pos} (hot : L2H.HotC X ∨ Hot2 X) (tk : L2.Takes X W) (he : L2N.PMk X e t) : PS X (.Raise (some e) none pos) (fun _ σ H => t σ H fun cls d H' => W cls d σ H') := by
  rcases hot with hot | ⟨p, p2, hh, hp, hp2, npp, v1, v2, e1, c1, e2, c2⟩
  · exact ps_raise1 hot (Takes.ofC zb_ok tk) he
  refine ⟨fun pins s σ H D I h => wpAny_bind (wpAny_standAt (raise_by (wpAny_bind (wpAny_mono (he pins s σ H (fun cls d H' => W cls d σ H') I h) (fun u s1 hu => wpAny_bind (wpAny_standAt (wpAny_pure ?_))) fun _ _ z => z))))⟩
  obtain ⟨a, oe, vs, sI, H', cls, d, rfl, J, k, hne, ha, hz, hd, h1, na, os, ag, r, q⟩ := hu
  obtain ⟨r1, r2⟩ := r (model X.prog X.w) s1.heap (J.kIn.keeps k)
  obtain ⟨P1, _, _, _, _⟩ := J.pin p (List.mem_append_left _ hp)
  obtain ⟨P2, _, _, _, _⟩ := J.pin p2 (List.mem_append_left _ hp2)
  have nap : p.1 ≠ a := fun z => by
    rw [z, hne] at P1
    cases P1
  have nap2 : p2.1 ≠ a := fun z => by
    rw [z, hne] at P2
    cases P2
  have hi : 2 < vs.size := (Array.getElem?_eq_some_iff.mp (hz.2.2 vs hd)).1
  have hd' := Obj.data_mapFields hd (fun x => x.setIfInBounds 2 (Value.ref p.1))
  refine ⟨a, oe, vs, cls, rfl, ha, hz.1, hd, h1, r1, r2, raiseNew_un hh (quiet_two (k _ _ P1) e1 c1 (k _ _ P2) e2 c2 nap2 npp) nap ha hd hi (tk _ _ (XE.new (Z := zC) J (fun b u z => ?_) hne (Heap.get?_update_self _ ha (Obj.isFreed_of_fields hd')) ⟨(Obj.cls_mapFields oe _).trans hz.1, (HandSPX.dict_mapFields oe _).trans hz.2.1⟩ hd' ?_ na os ag q))⟩
  · have nab : a ≠ b := fun y => by
      rw [← y, hne] at z
      cases z
    exact (Heap.get?_update_other _ _ nab).trans (k b u z)
  · exact (Array.getElem?_setIfInBounds_ne (by decide)).trans h1
end Oc

set_option maxRecDepth 100000
set_option maxHeartbeats 4000000
/-! own errors in the hand layer: made, their field read, asked by isinstance, caught where the suite raises, caught by several clauses with a name -/
namespace Ow
open PySem PySem.Spec PyProof.Rows L2 Oc
theorem relO_one {f : Str} {v : V} {u : Value} (r : RelV v u) (g : Str) : RelO (List.lookup g [(f, v)]) (if g = f then some u else none) := by
  by_cases h : g = f
  · subst h
    rw [if_pos rfl]
    have e : List.lookup g [(g, v)] = some v := by simp [List.lookup]
    rw [e]
    exact r
  · rw [if_neg h]
    have e1 : (g == f) = false := by simpa using h
    have e : List.lookup g [(f, v)] = none := by simp [List.lookup, e1]
    rw [e]
    trivial
section
variable {X : Cx} {C : Addr} {f x : Str} {newId initId B : String} {tl : List Value}
theorem room1 {k : Nat} {A : Around} (r : Room k A) : A.depth + 1 < recursionLimit := by
  have := r.dp
  omega
/-- C(e), an own error -/
def tMkOx (C : Addr) (f : Str) (ta : TA) : L2.St → Hp → XK → Prop := fun σ H Q => ta σ H fun vs H1 => ∃ v, vs = [v] ∧ ∀ d, H1 d = none → Q (.ref C) (some d) (upd H1 d (.xd [(f, v)]))
theorem pmk_ox {a : Expr} {ta : TA} {p pos : Pos} (ch : Ox.Chain B newId initId tl) (T : Ox.XTxt X.prog X.K C f newId initId B tl) (hr : X.A.depth + 1 < recursionLimit) (hm : X.mg x = some (.ref C)) (ha : PA X [a] ta) (hg : Gl X x) (hdb : (x == ("__debug__" : Str)) = false := by decide)
    (he : starEach [a] X.env = (false, eval a X.env) :: starEach [] X.env := by rfl) (hpl : (backTo pos (starEach [] X.env)).any (·.1) = false := by rfl) : L2N.PMk X (.Call (.Name x p) [a] [] pos) (tMkOx C f ta) := by
  intro pins s σ H Q I h
  refine wpAny_Call_Name_kw (ld_glob I hg hm ?_ hdb)
  refine PySem.W.callWith_K (h₀ := X.base) I.ok.mod.kin T.kC (thn (ha.run pos pins s σ H _ I h) fun us s1 hh => ?_) he hpl
  obtain ⟨vs, H1, I1, r1, v, ev, q1⟩ := hh
  subst ev
  refine ⟨I1.kIn, ?_⟩
  cases r1 with
  | cons rv rn =>
    rename_i u us'
    cases rn
    show wpAny _ _ (call (.ref C) [u]) _ _ _
    obtain ⟨mb, hmb, hbb⟩ := I1.mod.blt
    have lim := I1.nolimit
    obtain ⟨hp, g, dr, tk, os⟩ := s1
    refine wpAny_call (Ox.made_run ch T (v := u) I1.kIn (I1.mod.glob.keeps I1.bk) (hmb.keeps I1.bk) hbb lim hr fun h' tk' e d M => ?_)
    show L2N.MkP X pins σ Q (.ref e) ⟨h', g, dr, tk', os⟩
    obtain ⟨oe, fv, e1, e2, e3, e4, e5, e6⟩ := M.obj
    obtain ⟨G, g1, g2⟩ := restrict h' fun b => decide (b ≠ e)
    have gk : ∀ b, b ≠ e → G.get? b = h'.get? b := fun b hb => g1 b (decide_eq_true hb)
    have ge : G.get? e = none := g2 e (by simp)
    have old : ∀ b o, hp.get? b = some o → G.get? b = some o := fun b o z => (gk b (Nat.ne_of_lt (Nat.lt_of_lt_of_le (Heap.lt_size z) M.new))).trans (M.keep b o z)
    have ob : ObjOk X.prog X.w (upd H1 d (.xd [(f, v)])) G d (.xd [(f, v)]) := ⟨_, M.ns.at fun o z => (gk d M.dne).trans z, fun y => relO_one rv y⟩
    have J : Inv X pins σ (upd H1 d (.xd [(f, v)])) ⟨G, g, dr, tk', os⟩ := I1.laid (t' := tk') old M.dbig ob
    refine ⟨e, oe, fv, ⟨G, g, dr, tk', os⟩, _, .ref C, some d, rfl, J, fun b o z => ?_, ge, e1, ⟨e2, e3, fun ws hw => ?_⟩, e4, e5, ?_, rfl, I1.bare, raises_own T.exC T.tyC, q1 d (I1.hok.fresh M.dbig)⟩
    · by_cases hb : b = e
      · have z' : G.get? b = some o := z
        rw [hb, ge] at z'
        cases z'
      · exact (gk b hb).symm.trans z
    · rw [e4] at hw
      cases hw
      exact e6
    · rw [upd_ne (Ne.symm M.dne)]
      exact I1.hok.fresh M.new
/-- e.f, e the caught error at a -/
def tOxF (C a : Addr) (f : Str) (cls : Value) (d : Option Addr) (te : TE) : TE := fun σ H Q => te σ H fun x H1 => x = .ref a ∧ cls = .ref C ∧ ∃ dd v, d = some dd ∧ H1 dd = some (.xd [(f, v)]) ∧ Q v H1
theorem oxInst {P : Program} {w : World} {H : Hp} {s : Shared} {a dd : Addr} {oe : Obj} {v : V} (hok : HOk P w H s.heap) (ha : s.heap.get? a = some oe) (hz : Zc (.ref C) (some dd) oe) (hf : ∃ vs, oe.data = .fields vs) (hd : H dd = some (.xd [(f, v)])) :
    ∃ od u, PySem.W.InstAt s.heap a oe C (some od) ∧ PySem.W.lookIn f od = some (some u) ∧ RelV v u := by
  obtain ⟨mA, hns, hr⟩ : ObjOk P w H s.heap dd (.xd [(f, v)]) := hok dd _ hd
  obtain ⟨od, ho, hl⟩ := lookIn_ns hns
  have l : List.lookup f [(f, v)] = some v := by simp [List.lookup]
  obtain ⟨u, hu, ru⟩ := RelO.some_of (v := v) (o := mA f) (by rw [← l]; exact hr f)
  obtain ⟨vs, hv⟩ := hf
  exact ⟨od, u, ⟨ha, hz.1, by unfold PySem.W.notCls; rw [hv] <;> rfl, by rw [hz.2]; exact ho⟩, by rw [hl, hu], ru⟩
theorem pe_oxF {a : Addr} {oe : Obj} {cls : Value} {d : Option Addr} {e : Expr} {te : TE} {pos : Pos} (T : Ox.XTxt X.prog X.K C f newId initId B tl) (hz : Zc cls d oe) (hf : ∃ vs, oe.data = .fields vs) (hp : (a, oe) ∈ X.pn) (he : PE X e te)
    (hb : attributeBase e f X.env (eval e X.env) = eval e X.env := by rfl) : PE X (.Attribute e f pos) (tOxF C a f cls d te) := by
  refine ⟨fun pins s σ H Q I h => ?_⟩
  refine attr_of hb (thn (he.run pins s σ H _ I h) fun u s1 hh => ?_)
  obtain ⟨x, H1, I1, rx, ex, ec, dd, v, ed, ea, q⟩ := hh
  subst ex
  obtain rfl : u = Value.ref a := rx
  subst ec
  subst ed
  obtain ⟨ha, _⟩ := I1.pin (a, oe) (List.mem_append_left _ hp)
  obtain ⟨od, u, J, hu, ru⟩ := oxInst I1.hok ha hz hf ea
  exact PySem.HandSPX.exc_get I1.kIn J T.ga T.gg T.exC (PySem.W.findObj_own T.hdC T.noN rfl hu) (handed_of ru) ⟨v, H1, I1.tok _, ru, q⟩
end
/-! ### isinstance of a caught error with its own dict -/
section
variable {K : PySem.W.Frag} {x D : Addr} {ox od : Obj}
open PySem.W in
theorem classOf {prog : Program} {w : World} {A : Around} {E : Value → Shared → Prop} {s : Shared} {Q : Option Value → Shared → Prop} (c : ExcC K D) (X : K.In s.heap) (I : InstAt s.heap x ox D (some od)) (h : Q (some (.ref D)) { s with toks := s.toks + 1 }) :
    wpAny (model prog w) A (getAttr? (.ref x) "__class__") Q E s := by
  have hc : (clsIn K D).isSome = true := by
    obtain ⟨cd, e, _⟩ := any_some c.hd
    rw [e]
    rfl
  have found : findObj K D (some od) "__class__" = some (.bind (.builtin "getset_descriptor.__get__") (.builtin "object.__class__")) := findObj_data hc c.ha c.hn c.ht
  obtain ⟨hh, g, d, t, os⟩ := s
  have l0 := I.type (M := model prog w)
  have l1 := looks_findIn (M := model prog w) X c.hg
  have l2 := looks_findIn (M := model prog w) X c.hk
  have l3 := looks_find (M := model prog w) X I found
  have sb : Looks (model prog w) hh (isInstance (.ref x) (.type "BaseException")) true := l0.andThen (looks_subIn X c.hs)
  have b0 : (false && onTheHeap (Value.builtin "BaseException.__getattribute__")) = false := rfl
  have b2 : (Value.builtin "BaseException.__getattribute__" == Value.builtin "object.__getattribute__") = false := by decide +kernel
  have b1 : (onTheHeap (Value.ref D) && Value.builtin "BaseException.__getattribute__" == Value.builtin "object.__getattribute__") = false := by
    rw [b2]
    rfl
  unfold getAttr? getAttrBy? getAttrBy
  refine wpAny_bind (wpAny_mkText (wpAny_bind (wpAny_attempt (wpAny_holding (wpAny_bind (l0.at (wpAny_bind (l1.at ?_))))))))
  show wpAny _ _ (if (onTheHeap (Value.ref D) && Value.builtin "BaseException.__getattribute__" == Value.builtin "object.__getattribute__") = true then _ else _) _ _ _
  rw [b1, if_neg Bool.false_ne_true]
  unfold getAttrByItsOwn hookBefore
  refine wpAny_bind ?_
  rw [if_pos (show onTheHeap (Value.ref D) = true from rfl)]
  refine l2.at (wpAny_bind (wpAny_attempt (wpAny_holding ?_)))
  unfold callGetattribute
  rw [b0, if_neg Bool.false_ne_true]
  unfold boundAndCalled
  rw [PySem.F.excAttr_ValueError.ga.bind (.ref x)]
  refine wpAny_bind (wpAny_pure ?_)
  show wpAny _ _ (call (.builtin "BaseException.__getattribute__") [.ref x, .str "__class__" t]) _ _ _
  refine wpAny_call (codeAny_call_builtin PySem.F.excAttr_ValueError.ga.plain PySem.F.entry_bexc_ga ?_)
  refine @check_slot (model prog w) _ _ ⟨hh, g, d, t + 1, os⟩ "BaseException.__getattribute__" "BaseException" "__getattribute__" (.ref x) [.str "__class__" t] [] _ (by decide +kernel) (by decide +kernel) sb (PySem.F.args_bexc_ga (.ref x) (.str "__class__" t)) ?_
  unfold Builtin.«object.__getattribute__»
  refine wpAny_bind (wpAny_of_eq (a := ((Value.ref x : Value), [Value.str "__class__" t])) (by first | rfl | (simp only [slotArgs]; rfl)) (wpAny_bind (wpAny_pure (wpAny_bind (l0.at (wpAny_bind (l3.at ?_)))))))
  show wpAny _ _ (holding [Value.builtin "object.__class__"] (call (.builtin "getset_descriptor.__get__") [.builtin "object.__class__", .ref x, .ref D]) >>= ret) _ _ _
  refine wpAny_bind (wpAny_holding (wpAny_call (class_get (s := ⟨hh, g, d, t + 1, os⟩) (ox := ox) (od := some od) X I c.hm (wpAny_pure ?_))))
  show wpAny _ _ (handedOut (.ref D)) _ _ _
  rw [handedOut_of (v := .ref D) rfl]
  first
    | exact wpAny_pure (wpAny_pure h)
    | exact wpAny_pure h
    | exact wpAny_pure (wpAny_bind (wpAny_pure (wpAny_pure h)))
open PySem.W in
theorem kitD (c : ExcC K D) : KitX K (.ref x) (.ref D) (fun h => ∃ od, InstAt h x ox D (some od)) where
  ty := fun _ _ _ ⟨_, I⟩ => I.type
  it := fun _ _ X _ => by
    obtain ⟨cdD, hcD, _⟩ := any_some c.hd
    unfold clsIn at hcD
    split at hcD
    · rename_i c1 c2 c3 c4 ho
      exact fun A Q E s k q => by
        unfold isType loadHead
        exact wpAny_bind (wpAny_loadPart (k _ _ (X _ _ ho)) (wpAny_pure q))
    · cases hcD
  ne := fun h tp dd its n sl X htp => by
    obtain ⟨cdD, hcD, _⟩ := any_some c.hd
    refine Bool.eq_false_iff.mpr fun q => ?_
    have e : D = tp := Value.ref.inj (beq_iff_eq.mp q)
    subst e
    unfold clsIn at hcD
    split at hcD
    · rename_i c1 c2 c3 c4 ho
      have z := (X _ _ ho).symm.trans htp
      cases z
    · cases hcD
  ca := fun X ⟨_, I⟩ k => classOf c X I k
end
section
variable {X : Cx} {C : Addr} {f x : Str}
/-- isinstance(e, c), e the caught error at a with the own dict -/
def rIsO (K : PySem.W.Frag) (f : Str) (C a : Addr) (cls : Value) (d : Option Addr) : List V → Hp → VK → Prop := fun xs H Q => ∃ (c : V) (cv : Value) (b : Bool), xs = [.ref a, c] ∧ (∀ u, RelV c u → u = cv) ∧ cls = .ref C ∧ (∃ dd v, d = some dd ∧ H dd = some (.xd [(f, v)])) ∧ PySem.W.kitOne K (.ref C) cv = some b ∧ Q (.bl b) H
theorem call_isO {a : Addr} {oe : Obj} {cls : Value} {d : Option Addr} (c : ExcC X.K C) (hz : Zc cls d oe) (hf : ∃ vs, oe.data = .fields vs) (hp : (a, oe) ∈ X.pn) : CallR X (.builtin "isinstance") (rIsO X.K f C a cls d) := by
  intro pins s σ H xs us Q I r h
  obtain ⟨cc, cv, b, rfl, hcv, ec, ⟨dd, v, ed, ea⟩, e, q⟩ := h
  subst ec ed
  cases r with
  | cons rx rr =>
    cases rr with
    | cons rt rr =>
      cases rr
      cases rx
      have e1 := hcv _ rt
      subst e1
      obtain ⟨hget, _⟩ := I.pin (a, oe) (List.mem_append_left _ hp)
      obtain ⟨od, u, J, _, _⟩ := oxInst I.hok hget hz hf ea
      exact PySem.W.kia_one (kitD c) I.kIn ⟨od, J⟩ e (fun z => nomatch z) fun tk => ⟨.bl b, H, I.kept (t' := tk) fun _ _ z => z, rfl, q⟩
end
/-! ### a suite that raises; the caught error may have a context of depth one -/
section
variable {X : Cx} {pins : List (Addr × Obj)} {σ : L2.St} {H : Hp} {s : Shared}
def PinAt (X : Cx) (H : Hp) (h : Heap) (p : Addr × Obj) : Prop := h.get? p.1 = some p.2 ∧ H p.1 = none ∧ p.1 ≠ X.env.locals ∧ p.1 ∉ X.fs ∧ ∀ v, p.2.data ≠ .cell v
theorem okSuite (ok : X.Ok) (a : Addr) (pn : List (Addr × Obj)) : (L2H.suiteX X a pn).Ok := by
  obtain ⟨o1, o2, o3, o4, o5, o6, o7, o8, o9, o10, o11, o12, o13, o14, o15, o16, o17, o18⟩ := ok
  exact ⟨o1, o2, o3, o4, o5, o6, o7, o8, fun z => absurd (show false = true from z) Bool.false_ne_true, o10, o11, o12, o13, o14, o15, o16, o17, o18⟩
theorem inSuite (I : Inv X pins σ H s) (a : Addr) {pn : List (Addr × Obj)} (h : ∀ p ∈ pn, PinAt X H s.heap p) : Inv (L2H.suiteX X a pn) [] σ H s :=
  ⟨okSuite I.ok a pn, I.os, I.bare, I.base, I.loc, I.cell, I.free, I.freeC, fun p hp => h p (by rw [List.append_nil] at hp; exact hp), I.hok, I.len⟩
theorem outSuite {a : Addr} {pn pn' : List (Addr × Obj)} (I : Inv (L2H.suiteX X a pn) pn' σ H s) (ok : X.Ok) (sub : ∀ p ∈ X.pn ++ pins, p ∈ pn) : Inv X pins σ H s :=
  ⟨ok, I.os, I.bare, I.base, I.loc, I.cell, I.free, I.freeC, fun p hp => I.pin p (List.mem_append_left _ (sub p hp)), I.hok, I.len⟩
end
section
variable {X : Cx} {x : Str} {c : Value} {body suite : List Stmt} {b₀ : Stmt} {np pos pos' : Pos} {tb : WX → TS} {ts : Addr → Value → Option Addr → TS} {Wout : WX}
theorem noFr {B h : Heap} {l : List Env} {a : Addr} {o : Obj} {vs : Array Value} (ff : h.FunFrames B l) (e : h.get? a = some o) (dd : o.data = .fields vs) : a ∉ frs l := fun hm => by
  obtain ⟨_, o', e', nf⟩ := ff.mem hm
  rw [e] at e'
  cases e'
  exact nf _ dd
/-- what is known of the caught error, and what of the suite -/
def Kind (Z : ZF) (P : Cx → Prop) : Prop := (Z = zN ∧ P = L2H.HotC) ∨ (Z = Zb ∧ P = fun Y => L2H.HotC Y ∨ Hot2 Y)
theorem kindN : Kind zN L2H.HotC := .inl ⟨rfl, rfl⟩
theorem kindB : Kind Zb (fun Y => L2H.HotC Y ∨ Hot2 Y) := .inr ⟨rfl, rfl⟩
/-- try: body / except c: suite -/
def tTryB (K : PySem.W.Frag) (c : Value) (tb : WX → TS) (ts : Addr → Value → Option Addr → TS) (Wout : WX) : TS := fun D σ H => tb (wOnly K c ts Wout D) D σ H
theorem r_tryB {K : PySem.W.Frag} {c : Value} {tb : WX → TS} {ts : Addr → Value → Option Addr → TS} {Wout : WX} {D : Ends} {σ : L2.St} {H : Hp} (h : tb (wOnly K c ts Wout D) D σ H) : tTryB K c tb ts Wout D σ H := h
theorem ps_try_onlyB {Z : ZF} {P : Cx → Prop} (kind : Kind Z P) (hs : X.stack = X.env :: X.outer) (hf : X.env.frame = some X.env.locals) (hc : Names X x c) (hpa : ∀ hd : Option Value, PassesOwnAt (model X.prog X.w) (X.A.mark hd) X.A X.env X.xe) (tk : Oc.Takes Z X Wout)
    (hb : ∀ (W : WX) (pn : List (Addr × Obj)) (xe : Value → Shared → Prop), Oc.Takes Z (X.tr pn xe) W → PassesOwn (model X.prog X.w) X.A X.env xe → PSs (X.tr pn xe) body (tb W))
    (hsu : ∀ (a : Addr) (oe : Obj) (cls : Value) (d : Option Addr) (pn : List (Addr × Obj)), (a, oe) ∈ pn → Zc cls d oe → (∃ vs, oe.data = .fields vs) → (∀ (Z : ZF) (W : WX), Oc.Takes Z X W → Oc.Takes Z (L2H.suiteX X a pn) W) →
      P (L2H.suiteX X a pn) → PSs (L2H.suiteX X a pn) (b₀ :: suite) (ts a cls d)) :
    PS X (.Try body [.ExceptHandler (some (.Name x np)) none (b₀ :: suite) pos'] [] [] pos) (tTryB X.K c tb ts Wout) := by
  refine ⟨fun pins s σ H D I h => ?_⟩
  have ok := I.ok
  have hfr : X.A.frames = some (X.env :: X.outer) := ok.frames.trans (congrArg some hs)
  have hZ : ZOk Z := by
    rcases kind with ⟨rfl, _⟩ | ⟨rfl, _⟩
    · exact zn_ok
    · exact zb_ok
  refine wpAny_Try_except (wpAny_mono ((hb (wOnly X.K c ts Wout D) (X.pn ++ pins) (fun e s₁ => wpAny (model X.prog X.w) X.A (noteFrame e X.env) (fun _ s₂ => wpAny (model X.prog X.w) X.A (setFlight e none) (fun _ s₃ =>
    wpAny (model X.prog X.w) X.A (handleBy e X.env [.ExceptHandler (some (.Name x np)) none (b₀ :: suite) pos']) (SP X pins D) X.xe s₃) X.xe s₂) X.xe s₁) (fun u s' xx => ?_) PassesOwn.looking).run [] s σ H D (I.toTry _) h) (fun fl s1 hsp => ?_) (fun e s1 he => he))
  · obtain ⟨a, B, sI, pins', σ', H', cls, d, rfl, J', nb, up, sky, na, os, ag, b, hb1, hyes, hno⟩ := xx
    have J : Inv X pins σ' H' sI := J'.ofTry ok
    have sky' : Sky B (X.env :: X.outer) a (Z B H' cls d) X.env.locals s'.heap := hs ▸ sky
    show wpAny (model X.prog X.w) X.A (noteFrame (.ref a) X.env) _ _ _
    refine L2N.Sky.land hZ.st hfr hf sky' fun h3 fl3 up3 => ?_
    have J3 : Inv X pins σ' H' { s' with heap := h3 } := J.landed nb fl3.1 (up.trans up3) os ag
    obtain ⟨oe3, vs3, he3, hz3, hd3⟩ := fl3.there
    have nfr : a ∉ frs (X.env :: X.outer) := noFr fl3.2.2.1 he3 hd3
    have nL : a ≠ X.env.locals := fun z => nfr (List.mem_filterMap.mpr ⟨X.env, List.mem_cons_self, by rw [hf, z]⟩)
    have up1 : ∀ b, b ∉ frs (X.env :: X.outer) → b ≠ X.env.locals ∧ b ∉ X.fs := fun b nb => ⟨fun z => nb (List.mem_filterMap.mpr ⟨X.env, List.mem_cons_self, by rw [hf, z]⟩), fun hm => by
      obtain ⟨e, he, q⟩ := List.mem_filterMap.mp hm
      exact nb (List.mem_filterMap.mpr ⟨e, List.mem_cons_of_mem _ he, q⟩)⟩
    have S3 := J3.suite he3 hd3 na nL (up1 a nfr).2
    refine wpAny_handleBy_cons (codeAny_handlers_test ?_) (by intro q; cases q)
    have lt : PySem.W.Looks (model X.prog X.w) h3 (typeOf (.ref a)) cls := fun A Q E s k q => wpAny_typeOf_ref (k _ _ he3) (by rw [(hZ.zc hz3).1]; exact q)
    have lm := PySem.W.exm_one (M := model X.prog X.w) (J3.kIn) lt hb1
    have test : ∀ {Q : Value → Shared → Prop} {E : Value → Shared → Prop}, Q c { s' with heap := h3 } → wpAny (model X.prog X.w) (X.A.mark (some (.ref a))) (eval (.Name x np) X.env) Q E { s' with heap := h3 } := fun {Q E} q => by
      obtain ⟨g1, g2, g3 | ⟨g3, g4, g5⟩⟩ := hc
      · exact ld_glob (X := X.suite a ((a, oe3) :: (X.pn ++ pins))) S3 g1 g3 q g2
      · exact ld_blt (X := X.suite a ((a, oe3) :: (X.pn ++ pins))) S3 g1 g3 g4 q g5 g2
    refine test (lm.here ?_)
    cases b with
    | true =>
      refine codeAny_handlers_suite (HandSPX.lands_againZ fl3 fun h4 fl4 up4 => ?_)
      have J4 : Inv X pins σ' H' { s' with heap := h4 } := J.landed nb fl4.1 ((up.trans up3).trans up4) os ag
      obtain ⟨oe4, vs4, he4, hz4, hd4⟩ := fl4.there
      have pA : PinAt X H' h4 (a, oe4) := ⟨he4, na, nL, (up1 a nfr).2, fun v z => by rw [show oe4.data = .cell v from z] at hd4; cases hd4⟩
      have go : ∀ pn : List (Addr × Obj), (a, oe4) ∈ pn → (∀ p ∈ pn, PinAt X H' h4 p) → (∀ p ∈ X.pn ++ pins, p ∈ pn) → P (L2H.suiteX X a pn) →
          wpAny (model X.prog X.w) (X.A.mark (some (.ref a))) (execs (b₀ :: suite) X.env) (SP X pins D) X.xe { s' with heap := h4 } := fun pn hin hpn sub hot => by
        refine wpAny_mono ((hsu a oe4 cls d pn hin (hZ.zc hz4) ⟨_, hd4⟩ (fun Z W t u2 s2 x2 => ?_) hot).run [] _ _ H' D (inSuite J4 a hpn) (hyes rfl a na)) (fun fl s6 hsp => ?_) (fun e6 s6 z => z)
        · obtain ⟨a2, B2, sI2, pn2, σ2, H2, cls2, d2, e2, I2, nb2, up2, sky2, na2, os2, ag2, w2⟩ := x2
          exact t u2 s2 ⟨a2, B2, sI2, pins, σ2, H2, cls2, d2, e2, outSuite I2 ok sub, nb2, up2, sky2, na2, os2, ag2, w2⟩
        · cases fl with
          | ret u =>
            obtain ⟨v6, σ6, H6, S6, r6, q6⟩ := hsp
            exact ⟨_, _, _, outSuite S6 ok sub, r6, q6⟩
          | next =>
            obtain ⟨σ6, H6, S6, q6⟩ := hsp
            exact ⟨_, _, outSuite S6 ok sub, q6⟩
          | brk =>
            obtain ⟨σ6, H6, S6, q6⟩ := hsp
            exact ⟨_, _, outSuite S6 ok sub, q6⟩
          | cont =>
            obtain ⟨σ6, H6, S6, q6⟩ := hsp
            exact ⟨_, _, outSuite S6 ok sub, q6⟩
      have pO : ∀ p ∈ X.pn ++ pins, PinAt X H' h4 p := fun p hp => J4.pin p hp
      have fin : wpAny (model X.prog X.w) (X.A.mark (some (.ref a))) (execs (b₀ :: suite) X.env) (SP X pins D) X.xe { s' with heap := h4 } := by
        have one : vs4[2]? = some .none → P (L2H.suiteX X a ((a, oe4) :: (X.pn ++ pins))) → wpAny (model X.prog X.w) (X.A.mark (some (.ref a))) (execs (b₀ :: suite) X.env) (SP X pins D) X.xe { s' with heap := h4 } := fun c1 hp1 => by
          refine go ((a, oe4) :: (X.pn ++ pins)) List.mem_cons_self (fun p hp => ?_) (fun p hp => List.mem_cons_of_mem _ hp) hp1
          rcases List.mem_cons.mp hp with rfl | hp
          · exact pA
          · exact pO p hp
        have hotC : vs4[2]? = some .none → L2H.HotC (L2H.suiteX X a ((a, oe4) :: (X.pn ++ pins))) := fun c1 => ⟨(a, oe4), ⟨rfl, vs4, hd4, c1⟩, List.mem_cons_self⟩
        rcases kind with ⟨rfl, rfl⟩ | ⟨rfl, rfl⟩
        · exact one (hz4.2.2 vs4 hd4) (hotC (hz4.2.2 vs4 hd4))
        · rcases hz4.2.2 vs4 hd4 with c1 | ⟨b, ob, vb, c1, c2, c3, c4, c5⟩
          · exact one c1 (.inl (hotC c1))
          · have gb : h4.get? b = some ob := fl4.1 b ob c3
            have nbf : b ∉ frs (X.env :: X.outer) := noFr fl4.2.2.1 gb c4
            have pB : PinAt X H' h4 (b, ob) := ⟨gb, c2, (up1 b nbf).1, (up1 b nbf).2, fun v z => by rw [show ob.data = .cell v from z] at c4; cases c4⟩
            have nab : b ≠ a := fun z => by
              rw [z, fl4.2.1] at c3
              cases c3
            refine go ((a, oe4) :: (b, ob) :: (X.pn ++ pins)) List.mem_cons_self (fun p hp => ?_) (fun p hp => List.mem_cons_of_mem _ (List.mem_cons_of_mem _ hp))
              (.inr ⟨(a, oe4), (b, ob), rfl, List.mem_cons_self, List.mem_cons_of_mem _ List.mem_cons_self, nab, vs4, vb, hd4, c1, c4, c5⟩)
            rcases List.mem_cons.mp hp with rfl | hp
            · exact pA
            · rcases List.mem_cons.mp hp with rfl | hp
              · exact pB
              · exact pO p hp
      exact wpAny_mono fin (fun fl s6 hsp => by cases fl <;> exact hsp) (fun e6 s6 z => hpa (some (.ref a)) e6 s6 z)
    | false =>
      show wpAny _ X.A (handleBy (.ref a) X.env []) _ _ _
      refine wpAny_handleBy_nil ?_
      obtain ⟨k1, k2, k3, oe, vs, T, oT, ts', he, hz, hd, h1, hr⟩ := id fl3
      unfold PySem.passOn
      refine wpAny_bind (wpAny_field he hd h1 ?_)
      rw [if_neg (show ¬ ((Value.ref T == Value.none) = true) from by simp)]
      have fin : wpAny (model X.prog X.w) X.A (setFlight (.ref a) X.env.frame) (fun _ s4 => wpAny (model X.prog X.w) X.A (throw (.ref a) : Sem Flow) (SP X pins D) X.xe s4) X.xe { s' with heap := h3 } := by
        rw [hf]
        exact HandSPX.setFlight_upZ fl3 fun h4 hh4 up4 => wpAny_throw (tk _ _ ⟨a, B, sI, pins, σ', H', cls, d, rfl, J, nb, (up.trans up3).trans up4, .inr (.inr (by rw [hs]; exact hh4)), na, os, ag, hno rfl⟩)
      first
        | exact wpAny_bind (wpAny_pure (wpAny_bind fin))
        | exact wpAny_bind fin
  · cases fl with
    | ret u =>
      obtain ⟨v, σ', H', J', r, q⟩ := hsp
      exact ⟨v, σ', H', J'.ofTry ok, r, q⟩
    | next =>
      obtain ⟨σ', H', J', q⟩ := hsp
      exact wpAny_execs_nil ⟨σ', H', J'.ofTry ok, q⟩
    | brk =>
      obtain ⟨σ', H', J', q⟩ := hsp
      exact ⟨σ', H', J'.ofTry ok, q⟩
    | cont =>
      obtain ⟨σ', H', J', q⟩ := hsp
      exact ⟨σ', H', J'.ofTry ok, q⟩
end
end Ow

set_option maxRecDepth 100000
set_option maxHeartbeats 4000000
/-! several clauses with one name -/
namespace Ow
open PySem PySem.Spec PyProof.Rows L2
/-- the ends of a suite whose name goes -/
abbrev goneD (i : Nat) (D : Ends) : Ends := { nx := fun σ H => D.nx (σ.set i none) H, rt := D.rt, bk := fun σ H => D.bk (σ.set i none) H, ct := fun σ H => D.ct (σ.set i none) H }
def wAsL (K : PySem.W.Frag) (i : Nat) (Wout : WX) (D : Ends) : List (Value × (Addr → Value → Option Addr → TS)) → WX
  | [] => Wout
  | (c, ts) :: r => fun cls d σ H => ∃ b, PySem.W.exmOne K cls c = some b ∧ (b = true → ∀ a, H a = none → ts a cls d (goneD i D) (σ.set i (some (.ref a))) H) ∧ (b = false → wAsL K i Wout D r cls d σ H)
inductive HdsAs (X : Cx) (n : Str) (Wout : WX) : List ExceptHandler → List (Value × (Addr → Value → Option Addr → TS)) → Prop
  | nil : HdsAs X n Wout [] []
  /-- the further clauses are not come to -/
  | cut {hds : List ExceptHandler} (h : ∀ cls d σ H, ¬ Wout cls d σ H) : HdsAs X n Wout hds []
  | cons {x : Str} {c : Value} {ts : Addr → Value → Option Addr → TS} {b₀ : Stmt} {suite : List Stmt} {np pos' : Pos} {hds : List ExceptHandler} {l : List (Value × (Addr → Value → Option Addr → TS))} (hc : Names X x c)
      (hsu : ∀ (a : Addr) (oe : Obj) (cls : Value) (d : Option Addr) (pn : List (Addr × Obj)), Zc cls d oe → (∃ vs, oe.data = .fields vs) → PSs (X.suite a ((a, oe) :: pn)) (b₀ :: suite) (ts a cls d)) (r : HdsAs X n Wout hds l) :
      HdsAs X n Wout (.ExceptHandler (some (.Name x np)) (some n) (b₀ :: suite) pos' :: hds) ((c, ts) :: l)
/-- try: body / except c1 as n: suite1 / .. -/
def tTryL (K : PySem.W.Frag) (i : Nat) (tb : WX → TS) (Wout : WX) (l : List (Value × (Addr → Value → Option Addr → TS))) : TS := fun D σ H => tb (wAsL K i Wout D l) D σ H
theorem r_tryL {K : PySem.W.Frag} {i : Nat} {tb : WX → TS} {Wout : WX} {l : List (Value × (Addr → Value → Option Addr → TS))} {D : Ends} {σ : L2.St} {H : Hp} (h : tb (wAsL K i Wout D l) D σ H) : tTryL K i tb Wout l D σ H := h
section
variable {X : Cx} {n : Str} {i : Nat} {body : List Stmt} {h₀ : ExceptHandler} {hds : List ExceptHandler} {l : List (Value × (Addr → Value → Option Addr → TS))} {pos : Pos} {tb : WX → TS} {Wout : WX}
theorem ps_try_asL (hs : X.stack = X.env :: X.outer) (hf : X.env.frame = some X.env.locals) (hN : X.N.Nodup) (hi : X.N[i]? = some n) (hln : X.env.kindOf n = some .local) (tk : L2.Takes X Wout)
    (hb : ∀ (W : WX) (pn : List (Addr × Obj)) (xe : Value → Shared → Prop), L2.Takes (X.tr pn xe) W → PassesOwn (model X.prog X.w) X.A X.env xe → PSs (X.tr pn xe) body (tb W))
    (hh : HdsAs X n Wout (h₀ :: hds) l) : PS X (.Try body (h₀ :: hds) [] [] pos) (tTryL X.K i tb Wout l) := by
  refine ⟨fun pins s σ H D I h => ?_⟩
  have ok := I.ok
  have hfr : X.A.frames = some (X.env :: X.outer) := ok.frames.trans (congrArg some hs)
  have hloc : Loc X.env.scope n := .inl hln
  refine wpAny_Try_except (wpAny_mono ((hb (wAsL X.K i Wout D l) (X.pn ++ pins) (fun e s₁ => wpAny (model X.prog X.w) X.A (noteFrame e X.env) (fun _ s₂ => wpAny (model X.prog X.w) X.A (setFlight e none) (fun _ s₃ =>
    wpAny (model X.prog X.w) X.A (handleBy e X.env (h₀ :: hds)) (SP X pins D) X.xe s₃) X.xe s₂) X.xe s₁) (fun u s' xx => ?_) PassesOwn.looking).run [] s σ H D (I.toTry _) h) (fun fl s1 hsp => ?_) (fun e s1 he => he))
  · obtain ⟨a, B, sI, pins', σ', H', cls, d, rfl, J', nb, up, sky, na, os, ag, w⟩ := xx
    have J : Inv X pins σ' H' sI := J'.ofTry ok
    have sky' : Sky B (X.env :: X.outer) a (Zc cls d) X.env.locals s'.heap := hs ▸ sky
    show wpAny (model X.prog X.w) X.A (noteFrame (.ref a) X.env) _ _ _
    refine L2.Sky.land Zc.steady hfr hf sky' fun h3 fl3 up3 => ?_
    have J3 : Inv X pins σ' H' { s' with heap := h3 } := J.landed nb fl3.1 (up.trans up3) os ag
    obtain ⟨oe3, vs3, he3, hz3, hd3⟩ := fl3.there
    have nfr : a ∉ frs (X.env :: X.outer) := noFr fl3.2.2.1 he3 hd3
    have nL : a ≠ X.env.locals := fun z => nfr (List.mem_filterMap.mpr ⟨X.env, List.mem_cons_self, by rw [hf, z]⟩)
    have nF : a ∉ X.fs := fun hm => by
      obtain ⟨e, he, q⟩ := List.mem_filterMap.mp hm
      exact nfr (List.mem_filterMap.mpr ⟨e, List.mem_cons_of_mem _ he, q⟩)
    have S3 := J3.suite he3 hd3 na nL nF
    have go : ∀ {hds' : List ExceptHandler} {l' : List (Value × (Addr → Value → Option Addr → TS))}, HdsAs X n Wout hds' l' → wAsL X.K i Wout D l' cls d σ' H' →
        wpAny (model X.prog X.w) X.A (handleBy (.ref a) X.env hds') (SP X pins D) X.xe { s' with heap := h3 } := by
      intro hds' l' hk
      induction hk with
      | cut hz =>
        intro w
        exact absurd w (hz _ _ _ _)
      | nil =>
        intro w
        refine wpAny_handleBy_nil ?_
        obtain ⟨k1, k2, k3, oe, vs, T, oT, ts', he, hz, hd, h1, hr⟩ := id fl3
        unfold PySem.passOn
        refine wpAny_bind (wpAny_field he hd h1 ?_)
        rw [if_neg (show ¬ ((Value.ref T == Value.none) = true) from by simp)]
        have fin : wpAny (model X.prog X.w) X.A (setFlight (.ref a) X.env.frame) (fun _ s4 => wpAny (model X.prog X.w) X.A (throw (.ref a) : Sem Flow) (SP X pins D) X.xe s4) X.xe { s' with heap := h3 } := by
          rw [hf]
          exact HandSPX.setFlight_upZ fl3 fun h4 hh4 up4 => wpAny_throw (tk _ _ ⟨a, B, sI, pins, σ', H', cls, d, rfl, J, nb, (up.trans up3).trans up4, .inr (.inr (by rw [hs]; exact hh4)), na, os, ag, w⟩)
        first
          | exact wpAny_bind (wpAny_pure (wpAny_bind fin))
          | exact wpAny_bind fin
      | @cons x c ts b₀ suite np pos' hds2 l2 hc hsu r ih =>
        intro w
        obtain ⟨b, hb1, hyes, hno⟩ := w
        refine wpAny_handleBy_cons (codeAny_handlers_test ?_) (by intro q; cases q)
        have lt : PySem.W.Looks (model X.prog X.w) h3 (typeOf (.ref a)) cls := fun A Q E s k q => wpAny_typeOf_ref (k _ _ he3) (by rw [hz3.1]; exact q)
        have lm := PySem.W.exm_one (M := model X.prog X.w) (J3.kIn) lt hb1
        have test : ∀ {Q : Value → Shared → Prop} {E : Value → Shared → Prop}, Q c { s' with heap := h3 } → wpAny (model X.prog X.w) (X.A.mark (some (.ref a))) (eval (.Name x np) X.env) Q E { s' with heap := h3 } := fun {Q E} q => by
          obtain ⟨g1, g2, g3 | ⟨g3, g4, g5⟩⟩ := hc
          · exact ld_glob (X := X.suite a ((a, oe3) :: (X.pn ++ pins))) S3 g1 g3 q g2
          · exact ld_blt (X := X.suite a ((a, oe3) :: (X.pn ++ pins))) S3 g1 g3 g4 q g5 g2
        refine test (lm.here ?_)
        cases b with
        | true =>
          refine codeAny_handlers_suite_as (HandSPX.lands_againZ fl3 fun h4 fl4 up4 => ?_)
          have J4 : Inv X pins σ' H' { s' with heap := h4 } := J.landed nb fl4.1 ((up.trans up3).trans up4) os ag
          obtain ⟨oe4, vs4, he4, hz4, hd4⟩ := fl4.there
          have S4 := J4.suite he4 hd4 na nL nF
          refine store_ok (X := X.suite a ((a, oe4) :: (X.pn ++ pins))) (v := .ref a) S4 hN hi hloc rfl (fun s5 S5 => ?_) (.inr hln)
          refine wpAny_mono ((hsu a oe4 cls d (X.pn ++ pins) hz4 ⟨_, hd4⟩).run [] s5 _ H' _ S5 (hyes rfl a na)) (fun fl s6 hsp => ?_) (fun _ _ z => False.elim z)
          have off : ∀ {σ6 : L2.St} {H6 : Hp} {Q : Shared → Prop}, Inv (X.suite a ((a, oe4) :: (X.pn ++ pins))) [] σ6 H6 s6 → (∀ s7, Inv X pins (σ6.set i none) H6 s7 → Q s7) →
              wpAny (model X.prog X.w) X.A (do bindName X.env n .none; unbindBehindTheSuite X.env n pos') (fun _ s7 => Q s7) X.xe s6 := fun {σ6 H6 Q} S6 hq => gone_ok (S6.unsuite ok) hN hi hln hq
          cases fl with
          | next =>
            obtain ⟨σ6, H6, S6, q6⟩ := hsp
            exact off S6 fun s7 J7 => ⟨_, _, J7, q6⟩
          | brk =>
            obtain ⟨σ6, H6, S6, q6⟩ := hsp
            exact off S6 fun s7 J7 => ⟨_, _, J7, q6⟩
          | cont =>
            obtain ⟨σ6, H6, S6, q6⟩ := hsp
            exact off S6 fun s7 J7 => ⟨_, _, J7, q6⟩
          | ret u =>
            obtain ⟨v6, σ6, H6, S6, r6, q6⟩ := hsp
            exact off S6 fun s7 J7 => ⟨_, _, _, J7, r6, q6⟩
        | false =>
          show wpAny _ X.A (handleBy (.ref a) X.env hds2) _ _ _
          exact ih (hno rfl)
    exact go hh w
  · cases fl with
    | ret u =>
      obtain ⟨v, σ', H', J', r, q⟩ := hsp
      exact ⟨v, σ', H', J'.ofTry ok, r, q⟩
    | next =>
      obtain ⟨σ', H', J', q⟩ := hsp
      exact wpAny_execs_nil ⟨σ', H', J'.ofTry ok, q⟩
    | brk =>
      obtain ⟨σ', H', J', q⟩ := hsp
      exact ⟨σ', H', J'.ofTry ok, q⟩
    | cont =>
      obtain ⟨σ', H', J', q⟩ := hsp
      exact ⟨σ', H', J'.ofTry ok, q⟩
end
end Ow

set_option maxRecDepth 100000
set_option maxHeartbeats 4000000
/-! the head's facts of own errors, and of tables of code objects -/
namespace Hk
open PySem PySem.W PySem.Calls PyProof.Rows He He5
/-- an own error: its class, its field, the argument of __init__, the text of __init__, its base -/
structure DefE where
  cls : PySem.Str
  fld : PySem.Str
  arg : PySem.Str
  st : Stmt
  newId : String
  initId : String
  base : String
  tl : List Value
abbrev FnE : Type := Option (PySem.Str × PySem.Str × Arguments × FuncBody × Scope × Addr × Addr)
def fnE (K : Frag) (a : Addr) : FnE := match K.lookup a with
  | some ⟨_, _, .func fd, _⟩ => some (fd.name, fd.qualname, fd.params, fd.body, fd.scope, fd.globals, fd.builtins)
  | _ => none
def DefE.C (d : DefE) (K : Frag) : Addr := ga K d.cls
def DefE.f (d : DefE) (K : Frag) : Addr := ma K (ga K d.cls) "__init__"
def DefE.val (d : DefE) : FnE := some ("__init__", d.cls ++ ".__init__", L2.defArgs d.st, .stmts (L2.defBody d.st), L2.defScope d.st, mainGlobals, builtinsNs)
def clsE (K : Frag) (C : Addr) (newId : String) (tl : List Value) : Bool := match K.lookup C with
  | some ⟨.type "type", _, .cls cd, sl⟩ => (match cd.mro, sl.toList with
    | .ref C' :: bm, [_, _, _, _, some (.builtin n), _] => decide (C' = C) && (n == newId && (!cd.hasDel && (cd.hasDict && bm == tl)))
    | _, _ => false)
  | _ => false
def cellE (K : Frag) (C : Addr) : List (PySem.Str × Addr) → Bool
  | [(x, cc)] => decide (x = "__class__") && (match K.lookup cc with
    | some ⟨_, _, .cell (some (.ref C')), _⟩ => decide (C' = C)
    | _ => false)
  | _ => false
def fileE (mf : PySem.Str) (K : Frag) : Value → Bool
  | .ref c => (match K.lookup c with
    | some ⟨_, _, .fields vs, _⟩ => (match (vs[2]? : Option Value) with
      | some (.str file _) => mf == file
      | _ => false)
    | _ => false)
  | _ => false
def funE (mf : PySem.Str) (K : Frag) (C f : Addr) (q : PySem.Str) : Bool := match K.lookup f with
  | some ⟨_, _, .func fd, _⟩ => codeIn K fd.code q && (fileE mf K fd.code && (cellE K C fd.closure && (match fd.defaults with | .none => true | _ => false)))
  | _ => false
def oxB (mf : PySem.Str) (d : DefE) (K : Frag) : Bool := clsE K (d.C K) d.newId d.tl && (funE mf K (d.C K) (d.f K) (d.cls ++ ".__init__") && (eqO (findIn K (.ref (d.C K)) "__setattr__") (some (some (.builtin "object.__setattr__"))) &&
  (eqO (findIn K (.ref (d.C K)) "__getattribute__") (some (some (.builtin "BaseException.__getattribute__"))) && (eqO (findIn K (.ref (d.C K)) "__getattr__") (some none) && (eqO (findIn K (.ref (d.C K)) d.fld) (some none) &&
  (eqO (findIn K (.ref (d.C K)) "__init__") (some (some (.ref (d.f K)))) && (decide (typeIn K (.ref (d.f K)) = some (.type "function")) && (keepIn K (.ref (d.C K)) && (decide (subIn K (.ref (d.C K)) (.type "BaseException") = some true) &&
  (decide (subIn K (.ref (d.C K)) (.type d.base) = some true) && (decide (typeIn K (.ref (d.C K)) = some (.type "type")) && (hasDictIn K (d.C K) && (decide (exmOne K (.ref (d.C K)) (.ref (d.C K)) = some true) && (decide (mroIn K (d.C K) (.ref (d.C K)) = some true) &&
  (eqO (ks_superIn K (d.C K) (d.C K) "__init__") (some (some (.builtin d.initId))) && (eqO (nsIn K cStatics "thirdparty.any") (some none) && eqO (nsIn K mainGlobals "super") (some none)))))))))))))))))
theorem ox_of {P : Program} {mf : PySem.Str} {d : DefE} {K : Frag} (c : oxB mf d K = true) (e : fnE K (d.f K) = d.val) (it : Ox.IText (L2.defArgs d.st) (L2.defBody d.st) (L2.defScope d.st) d.arg d.fld)
    (hb : ∀ (kV doc pm : Value) (an : Option Addr) (cda : Addr) (ct : Value) (cc : Addr) (u v : Value), bindArgs (ksFn "__init__" (d.cls ++ ".__init__") (L2.defArgs d.st) (L2.defBody d.st) (L2.defScope d.st) .none kV doc pm an (.ref cda) ct cc) ⟨[u, v], []⟩ = pure [(Str.ofString "self", u), (d.arg, v)])
    (hf : (P.main.file : PySem.Str) = mf) (ht : (P.main.scope.names.lookup ("super" : PySem.Str)).isSome = false) : Ox.XTxt P K (ga K d.cls) d.fld d.newId d.initId d.base d.tl := by
  obtain ⟨c1, c⟩ := ba c
  obtain ⟨c2, c⟩ := ba c
  obtain ⟨c3, c⟩ := ba c
  obtain ⟨c4, c⟩ := ba c
  obtain ⟨c5, c⟩ := ba c
  obtain ⟨c6, c⟩ := ba c
  obtain ⟨c7, c⟩ := ba c
  obtain ⟨c8, c⟩ := ba c
  obtain ⟨c9, c⟩ := ba c
  obtain ⟨c10, c⟩ := ba c
  obtain ⟨c11, c⟩ := ba c
  obtain ⟨c12, c⟩ := ba c
  obtain ⟨c13, c⟩ := ba c
  obtain ⟨c14, c⟩ := ba c
  obtain ⟨c15, c⟩ := ba c
  obtain ⟨c16, c⟩ := ba c
  obtain ⟨c17, c18⟩ := ba c
  refine { cls := ?_, sa := eqO_ok c3, ga := eqO_ok c4, gg := eqO_ok c5, noN := eqO_ok c6, init := ⟨d.f K, eqO_ok c7, of_decide_eq_true c8, ?_⟩, kC := c9, exC := of_decide_eq_true c10, subB := of_decide_eq_true c11, tyC := of_decide_eq_true c12, hdC := c13, te := of_decide_eq_true c14, selfC := of_decide_eq_true c15, sup := eqO_ok c16, any := eqO_ok c17, nosup := eqO_ok c18, top := ht }
  · unfold clsE at c1
    split at c1
    · rename_i dd cd sl ho
      split at c1
      · rename_i C' bm k0 k1 k2 k3 n k5 hm hs
        obtain ⟨q1, q⟩ := ba c1
        obtain ⟨q2, q⟩ := ba q
        obtain ⟨q3, q⟩ := ba q
        obtain ⟨q4, q5⟩ := ba q
        have q1 := of_decide_eq_true q1
        have q2 := eq_of_beq q2
        have q5 := eq_of_beq q5
        obtain ⟨nm, bs, mro, ns, qn, hd, sn, sub, ab, col, del⟩ := cd
        obtain ⟨l⟩ := sl
        dsimp only at hm hs q3 q4
        subst hm hs
        have q3 : del = false := by simpa using q3
        subst q3 q4
        rw [q1, q2, q5] at ho
        exact ⟨nm, qn, ns, bs, sn, sub, ab, col, dd, k0, k1, k2, k3, k5, ho⟩
      · cases c1
    · cases c1
  · unfold funE at c2
    unfold fnE at e
    split at c2
    · rename_i oc od fd sl ho
      rw [ho] at e
      obtain ⟨n1, n2, n3, n4, n5, n6, n7, n8, n9, n10, n11, n12, n13, n14, n15⟩ := fd
      have e2 : (some (n1, n2, n3, n4, n5, n6, n15) : FnE) = some (("__init__" : PySem.Str), d.cls ++ ".__init__", L2.defArgs d.st, FuncBody.stmts (L2.defBody d.st), L2.defScope d.st, mainGlobals, builtinsNs) := e
      simp only [Option.some.injEq, Prod.mk.injEq] at e2
      obtain ⟨h1, h2, h3, h4, h5, h6, h7⟩ := e2
      subst h1 h2 h3 h4 h5 h6 h7
      obtain ⟨q1, q⟩ := ba c2
      obtain ⟨q2, q⟩ := ba q
      obtain ⟨q3, q4⟩ := ba q
      dsimp only at q1 q2 q3 q4
      unfold fileE at q2
      split at q2
      · rename_i cda
        split at q2
        · rename_i ccl cdd vs ccs hcode
          split at q2
          · rename_i file tf hvs
            unfold cellE at q3
            split at q3
            · rename_i x cc
              obtain ⟨z1, z2⟩ := ba q3
              have z1 := of_decide_eq_true z1
              subst z1
              split at z2
              · rename_i cl cld C' csl hcell
                have z2 := of_decide_eq_true z2
                subst z2
                split at q4
                · exact ⟨oc, od, _, _, _, _, _, n9, n10, n11, n12, _, n14, sl, cc, d.arg, ho, q1, it, fun u v => hb _ _ _ _ _ _ _ u v, ⟨cl, cld, csl, hcell⟩, ccl, cdd, vs, ccs, file, tf, hcode, hvs, by rw [hf]; exact q2⟩
                · cases q4
              · cases z2
            · cases q3
          · cases q2
        · cases q2
      · cases q2
    · cases c2
/-- what isinstance asks of an own error's class -/
def excCB (x : PySem.Str) (K : Frag) : Bool := eqO (findIn K (.ref (ga K x)) "__getattribute__") (some (some (.builtin "BaseException.__getattribute__"))) && (eqO (findIn K (.ref (ga K x)) "__getattr__") (some none) && (decide (subIn K (.ref (ga K x)) (.type "BaseException") = some true) &&
  (hasDictIn K (ga K x) && (eqO (findIn K (.ref (ga K x)) "__class__") (some (some (.builtin "object.__class__"))) && (eqO (specialIn K (.builtin "object.__class__") "__get__") (some (some (.builtin "getset_descriptor.__get__"))) &&
  (decide (takesIn K (.builtin "object.__class__") = some true) && decide (mroIn K (ga K x) (.type "object") = some true)))))))
theorem excC_of {x : PySem.Str} {K : Frag} (c : excCB x K = true) : L2.ExcC K (ga K x) := by
  obtain ⟨c1, c⟩ := ba c
  obtain ⟨c2, c⟩ := ba c
  obtain ⟨c3, c⟩ := ba c
  obtain ⟨c4, c⟩ := ba c
  obtain ⟨c5, c⟩ := ba c
  obtain ⟨c6, c⟩ := ba c
  obtain ⟨c7, c8⟩ := ba c
  exact ⟨eqO_ok c1, eqO_ok c2, of_decide_eq_true c3, c4, eqO_ok c5, eqO_ok c6, of_decide_eq_true c7, of_decide_eq_true c8⟩
def exmB (x y : PySem.Str) (b : Bool) (K : Frag) : Bool := decide (exmOne K (.ref (ga K x)) (.ref (ga K y)) = some b)
theorem exm_of {x y : PySem.Str} {b : Bool} {K : Frag} (c : exmB x y b K = true) : exmOne K (.ref (ga K x)) (.ref (ga K y)) = some b := of_decide_eq_true c
def kitB (x : PySem.Str) (t : String) (b : Bool) (K : Frag) : Bool := decide (kitOne K (.ref (ga K x)) (.type t) = some b)
theorem kit_of' {x : PySem.Str} {t : String} {b : Bool} {K : Frag} (c : kitB x t b K = true) : kitOne K (.ref (ga K x)) (.type t) = some b := of_decide_eq_true c
def kitCB (x y : PySem.Str) (b : Bool) (K : Frag) : Bool := decide (kitOne K (.ref (ga K x)) (.ref (ga K y)) = some b)
theorem kitC_of {x y : PySem.Str} {b : Bool} {K : Frag} (c : kitCB x y b K = true) : kitOne K (.ref (ga K x)) (.ref (ga K y)) = some b := of_decide_eq_true c
/-! tables -/
def codeAt (K : Frag) (f : Addr) : Addr := match K.lookup f with
  | some ⟨_, _, .func fd, _⟩ => (match fd.code with
    | .ref c => c
    | _ => 0)
  | _ => 0
def tabAt (K : Frag) (f : Addr) : Addr := match K.lookup (codeAt K f) with
  | some ⟨_, _, .fields vs, _⟩ => (match (vs[11]? : Option Value) with
    | some (.ref p) => p
    | _ => 0)
  | _ => 0
def emptyT (o : Option Obj) : Bool := match o with
  | some ⟨.none, none, .fields vs, sl⟩ => vs.toList.isEmpty && sl.toList.isEmpty
  | _ => false
def tabB (g : Addr → Option Obj) (K : Frag) (f : Addr) : Bool := codeHdIn K (codeAt K f) (tabAt K f) && ((K.lookup (tabAt K f)).isNone && emptyT (g (tabAt K f)))
theorem emptyT_ok {o : Option Obj} (h : emptyT o = true) : o = some { cls := .none, data := .fields #[] } := by
  unfold emptyT at h
  split at h
  · rename_i vs sl
    obtain ⟨h1, h2⟩ := ba h
    obtain ⟨l⟩ := vs
    obtain ⟨m⟩ := sl
    have h1 : l = [] := by simpa using h1
    have h2 : m = [] := by simpa using h2
    subst h1 h2
    rfl
  · cases h
/-! the Hook -/
def notTab (g : Addr → Option Obj) (a : Addr) : Bool := a == cStatics || match g a with
  | some o => (match o.cls with | .none => false | _ => true)
  | none => true
def frT (g : Addr → Option Obj) (n : Nat) : Frag := frG g ((asA g n).filter (notTab g))
abbrev AlT : Type := He.AlD × List FnE × Bool
def obsT (ck : Frag → Bool) (fn : List DefA) (es : List DefE) (tf : List (Frag → Addr)) (g : Addr → Option Obj) (K : Frag) : AlT := (obsM ck fn K, es.map (fun d => fnE K (d.f K)), tf.all fun f => tabB g K (f K))
def valT (fn : List DefA) (es : List DefE) : AlT := (valM fn, es.map DefE.val, true)
def obsTG (n : Nat) (ck : Frag → Bool) (fn : List DefA) (es : List DefE) (tf : List (Frag → Addr)) (g : Addr → Option Obj) : AlT := obsT ck fn es tf g (frT g n)
def SaysT (ck : Frag → Bool) (fn : List DefA) (es : List DefE) (tf : List (Frag → Addr)) (K : Frag) (h : Heap) : Prop := SaysM ck fn K ∧ (es.map fun d => fnE K (d.f K)) = es.map DefE.val ∧ ∀ f ∈ tf, CodeHd h (codeAt K (f K)) (tabAt K (f K)) ∧ K.lookup (tabAt K (f K)) = none ∧ h.get? (tabAt K (f K)) = some { cls := .none, data := .fields #[] } ∧ codeHdIn K (codeAt K (f K)) (tabAt K (f K)) = true
theorem says_of {n : Nat} {ck : Frag → Bool} {fn : List DefA} {es : List DefE} {tf : List (Frag → Addr)} {h : Heap} (e : obsTG n ck fn es tf h.get? = valT fn es) : ∃ K : Frag, K.In h ∧ SaysT ck fn es tf K h := by
  have kin : (frT h.get? n).In h := fun _ _ e => frG_at _ e
  have e1 : obsM ck fn (frT h.get? n) = valM fn := congrArg (fun z : AlT => z.1) e
  have e2 : (es.map fun d => fnE (frT h.get? n) (d.f (frT h.get? n))) = es.map DefE.val := congrArg (fun z : AlT => z.2.1) e
  have e3 : (tf.all fun f => tabB h.get? (frT h.get? n) (f (frT h.get? n))) = true := congrArg (fun z : AlT => z.2.2) e
  refine ⟨_, kin, e1, e2, fun f hf => ?_⟩
  have z := List.all_eq_true.mp e3 f hf
  obtain ⟨z1, z⟩ := ba z
  obtain ⟨z2, z3⟩ := ba z
  exact ⟨codeHd_of_K kin z1, by simpa using z2, emptyT_ok z3, z1⟩
def hookT (n : Nat) (ck : Frag → Bool) (fn : List DefA) (es : List DefE) (tf : List (Frag → Addr)) : PySem.W.Hook where
  α := AlT
  obs := fun s => obsTG n ck fn es tf s.heap.get?
  val := fun _ => valT fn es
  says := fun _ h => ∃ K : Frag, K.In h ∧ SaysT ck fn es tf K h
  of := fun _ _ e => says_of e
  keeps := fun _ _ _ ⟨K, hK, c1, c2, c3⟩ k => ⟨K, Frag.In.keeps hK k, c1, c2, fun f hf => by
    obtain ⟨z1, z2, z3, z4⟩ := c3 f hf
    exact ⟨codeHd_of_K (Frag.In.keeps hK k) z4, z2, k _ _ z3, z4⟩⟩
theorem obsTG_eq {n : Nat} {ck : Frag → Bool} {fn : List DefA} {es : List DefE} {tf : List (Frag → Addr)} {g : Addr → Option Obj} {s : Shared} (h : ∀ a, g a = s.heap.get? a) : obsTG n ck fn es tf g = (hookT n ck fn es tf).obs s := by
  have e : g = s.heap.get? := funext h
  rw [e] <;> rfl
theorem SaysT.err {ck : Frag → Bool} {fn : List DefA} {es : List DefE} {tf : List (Frag → Addr)} {K : Frag} {h : Heap} (c : SaysT ck fn es tf K h) (i : Nat) {d : DefE} (e : es[i]? = some d := by rfl) : fnE K (d.f K) = d.val := by
  have z : (es.map fun d => fnE K (d.f K))[i]? = (es.map DefE.val)[i]? := by rw [c.2.1]
  rw [List.getElem?_map, List.getElem?_map, e] at z
  exact Option.some.inj z
end Hk

set_option maxRecDepth 100000
set_option maxHeartbeats 4000000
/-! promises of defs that raise, by position -/
namespace My
open PySem PySem.Spec PyProof.Rows L2 Oc
/-- what leaves a def of the package -/
abbrev CXb (P : Program) (w : World) : CXT := Oc.CX Zb P w
abbrev CXn (P : Program) (w : World) : CXT := Oc.CX zN P w
section
variable {X : Cx} {E : XK} {W : WX} {Z : ZF}
theorem passZ0 : Passes (Oc.CX Z X.prog X.w) X E0 := fun _ _ _ _ _ _ _ h => by
  obtain ⟨_, _, _, _, _, _, _, _, _, _, _, _, z⟩ := h
  exact z.elim
theorem passZ (tk : Oc.Takes Z X fun cls d _ H => E cls d H) : Passes (Oc.CX Z X.prog X.w) X E := fun _ _ _ _ e s' I c => tk e s' (Oc.XE.of_call I (fun _ _ _ h => h) c)
theorem takesBN (tk : Oc.Takes Zb X W) : Oc.Takes zN X W := Oc.Takes.le tk fun _ _ _ _ _ h => zn_zb h
theorem takesCN (tk : L2.Takes X W) : Oc.Takes zN X W := Oc.Takes.ofC zn_ok tk
theorem takesCB (tk : L2.Takes X W) : Oc.Takes Zb X W := Oc.Takes.ofC zb_ok tk
theorem passC (tk : L2.Takes X fun cls d _ H => E cls d H) : Passes (L2.CX X.prog X.w) X E := fun _ _ _ _ e s' I c => tk e s' (L2.XE.of_call I (fun _ _ _ h => h) c)
theorem passAtZ (tk : Oc.Takes Z X W) (σ : L2.St) : PassesAt (Oc.CX Z X.prog X.w) X σ (WE W σ) := Oc.passAt tk σ
end
theorem cxUpZ {P : Program} {w : World} {Z : ZF} : StX.CXUp (Oc.CX Z P w) := by
  rintro outer s H s2 H2 E e s' un kp ho ⟨a, B, H', cls, d, ea, fl, hok, ub, na, os, ag, he⟩
  refine ⟨a, B, H', cls, d, ea, fl, hok, { keep := fun b o q n hb => ?_, slot := fun b o q hb => ?_, free := fun b o q n => ?_, there := fun b o q hb => ?_, tups := fun b xs q => ?_, frzs := fun b o xs q => ?_, tbls := fun b ps q => ?_ }, na, os.trans ho, ag, he⟩
  · exact ub.keep b o (kp b o q) (un.free b o q n (by simp)) hb
  · exact ub.slot b o (kp b o q) hb
  · exact ub.free b o (kp b o q) (un.free b o q n (by simp))
  · exact ub.there b o (kp b o q) hb
  · exact ub.tups b xs (un.tups b xs q)
  · exact ub.frzs b o xs (un.frzs b o xs q)
  · obtain ⟨m1, e1⟩ := un.tbls b ps q
    obtain ⟨m2, e2⟩ := ub.tbls b _ e1
    exact ⟨m1 ++ m2, by rw [e2, Array.append_assoc]⟩
section
variable {P : Program} {w : World} {K : PySem.W.Frag} {mg : Str → Option Value} {base : Heap} {CX : CXT} {k : Nat} {f : Addr} {sp : Sp} {x qual : Str} {params : Arguments} {body : List Stmt} {scope : Scope} {N ps : List Str}
/-- def f(*v) behind further parameters, whatever leaves it -/
theorem fnX_star {pv : Str} (up : StX.CXUp CX) (F : ∃ fd, FunD K x qual params body scope [] [] f fd) (S : FnScope N (ps ++ [pv]) scope)
    (hb : ∀ (kV doc pm : Value) (an : Option Addr) (cdv ct : Value) (us rest : List Value), us.length = ps.length → bindArgs (PySem.W.fnOf x qual params body scope .none kV doc pm an cdv ct) ⟨us ++ rest, []⟩ = (newTuple rest >>= fun t => pure (ps.zip us ++ [(pv, t)])))
    (hbody : ∀ (A : Around) (outer : List Env) (s : Shared) (H : Hp) (vs : List V) (Q : VK) (E : XK) (cdv : Value), Room k (A.deeper (envOfC qual scope s.heap.objs.size f cdv)) → sp vs H Q E →
      ∃ t, PSs (cxOf CX P w K mg base N qual scope f cdv A outer s H E) body t ∧ t { nx := fun _ H' => Q .non H', rt := Q } (start N vs) H) :
    FnR P w K mg base CX (k + 1) f (fun vs H Q E => ∃ ws rest, vs = ws ++ rest ∧ ws.length = ps.length ∧ rest.length ≤ sizeLine ∧ ∀ p, H p = Option.none → sp (ws ++ [V.ref p]) (upd H p (.tup rest)) Q E) := by
  obtain ⟨fd, F⟩ := F
  obtain ⟨oc, od, dV, kV, doc, pm, an, cdv, ct, osl, rfl, lk, hcd, hd, _⟩ := F.ex
  rcases hd with ⟨_, hd⟩ | ⟨hd, _⟩
  · subst hd
    exact StX.fn_star lk hcd S up (hb kV doc pm an cdv ct) fun A outer s H vs Q E hr h => hbody A outer s H vs Q E cdv hr h
  · exact absurd rfl hd
end
/-! calls within a try: the wish knows the slots -/
section
variable {X : Cx} {CX : CXT} {k : Nat} {f g C p' : Addr} {mc : Value} {sp : Sp} {W : L2.St → XK} {x m : Str} {p pos apos sp_ : Pos} {e o : Expr} {es : List Expr} {ta te : TE} {t : TA} {pins : List (Addr × Obj)} {σ : L2.St} {H : Hp} {s : Shared} {Q : VK} {us : List Value} {vs : List V} {E : XK}
theorem run_fnW (F : FnR X.prog X.w X.K X.mg X.base CX k f sp) (hr : Room k X.A) (hx : PassesAt CX X σ E) (I : Inv X pins σ H s) (r : Vals vs us) (h : sp vs H Q E) :
    codeAny (model X.prog X.w) X.A (.call (.ref f) ⟨us, []⟩) (fun r s' => match r with | .ok (.ret v) => EP X pins σ Q v s' | .ok _ => False | .error e => X.xe e s') s := by
  refine codeAny_mono (F X.A X.stack s H us vs Q E hr I.env0 r h) fun r s' hq => ?_
  cases r with
  | error e => exact hx pins H s e s' I hq
  | ok fl => cases fl with
    | ret u => exact I.after hq
    | next => exact False.elim hq
    | brk => exact False.elim hq
    | cont => exact False.elim hq
def tCallRW (sp : Sp) (W : L2.St → XK) (t : TA) : TE := fun σ H Q => t σ H fun vs H1 => sp vs H1 Q (W σ)
theorem pe_callRW (F : FnR X.prog X.w X.K X.mg X.base CX k f sp) (hr : Room k X.A) (hk : PySem.W.keepIn X.K (.ref f) = true) (hg : Gl X x) (hm : X.mg x = some (.ref f)) (hx : ∀ σ, PassesAt CX X σ (W σ)) (ha : PA X (e :: es) t) (hd : (x == ("__debug__" : Str)) = false := by decide)
    (he : starEach (e :: es) X.env = (false, eval e X.env) :: starEach es X.env := by rfl) (hst : (backTo pos (starEach es X.env)).any (·.1) = false := by rfl) :
    PE X (.Call (.Name x p) (e :: es) [] pos) (tCallRW sp W t) := by
  refine ⟨fun pins s σ H Q I h => ?_⟩
  refine wpAny_Call_Name_kw (ld_glob I hg hm ?_ hd)
  exact PySem.W.callWith_K (h₀ := X.base) I.ok.mod.kin hk (thn (ha.run pos pins s σ H _ I h) fun us s1 ⟨vs, H1, I1, r, q⟩ => ⟨I1.kIn, wpAny_call (run_fnW F hr (hx σ) I1 r q)⟩) he hst
theorem run_makeW (M : Mk X.K C f) (F : FnR X.prog X.w X.K X.mg X.base CX k f sp) (hr : Room (k + 1) X.A) (hx : PassesAt CX X σ E) (I : Inv X pins σ H s) (r : Vals vs us)
    (h : ∀ x dx, H x = Option.none → H dx = Option.none → dx ≠ x → sp (V.ref x :: vs) (upd (upd H dx (.own x)) x (.ins C dx [])) (fun v H2 => v = .non ∧ Q (.ref x) H2) E) : wpAny (model X.prog X.w) X.A (call (.ref C) us) (EP X pins σ Q) X.xe s := by
  have want := h (s.heap.objs.size + 1) s.heap.objs.size (I.hok.fresh (Nat.le_succ _)) (I.hok.fresh (Nat.le_refl _)) (Nat.ne_of_lt (Nat.lt_succ_self _))
  have J := Inv.made (C := C) I
  have rr : Vals (V.ref (s.heap.objs.size + 1) :: vs) (Value.ref (s.heap.objs.size + 1) :: us) := .cons rfl r
  refine wpAny_call (make_map (f := f) I.kIn M.makes M.init (beq_iff_eq.mp M.fn) (codeAny_mono (F _ X.stack _ _ (Value.ref (s.heap.objs.size + 1) :: us) _ _ E (hr.make C us []) (J.env0.make C us []) rr want) fun r s' z => ?_))
  cases r with
  | error e => exact hx pins _ _ e s' J z
  | ok fl =>
    cases fl with
    | ret u =>
      obtain ⟨v, H', I3, rv, ev, q3⟩ := J.after z
      subst ev
      exact ⟨rv, ⟨V.ref (s.heap.objs.size + 1), H', I3, rfl, q3⟩⟩
    | next => exact False.elim z
    | brk => exact False.elim z
    | cont => exact False.elim z
def tMakeS1W (K : PySem.W.Frag) (C : Addr) (sp : Sp) (W : L2.St → XK) (te : TE) : TE := fun σ H Q => te σ H fun y H1 => ∃ a xs, y = V.ref a ∧ (SqT K H1 a xs ∨ SqL K H1 a xs) ∧ ∀ x dx, H1 x = Option.none → H1 dx = Option.none → dx ≠ x →
  sp (V.ref x :: xs) (upd (upd H1 dx (.own x)) x (.ins C dx [])) (fun v H2 => v = .non ∧ Q (.ref x) H2) (W σ)
/-- c( *e), c a local name that holds the class, within a try -/
theorem pe_makeV1W {i : Nat} (M : Mk X.K C f) (F : FnR X.prog X.w X.K X.mg X.base CX k f sp) (hr : Room (k + 1) X.A) (hx : ∀ σ, PassesAt CX X σ (W σ)) (he : PE X e te) (hf : PE X (.Name x p) (tVar i))
    (hst : starEach [.Starred e sp_] X.env = [(true, eval e X.env)] := by rfl)
    (ht : eval (.Call (.Name x p) [.Starred e sp_] [] pos) X.env = (do callWith pos (← eval (.Name x p) X.env) [] (backTo pos (starEach [.Starred e sp_] X.env)) (backToKw pos (keywordEach [] X.env))) := by rfl) :
    PE X (.Call (.Name x p) [.Starred e sp_] [] pos) (fun σ H Q => σ[i]? = some (some (.ref C)) ∧ tMakeS1W X.K C sp W te σ H Q) := by
  refine ⟨fun pins s σ H Q I h => ?_⟩
  obtain ⟨h0, h⟩ := h
  refine Call_ (thn (hf.run pins s σ H (fun v H1 => v = .ref C ∧ H1 = H) I ⟨_, h0, rfl, rfl⟩) fun u s1 z => ?_) ht
  obtain ⟨v, H1, I1, rv, ev, eH⟩ := z
  subst ev eH
  obtain rfl : u = Value.ref C := rv
  refine PySem.W.callWith_S (h₀ := X.base) I1.ok.mod.kin M.kp (thn (he.run pins s1 σ _ _ I1 h) fun u s2 z => ?_) hst
  obtain ⟨y, H2, I2, ry, a, xs, ey, hxs, q⟩ := z
  subst ey
  obtain rfl : u = Value.ref a := ry
  exact StX.star_any I2 hxs fun us s3 I3 rv => ⟨I3.kIn, run_makeW M F hr (hx σ) I3 rv q⟩
theorem pe_makeV1WK {K : PySem.W.Frag} {i : Nat} (hK : X.K = K) (M : Mk X.K C f) (F : FnR X.prog X.w X.K X.mg X.base CX k f sp) (hr : Room (k + 1) X.A) (hx : ∀ σ, PassesAt CX X σ (W σ)) (he : PE X e te) (hf : PE X (.Name x p) (tVar i))
    (hst : starEach [.Starred e sp_] X.env = [(true, eval e X.env)] := by rfl)
    (ht : eval (.Call (.Name x p) [.Starred e sp_] [] pos) X.env = (do callWith pos (← eval (.Name x p) X.env) [] (backTo pos (starEach [.Starred e sp_] X.env)) (backToKw pos (keywordEach [] X.env))) := by rfl) :
    PE X (.Call (.Name x p) [.Starred e sp_] [] pos) (fun σ H Q => σ[i]? = some (some (.ref C)) ∧ tMakeS1W K C sp W te σ H Q) := hK ▸ pe_makeV1W M F hr hx he hf hst ht
theorem pe_bmK {K : PySem.W.Frag} {T : String} {name : Str} {id : String} {r : V → List V → Hp → VK → Prop} {to : TE} {cpos : Pos} (hK : X.K = K) (pa : PlainAttrs T) (slot : Slot T name id) (hty : typeOf (.builtin id) = pure (.type "method_descriptor")) (hm : MtR X id r) (ho : PE X o to) (ha : PA X (e :: es) t)
    (hbase : attributeBase o name X.env (eval o X.env) = eval o X.env := by rfl)
    (hfew : ((backTo cpos (starEach (e :: es) X.env)).all (fun x => !x.1) && (backToKw cpos (keywordEach [] X.env)).all (fun x => x.1.isSome) && decide ((e :: es).length + ([] : List Keyword).length + (if ([] : List Keyword).isEmpty then 0 else 1) < 30)) = true := by rfl)
    (hline : (apos.endLine == cpos.line) = true := by rfl) (hs : starEach (e :: es) X.env = (false, eval e X.env) :: starEach es X.env := by rfl) (hplain : (backTo cpos (starEach es X.env)).any (·.1) = false := by rfl) :
    PE X (.Call (.Attribute o name apos) (e :: es) [] cpos) (tBM K T r to t) := hK ▸ pe_bm pa slot hty hm ho ha hbase hfew hline hs hplain
def tCMethW (C : Addr) (sp : Sp) (W : L2.St → XK) (ta : TE) (t : TA) : TE := fun σ H Q => ta σ H fun x H1 => x = .ref C ∧ t σ H1 fun vs H2 => sp (.ref C :: vs) H2 Q (W σ)
theorem pe_cmethW {pl : Sem Bool} (he : PE X o ta) (r : ClX.CRead X.K C mc) (c : ClX.CMet X.K C mc m p' g) (F : FnR X.prog X.w X.K X.mg X.base CX k g sp) (hr : Room k X.A) (hx : ∀ σ, PassesAt CX X σ (W σ)) (ha : PA X (e :: es) t)
    (hst : starEach (e :: es) X.env = (false, eval e X.env) :: starEach es X.env := by rfl) (hpl : (backTo pos (starEach es X.env)).any (·.1) = false := by rfl)
    (ht : eval (.Call (.Attribute o m apos) (e :: es) [] pos) X.env = (do
      let ov ← eval o X.env
      standAt apos.atName
      let (f, first) ← holding [ov] (getMethod ov m pl)
      callWith pos f first (backTo pos (starEach (e :: es) X.env)) (backToKw pos (keywordEach [] X.env))) := by rfl) :
    PE X (.Call (.Attribute o m apos) (e :: es) [] pos) (tCMethW C sp W ta t) := by
  refine ⟨fun pins s σ H Q I h => PySem.W.methodCall_KW (pl := pl) (thn (he.run pins s σ H _ I h) fun u s1 ⟨x, H1, I1, rx, ex, q⟩ => ?_) ht⟩
  subst ex
  obtain rfl : u = Value.ref C := rx
  refine ClX.getmethcm_ok I1 r c fun s2 I2 => ?_
  refine ClX.callwith_cm I2 (ClX.base_none I1 (Nat.le_refl _)) c.fi (thn (ha.run pos _ s2 σ H1 _ I2 q) fun us s3 ⟨vs, H2, I3, rv, q2⟩ => ⟨⟨ClX.pin_at I3, I3.kIn⟩, ?_⟩) hst hpl
  refine thn (wpAny_call (PySem.W.method_call (ClX.pin_at I3) (run_fnW (us := .ref C :: us) (vs := .ref C :: vs) F hr (fun pins H s e s' I c => hx σ pins H s e s' I c) I3 (.cons rfl rv) q2))) fun _ _ y => ClX.unpinE y
end
/-! readings -/
section
variable {K : PySem.W.Frag} {σ : L2.St} {H : Hp} {Q : VK} {D : Ends} {te ta : TE} {tl : TA} {C : Addr} {sp : Sp} {W : L2.St → XK} {f : Str}
theorem r_callRW (h : tl σ H fun vs H1 => sp vs H1 Q (W σ)) : tCallRW sp W tl σ H Q := h
theorem r_cmethW (h : ta σ H fun x H1 => x = .ref C ∧ tl σ H1 fun vs H2 => sp (.ref C :: vs) H2 Q (W σ)) : tCMethW C sp W ta tl σ H Q := h
theorem r_makeS1W (h : te σ H fun y H1 => ∃ a xs, y = V.ref a ∧ (SqT K H1 a xs ∨ SqL K H1 a xs) ∧ ∀ x dx, H1 x = Option.none → H1 dx = Option.none → dx ≠ x →
  sp (V.ref x :: xs) (upd (upd H1 dx (.own x)) x (.ins C dx [])) (fun v H2 => v = .non ∧ Q (.ref x) H2) (W σ)) : tMakeS1W K C sp W te σ H Q := h
theorem r_mkOx {QX : XK} (h : tl σ H fun vs H1 => ∃ v, vs = [v] ∧ ∀ d, H1 d = none → QX (.ref C) (some d) (upd H1 d (.xd [(f, v)]))) : Ow.tMkOx C f tl σ H QX := h
theorem r_mk1 {v : V} {P : V → Prop} (q : P v) : ∃ u, [v] = [u] ∧ P u := ⟨v, rfl, q⟩
end
end My

set_option maxRecDepth 100000
set_option maxHeartbeats 4000000
/-! a text backwards, a text many times, a list unpacked -/
namespace My
open PySem PySem.Spec PyProof.Rows L2
section
variable {X : Cx}
/-- s[::-1]: told is the length alone -/
def tRevS (te : TE) : TE := fun σ H Q => te σ H fun x H1 => ∃ z : Str, x = .str z ∧ z.length ≤ sizeLine ∧ ∀ y : Str, y.length ≤ z.length → Q (.str y) H1
theorem r_revS {te : TE} {σ : L2.St} {H : Hp} {Q : VK} (h : te σ H fun x H1 => ∃ z : Str, x = .str z ∧ z.length ≤ sizeLine ∧ ∀ y : Str, y.length ≤ z.length → Q (.str y) H1) : tRevS te σ H Q := h
theorem pe_revS {e : Expr} {te : TE} {k : Nat} {p1 p2 p3 pos : Pos} (he : PE X e te) : PE X (.Subscript e (.Slice none none (some (.UnaryOp .USub (.Constant (.int 1) k p1) p2)) p3) pos) (tRevS te) := by
  refine ⟨fun pins s σ H Q I h => ?_⟩
  refine Subscript_ (thn (he.run pins s σ H _ I h) fun v s1 ⟨x, H1, I1, r1, q1⟩ => ?_)
  obtain ⟨z, ex, hz, q⟩ := q1
  subst ex
  obtain ⟨t, rfl⟩ := r1
  have minus : PO X (some (.UnaryOp .USub (.Constant (.int 1) k p1) p2)) (tPart (tUn (rU fun i => .int (-i)) (tC (.int 1)))) := po_some (pe_un un_neg pe_int)
  refine wpAny_Slice (thn (po_none.run pins s1 σ H1 (fun o H2 => o = none ∧ H2 = H1) I1 ⟨rfl, rfl⟩) fun vl s2 ⟨l, H2, I2, pl, el, e2⟩ => ?_)
  subst el e2
  refine thn (po_none.run pins s2 σ H2 (fun o H3 => o = none ∧ H3 = H2) I2 ⟨rfl, rfl⟩) fun vu s3 ⟨u, H3, I3, pu, eu, e3⟩ => ?_
  subst eu e3
  refine thn (minus.run pins s3 σ H3 (fun o H4 => o = some (-1) ∧ H4 = H3) I3 ⟨1, rfl, -1, rfl, rfl, rfl⟩) fun vs s4 ⟨o, H4, I4, ps, eo, e4⟩ => ?_
  subst eo e4
  have I5 : Inv X pins σ H4 { s4 with heap := s4.heap.push { cls := .type "slice", data := .fields #[vl, vu, vs] } } := I4.kept (t' := s4.toks) fun b ob q => Heap.get?_push_of_some _ q
  obtain ⟨l', rfl, el⟩ := IsPart.raw pl
  obtain ⟨u', rfl, eu⟩ := IsPart.raw pu
  obtain ⟨o', rfl, eo⟩ := IsPart.raw ps
  have el : l' = none := by cases l' <;> first | rfl | cases el
  have eu : u' = none := by cases u' <;> first | rfl | cases eu
  obtain ⟨m, rfl⟩ : ∃ m, o' = some (-1, m) := by
    cases o' with
    | none => cases eo
    | some p =>
      obtain ⟨i, m⟩ := p
      have : i = -1 := Option.some.inj eo
      exact ⟨m, by rw [this]⟩
  subst el eu
  refine tail_any (ops := [.ref s4.heap.objs.size, .str z t]) (typeIs_str _ _ _) (F.slot_str_getitem.lookup) ?_ (by with_unfolding_all rfl)
  have hl := Txt.sliceBy_le z none none (-1, m) (show (-1 : Int) ≠ 0 by decide)
  exact wpAny_getItem_str_slice (l := none) (u := none) (st := some (-1, m)) ⟨_, Heap.get?_push_size _ rfl, rfl, rfl⟩ rfl (post_val_or_str ⟨Nat.le_trans hl hz, fun t' c => ⟨.str _, H4, I5.tok _, ⟨_, rfl⟩, q _ hl⟩⟩)
theorem rep_len (c : Array Nat) : ∀ (n : Nat) (acc : Array Nat), ((List.replicate n c).foldl (· ++ ·) acc).size = acc.size + c.size * n
  | 0, acc => by simp
  | n + 1, acc => by
    rw [List.replicate_succ, List.foldl_cons, rep_len c n, Array.size_append, Nat.mul_succ]
    omega
/-- s * n, n written: told is the length alone -/
def rMulT : R2 := fun x y H Q => ∃ (a : Str) (n : Int), x = .str a ∧ y = .int n ∧ 2 ≤ n ∧ n ≤ 10000 ∧ 0 < a.length ∧ a.length ≤ 1000 ∧ ∀ z : Str, z.length = a.length * n.toNat → Q (.str z) H
theorem op_mulT : OpR X (binaryOp .Mult) rMulT := by
  intro pins s σ H x y v u Q I rx ry h
  obtain ⟨a, n, rfl, rfl, h2, h1000, h0, hl, q⟩ := h
  obtain ⟨t, rfl⟩ := rx
  obtain ⟨t', rfl⟩ := ry
  have n1 : ¬ n < 1 := by omega
  have b1 : (n == 1 || a.length == 0) = false := by
    have e1 : (n == 1) = false := by simpa using (show n ≠ 1 by omega)
    have e2 : (a.length == 0) = false := by simpa using (show a.length ≠ 0 by omega)
    rw [e1, e2]
    rfl
  have hm : a.length * n.toNat ≤ 1000 * 10000 := Nat.mul_le_mul hl (by omega)
  have hlen : (⟨(List.replicate n.toNat a.cps).foldl (· ++ ·) #[]⟩ : Str).length = a.length * n.toNat := by
    show ((List.replicate n.toNat a.cps).foldl (· ++ ·) #[]).size = _
    rw [rep_len]
    show 0 + a.length * n.toNat = _
    omega
  refine P.mul_str ?_ (fun _ _ => ?_) (fun _ _ => ?_) ?_
  · have e1 : decide (n < -(2 ^ 63 : Int)) = false := decide_eq_false (by omega)
    have e2 : decide (n ≥ 2 ^ 63) = false := decide_eq_false (by omega)
    rw [e1, e2]
    rfl
  · have hd : (1000 : Int) ≤ (2 ^ 63 - 1) / n := by
      rw [Int.le_ediv_iff_mul_le (by omega)]
      omega
    omega
  · have z : a.length * n.toNat ≤ sizeLine := Nat.le_trans hm (by decide)
    first
      | exact decide_eq_false (Nat.not_lt.mpr z)
      | (unfold Builtin.tooLong; exact decide_eq_false (Nat.not_lt.mpr z))
      | (unfold Builtin.Str.tooLong; exact decide_eq_false (Nat.not_lt.mpr z))
  · rw [if_neg n1, if_neg (by rw [b1]; decide)]
    exact ⟨by rw [hlen]; exact Nat.le_trans hm (by decide), .str _, H, I.tok _, ⟨_, rfl⟩, q _ hlen⟩
theorem r_mulT {a : Str} {n : Int} {H : Hp} {Q : VK} (h2 : 2 ≤ n) (h3 : n ≤ 10000) (h0 : 0 < a.length) (hl : a.length ≤ 1000) (q : ∀ z : Str, z.length = a.length * n.toNat → Q (.str z) H) : rMulT (.str a) (.int n) H Q := ⟨a, n, rfl, rfl, h2, h3, h0, hl, q⟩
theorem pg_lstK {K : PySem.W.Frag} {es : List Expr} {k : Nat} {pos : Pos} {t : TGs} {n : Nat} (hK : X.K = K) (hc : X.calm = true) (h : PGs X es t) (hn : (assignEach es X.env).length = n := by rfl) (hst : (assignEach es X.env).findIdx? (·.1) = none := by rfl) :
    PG X (.Tuple es k pos) (gLst K n t) := hK ▸ pg_lst hc h hn hst
theorem r_gLst {K : PySem.W.Frag} {n : Nat} {gs : TGs} {p : Addr} {xs : List V} {σ : L2.St} {H : Hp} {Q : L2.St → Hp → Prop} (h : SqL K H p xs) (e : xs.length = n) (k : gs xs σ H Q) : gLst K n gs (.ref p) σ H Q := ⟨p, xs, rfl, h, e, k⟩
/-- a sign not in a text -/
def rNSgn : R2 := fun x y H Q => ∃ (c : Nat) (z : Str), x = .str ⟨#[c]⟩ ∧ y = .str z ∧ Q (.bl (!decide (c ∈ z.cps.toList))) H
theorem op_nsgn : OpR X (compareOp .NotIn) rNSgn := op_notIn_sign
theorem r_nsgn {c : Nat} {z : Str} {H : Hp} {Q : VK} (q : Q (.bl (!decide (c ∈ z.cps.toList))) H) : rNSgn (.str ⟨#[c]⟩) (.str z) H Q := ⟨c, z, rfl, rfl, q⟩
end
/-! a list against an empty one -/
section
open PySem.SeqAt MeetsSeq MeetsSeq2 MeetsSeq3 SeqRoads2
variable {prog : Program} {w : World} {A : Around} {s : Shared} {l b : Addr} {items : Array Value}
theorem rc_eq0 (hl : s.heap.IsList l items) (hb : s.heap.IsList b #[]) (hu : A.units < cLine) (E Q : Value → Shared → Prop) (h : Q (.bool (items.size == 0)) s) : wpAny (model prog w) A (richCompare .Eq (.ref l) (.ref b)) Q E s := by
  obtain ⟨⟨c1, d1, t1, l1⟩, o1, e1, n1, f1⟩ := id hl
  obtain ⟨⟨c2, d2, t2, l2⟩, o2, e2, n2, f2⟩ := id hb
  simp only at e1 f1 e2 f2
  subst e1 f1 e2 f2
  have ta : s.TypeIs (.ref l) "list" := ⟨_, o1, rfl⟩
  have tb : s.TypeIs (.ref b) "list" := ⟨_, o2, rfl⟩
  refine wpAny_richCompare_same_room (op := .Eq) ta tb F.slot_list_eq ?_ hu
  by_cases z : items.size = 0
  · refine call_meets F.slot_list_eq ta F.entry_list_eq (F.args_list_eq_2 _ _) (list_eqAt l b items #[] n1 n2 d1 d2 l1 l2 (by rw [z]; rfl) fun _ => true) ⟨o1, o2, fun j h1 h2 => absurd h2 (Nat.not_lt_zero _), ⟨(fun x => nomatch x), ?_⟩⟩
    rw [z] at h ⊢
    exact h
  · refine call_meets F.slot_list_eq ta F.entry_list_eq (F.args_list_eq_2 _ _) (list_eq_lengthsAt l b items #[] n1 n2 d1 d2 l1 l2 (by simpa using z)) ⟨o1, o2, ⟨(fun x => nomatch x), ?_⟩⟩
    have e : (items.size == 0) = false := by simpa using z
    rw [e] at h
    exact h
theorem rc_ne0 (hl : s.heap.IsList l items) (hb : s.heap.IsList b #[]) (hu : A.units < cLine) (E Q : Value → Shared → Prop) (h : Q (.bool (!(items.size == 0))) s) : wpAny (model prog w) A (richCompare .NotEq (.ref l) (.ref b)) Q E s := by
  obtain ⟨⟨c1, d1, t1, l1⟩, o1, e1, n1, f1⟩ := id hl
  obtain ⟨⟨c2, d2, t2, l2⟩, o2, e2, n2, f2⟩ := id hb
  simp only at e1 f1 e2 f2
  subst e1 f1 e2 f2
  have ta : s.TypeIs (.ref l) "list" := ⟨_, o1, rfl⟩
  have tb : s.TypeIs (.ref b) "list" := ⟨_, o2, rfl⟩
  refine wpAny_richCompare_same_room (op := .NotEq) ta tb F.slot_list_ne ?_ hu
  by_cases z : items.size = 0
  · refine call_meets F.slot_list_ne ta F.entry_list_ne (F.args_list_ne_2 _ _) (list_neAt l b items #[] n1 n2 d1 d2 l1 l2 (by rw [z]; rfl) fun _ => true) ⟨o1, o2, fun j h1 h2 => absurd h2 (Nat.not_lt_zero _), ⟨(fun x => nomatch x), ?_⟩⟩
    rw [z] at h ⊢
    exact h
  · refine call_meets F.slot_list_ne ta F.entry_list_ne (F.args_list_ne_2 _ _) (list_ne_lengthsAt l b items #[] n1 n2 d1 d2 l1 l2 (by simpa using z)) ⟨o1, o2, ⟨(fun x => nomatch x), ?_⟩⟩
    have e : (items.size == 0) = false := by simpa using z
    rw [e] at h
    exact h
end
section
variable {X : Cx} {K : PySem.W.Frag}
def rEq0 (K : PySem.W.Frag) (neg : Bool) : R2 := fun x y H Q => ∃ p q xs, x = .ref p ∧ y = .ref q ∧ SqL K H p xs ∧ SqL K H q [] ∧ Q (.bl (if neg then !xs.isEmpty else xs.isEmpty)) H
theorem emp_size {xs : List V} {us : List Value} (r : Vals xs us) : (us.toArray.size == 0) = xs.isEmpty := by
  cases r with
  | nil => rfl
  | cons _ _ => simp
theorem op_eq0 (hK : X.K = K) (hu : X.A.units < cLine) : OpR X (compareOp .Eq) (rEq0 K false) := by
  subst hK
  intro pins s σ H x y v u Q I rx ry h
  obtain ⟨p, q, xs, rfl, rfl, h1, h2, k⟩ := h
  cases rx
  cases ry
  obtain ⟨us, r1, l1, _⟩ := I.list h1
  obtain ⟨us2, r2, l2, _⟩ := I.list h2
  cases r2
  show wpAny (model X.prog X.w) X.A (richCompare .Eq (.ref p) (.ref q)) (EP X pins σ Q) X.xe s
  refine rc_eq0 l1.isList l2.isList hu _ _ ?_
  rw [emp_size r1]
  exact ⟨.bl _, H, I, rfl, k⟩
theorem op_ne0 (hK : X.K = K) (hu : X.A.units < cLine) : OpR X (compareOp .NotEq) (rEq0 K true) := by
  subst hK
  intro pins s σ H x y v u Q I rx ry h
  obtain ⟨p, q, xs, rfl, rfl, h1, h2, k⟩ := h
  cases rx
  cases ry
  obtain ⟨us, r1, l1, _⟩ := I.list h1
  obtain ⟨us2, r2, l2, _⟩ := I.list h2
  cases r2
  show wpAny (model X.prog X.w) X.A (richCompare .NotEq (.ref p) (.ref q)) (EP X pins σ Q) X.xe s
  refine rc_ne0 l1.isList l2.isList hu _ _ ?_
  rw [emp_size r1]
  exact ⟨.bl _, H, I, rfl, k⟩
theorem r_eq0 {p q : Addr} {xs : List V} {H : Hp} {Q : VK} (h1 : SqL K H p xs) (h2 : SqL K H q []) (k : Q (.bl xs.isEmpty) H) : rEq0 K false (.ref p) (.ref q) H Q := ⟨p, q, xs, rfl, rfl, h1, h2, k⟩
theorem r_ne0 {p q : Addr} {xs : List V} {H : Hp} {Q : VK} (h1 : SqL K H p xs) (h2 : SqL K H q []) (k : Q (.bl (!xs.isEmpty)) H) : rEq0 K true (.ref p) (.ref q) H Q := ⟨p, q, xs, rfl, rfl, h1, h2, k⟩
end
end My

set_option maxRecDepth 100000
set_option maxHeartbeats 4000000
/-! match over texts; a, b, *c = a tuple; dict.get -/
namespace My
open PySem PySem.Spec PyProof.Rows L2
section
variable {X : Cx}
/-- the cases of a match over texts: a written text, or anything -/
inductive MCs (X : Cx) : List MatchCase → List (Option Str × TS) → Prop
  | nil : MCs X [] []
  | val {a : Str} {j : Nat} {p q : Pos} {body : List Stmt} {t : TS} {cs : List MatchCase} {l : List (Option Str × TS)} (hb : PSs X body t) (r : MCs X cs l) : MCs X (⟨.MatchValue (.Constant (.str a) j p) q, none, body⟩ :: cs) ((some a, t) :: l)
  | any {p : Pos} {body : List Stmt} {t : TS} {cs : List MatchCase} (hb : PSs X body t) : MCs X (⟨.MatchAs none none p, none, body⟩ :: cs) [(none, t)]
def mRun (z : Str) : List (Option Str × TS) → TS
  | [] => fun D σ H => D.nx σ H
  | (some a, t) :: l => fun D σ H => if z = a then t D σ H else mRun z l D σ H
  | (none, t) :: _ => t
def tMatch (te : TE) (l : List (Option Str × TS)) : TS := fun D σ H => te σ H fun x H1 => ∃ z, x = .str z ∧ mRun z l D σ H1
theorem r_match {te : TE} {l : List (Option Str × TS)} {D : Ends} {σ : L2.St} {H : Hp} (h : te σ H fun x H1 => ∃ z, x = .str z ∧ mRun z l D σ H1) : tMatch te l D σ H := h
theorem ps_match {e : Expr} {te : TE} {cs : List MatchCase} {l : List (Option Str × TS)} {pos : Pos} (he : PE X e te) (hc : MCs X cs l) : PS X (.Match e cs pos) (tMatch te l) := by
  refine ⟨fun pins s σ H D I h => wpAny_Match (thn (he.run pins s σ H _ I h) fun u s1 ⟨x, H1, I1, rx, z, ex, q⟩ => ?_)⟩
  subst ex
  obtain ⟨t0, rfl⟩ := rx
  have go : ∀ {cs : List MatchCase} {l : List (Option Str × TS)}, MCs X cs l → ∀ (b : Bool) (s2 : Shared), Inv X pins σ H1 s2 → mRun z l D σ H1 → wpAny (model X.prog X.w) X.A (matchCases cs X.env (.str z t0) b) (SP X pins D) X.xe s2 := by
    intro cs l hm
    induction hm with
    | nil => exact fun b s2 I2 q => wpAny_matchCases_nil ⟨σ, H1, I2, q⟩
    | @val a j p q body t cs l hb r ih =>
      intro b s2 I2 q2
      refine wpAny_matchCases_cons (wpAny_matchPattern_Value (thn ((pe_str (X := X) (x := a) (j := j) (pos := p)).run pins s2 σ H1 (fun y H2 => y = .str a ∧ H2 = H1) I2 ⟨rfl, rfl⟩) fun u3 s3 ⟨y, H3, I3, r3, ey, eH⟩ => ?_))
      subst ey eH
      refine thn (op_eq pins s3 σ H3 (.str z) (.str a) (.str z t0) u3 (fun v H2 => v = .bl (decide (V.str z = V.str a)) ∧ H2 = H3) I3 ⟨t0, rfl⟩ r3 ⟨rfl, rfl, rfl⟩) fun u4 s4 ⟨y4, H4, I4, r4, e4, eH4⟩ => ?_
      subst e4 eH4
      cases r4
      refine wpAny_truthy_bool ?_
      by_cases hz : z = a
      · have e : decide (V.str z = V.str a) = true := decide_eq_true (by rw [hz])
        rw [e]
        have q2 : (if z = a then t D σ H4 else mRun z l D σ H4) := q2
        rw [if_pos hz] at q2
        refine wpAny_assignInOrder_none ?_
        exact hb.run pins s4 σ H4 D I4 q2
      · have e : decide (V.str z = V.str a) = false := decide_eq_false (fun h => hz (V.str.inj h))
        rw [e]
        have q2 : (if z = a then t D σ H4 else mRun z l D σ H4) := q2
        rw [if_neg hz] at q2
        exact ih false s4 I4 q2
    | @any p body t cs hb =>
      intro b s2 I2 q2
      refine wpAny_matchCases_cons (wpAny_matchPattern_Capture ?_)
      refine wpAny_assignInOrder_none ?_
      exact hb.run pins s2 σ H1 D I2 q2
  exact go hc true s1 I1 q
end
section
variable {prog : Program} {w : World} {A : Around} {E : Value → Shared → Prop} {s : Shared}
open PySem.Calls in
theorem unpack_starT {l : Addr} {items : Array Value} {i : Nat} {Q : List Value → Shared → Prop} (hl : IsTup s.heap l items) (hh : A.handled = none) (hi : i ≤ items.size) (hz : items.size ≤ sizeLine)
    (h : ∀ h' tk, Heap.ExtBut s.heap.objs.size s.heap h' → Q (items.toList.take i ++ [.ref h'.objs.size]) { s with heap := h'.push { cls := .type "list", data := .seq (items.toList.drop i).toArray }, toks := tk }) : wpAny (model prog w) A (unpackItems (.ref l) (i + 1) (some i)) Q E s := by
  have far : l ≠ s.heap.objs.size := fun z => by
    obtain ⟨_, e, _⟩ := hl
    rw [z] at e
    exact Nat.lt_irrefl _ (Heap.lt_size e)
  unfold unpackItems
  have it0 : ∀ {R : Bool → Shared → Prop}, R false s → wpAny (model prog w) A (notIterableAtAll (.ref l)) R E s := fun q => by
    unfold notIterableAtAll
    exact wpAny_bind (wpAny_specialOf hl.typeIs slot_tuple_iter.lookup (wpAny_pure q))
  refine wpAny_bind (it0 ?_)
  simp only [Bool.false_eq_true, if_false]
  refine wpAny_bind (wpAny_holding (iter_tuple hl (wpAny_bind (wpAny_holding (draw_tuple far i 0 _ _ ⟨_, Heap.get?_push_size _ rfl, rfl, rfl⟩ (hl.push _) (by omega) fun g it sb => ?_)))))
  have hl1 : IsTup g l items := (hl.push _).extBut sb.extBut far
  rw [Nat.zero_add] at it
  obtain ⟨_, e1, _⟩ := id it
  obtain ⟨_, e2, _⟩ := id hl1
  rw [List.drop_zero]
  have ln : (items.toList.take i).length = i := by
    rw [List.length_take, Array.length_toList]
    omega
  rw [if_neg (by omega)]
  refine wpAny_bind (wpAny_holding (PySem.W.kun_collect (s := { s with heap := g }) (T := "tuple_iterator") (.inr (.inr (.inr rfl))) (Walks.tuple (A := A.in1) hh s.heap.objs.size l far items) (fun _ _ st => st.1.typeIs) (k := i) (by omega) ⟨it, hl1⟩ (Heap.lt_size e1) (Heap.lt_size e2) (fun g2 tk kp => ?_) hz))
  have z0 : i + 1 - 1 - i = 0 := by omega
  rw [z0]
  show wpAny _ _ (if (items.toList.drop i).length < 0 then _ else _) _ _ _
  rw [if_neg (Nat.not_lt_zero _)]
  show wpAny _ _ (newList ((items.toList.drop i).take ((items.toList.drop i).length - 0)) >>= fun d => pure (items.toList.take i ++ [d] ++ (items.toList.drop i).drop ((items.toList.drop i).length - 0))) _ _ _
  rw [Nat.sub_zero, List.take_of_length_le (Nat.le_refl _), List.drop_of_length_le (Nat.le_refl _), ]
  have he : Heap.ExtBut s.heap.objs.size s.heap g2 := fun b o hb e => kp b o hb (sb.extBut b o hb (Heap.get?_push_of_some _ e))
  refine wpAny_bind (wpAny_newList (wpAny_pure ?_) (by rw [List.length_drop, Array.length_toList]; omega))
  rw [List.append_nil]
  exact h g2 tk he
end
section
variable {X : Cx}
/-- a, b, *c = a tuple -/
def gStar2 (K : PySem.W.Frag) (g1 g2 g3 : TG) : TG := fun v σ H Q => ∃ a x y xs, v = .ref a ∧ SqT K H a (x :: y :: xs) ∧ ∀ p, H p = none → g1 x σ (upd H p (.lst xs)) fun σ' H' => g2 y σ' H' fun σ2 H2 => g3 (.ref p) σ2 H2 Q
theorem pg_star2 {e f b : Expr} {k : Nat} {sp pos : Pos} {g1 g2 g3 : TG} (hc : X.calm = true) (h1 : PG X e g1) (h2 : PG X f g2) (h3 : PG X b g3)
    (hn : (assignEach [e, f, .Starred b sp] X.env) = [(false, assign e X.env), (false, assign f X.env), (true, assign b X.env)] := by rfl) : PG X (.Tuple [e, f, .Starred b sp] k pos) (gStar2 X.K g1 g2 g3) := by
  refine ⟨fun pins s σ H v u Q I r hw => ?_⟩
  obtain ⟨a, x, y, xs, e1, hq, hw⟩ := hw
  subst e1
  cases r
  obtain ⟨its, rv, hp, hz⟩ := I.tuple hq
  cases rv with
  | cons r1 rr =>
    rename_i v1 vs1
    cases rr with
    | cons r2 rr =>
      rename_i v2 vs
      have len := rr.length
      rw [List.length_cons, List.length_cons] at hz
      rw [assign_Tuple]
      refine wpAny_bind (wpAny_standAt ?_)
      unfold unpack
      rw [hn]
      have h2s : ([(false, assign e X.env), (false, assign f X.env), (true, assign b X.env)].findIdx? (·.1)) = some 2 := rfl
      refine wpAny_bind (wpAny_holding (unpack_starT (i := 2) hp (I.ok.hd hc) (by simp) (by simp; omega) fun g tk he => ?_))
      have I1 : Inv X pins σ H { s with heap := g, toks := tk } := I.kept fun b o e => he b o (Nat.ne_of_lt (Heap.lt_size e)) e
      have hf : H g.objs.size = none := I1.hok.fresh (Nat.le_refl _)
      have I2 : Inv X pins σ (upd H g.objs.size (.lst xs)) { s with heap := g.push { cls := .type "list", data := .seq vs.toArray }, toks := tk } := I1.laid (t' := tk) (fun b u e => Heap.get?_push_of_some _ e) (Nat.le_refl _) ⟨by omega, vs, 0, rr, Heap.get?_push_size _ rfl⟩
      have ed : ((v1 :: v2 :: vs).toArray.toList.drop 2) = vs := by simp
      have et : ((v1 :: v2 :: vs).toArray.toList.take 2) = [v1, v2] := by simp
      rw [ed, et]
      refine assignInOrder_cons (thn (h1.run pins _ σ _ _ _ _ I2 r1 (hw _ hf)) fun _ s3 ⟨σ3, H3, I3, q3⟩ => ?_)
      refine assignInOrder_cons (thn (h2.run pins s3 σ3 H3 _ _ _ I3 r2 q3) fun _ s4 ⟨σ4, H4, I4, q4⟩ => ?_)
      exact assignInOrder_cons (thn (h3.run pins s4 σ4 H4 (.ref g.objs.size) _ _ I4 rfl q4) fun _ s5 ⟨σ5, H5, I5, q5⟩ => assignInOrder_nil ⟨σ5, H5, I5, q5⟩)
end
end My

set_option maxRecDepth 100000
set_option maxHeartbeats 4000000
/-! the head's facts with written dicts of the top (their hashes depend on the world) -/
namespace Hk
open PySem PySem.W PySem.Calls PyProof.Rows He5
open He (ga ma frG_at ba)
/-- a dict of the top by name, its keys in order -/
abbrev DicT : Type := PySem.Str × List PySem.Str
abbrev AlW : Type := Hk.AlT × List (Option (List (Option (PySem.Str × Int))))
def SaysW (ck : Frag → Bool) (fn : List DefA) (es : List DefE) (tf : List (Frag → Addr)) (ds : List DicT) (w : World) (K : Frag) (h : Heap) : Prop := SaysT ck fn es tf K h ∧ (ds.map fun t => He.dicW K (ga K t.1)) = ds.map fun (t : DicT) => some (He.keysIn w.params t.2)
def obsWG (n : Nat) (ck : Frag → Bool) (fn : List DefA) (es : List DefE) (tf : List (Frag → Addr)) (ds : List DicT) (g : Addr → Option Obj) : AlW := (obsTG n ck fn es tf g, ds.map fun t => He.dicW (frT g n) (ga (frT g n) t.1))
theorem saysT_at {n : Nat} {ck : Frag → Bool} {fn : List DefA} {es : List DefE} {tf : List (Frag → Addr)} {h : Heap} (e : obsTG n ck fn es tf h.get? = valT fn es) : SaysT ck fn es tf (frT h.get? n) h := by
  have kin : (frT h.get? n).In h := fun _ _ e => frG_at _ e
  refine ⟨congrArg (fun z : Hk.AlT => z.1) e, congrArg (fun z : Hk.AlT => z.2.1) e, fun f hf => ?_⟩
  have e3 : (tf.all fun f => tabB h.get? (frT h.get? n) (f (frT h.get? n))) = true := congrArg (fun z : Hk.AlT => z.2.2) e
  have z := List.all_eq_true.mp e3 f hf
  obtain ⟨z1, z⟩ := ba z
  obtain ⟨z2, z3⟩ := ba z
  exact ⟨codeHd_of_K kin z1, by simpa using z2, emptyT_ok z3, z1⟩
def hookW (n : Nat) (ck : Frag → Bool) (fn : List DefA) (es : List DefE) (tf : List (Frag → Addr)) (ds : List DicT) : PySem.W.Hook where
  α := AlW
  obs := fun s => obsWG n ck fn es tf ds s.heap.get?
  val := fun w => (valT fn es, ds.map fun (t : DicT) => some (He.keysIn w.params t.2))
  says := fun w h => ∃ K : Frag, K.In h ∧ SaysW ck fn es tf ds w K h
  of := fun w s e => ⟨frT s.heap.get? n, fun _ _ e => frG_at _ e, saysT_at (congrArg Prod.fst e), congrArg Prod.snd e⟩
  keeps := fun _ _ _ ⟨K, hK, ⟨c1, c2, c3⟩, c4⟩ k => ⟨K, Frag.In.keeps hK k, ⟨c1, c2, fun f hf => by
    obtain ⟨z1, z2, z3, z4⟩ := c3 f hf
    exact ⟨codeHd_of_K (Frag.In.keeps hK k) z4, z2, k _ _ z3, z4⟩⟩, c4⟩
theorem obsWG_eq {n : Nat} {ck : Frag → Bool} {fn : List DefA} {es : List DefE} {tf : List (Frag → Addr)} {ds : List DicT} {g : Addr → Option Obj} {s : Shared} (h : ∀ a, g a = s.heap.get? a) : obsWG n ck fn es tf ds g = (hookW n ck fn es tf ds).obs s := by
  have e : g = s.heap.get? := funext h
  rw [e] <;> rfl
theorem SaysW.dic {ck : Frag → Bool} {fn : List DefA} {es : List DefE} {tf : List (Frag → Addr)} {ds : List DicT} {w : World} {K : Frag} {h : Heap} (c : SaysW ck fn es tf ds w K h) (i : Nat) {t : DicT} (e : ds[i]? = some t := by rfl) : ∃ es n, L2.KDict K w (ga K t.1) es n := by
  have z : (ds.map fun t => He.dicW K (ga K t.1))[i]? = (ds.map fun (t : DicT) => some (He.keysIn w.params t.2))[i]? := by rw [c.2]
  rw [List.getElem?_map, List.getElem?_map, e] at z
  exact He.dicW_ok (Option.some.inj z)
/-- d["x"] is the number n -/
def dvalB (d x : PySem.Str) (n : Int) (K : Frag) : Bool := match nsIn K (ga K d) x with
  | some (some (.int i _)) => decide (i = n)
  | _ => false
theorem dval_of {d x : PySem.Str} {n : Int} {K : Frag} (c : dvalB d x n K = true) : ∃ u, nsIn K (ga K d) x = some (some u) ∧ L2.RelV (.int n) u := by
  unfold dvalB at c
  split at c
  · rename_i i t e
    have : i = n := of_decide_eq_true c
    subst this
    exact ⟨_, e, t, rfl⟩
  · cases c
end Hk

set_option maxRecDepth 100000
set_option maxHeartbeats 4000000
/-! o - a text by an own def; len of an own instance; a written dict's items; what all but some objects keep -/
namespace My
open PySem PySem.Spec PyProof.Rows L2
namespace Bo
open PySem.W Builtin
section
variable {prog : Program} {w : World} {A : Around} {E : Value → Shared → Prop} {s : Shared} {K : Frag} {x C L f : Addr} {h₀ : Heap} {m : Str → Option Value} {ox : Obj} {od : Option Obj}
theorem nosub_str : typeLookup (.type "str") (PySem.dunder "sub") = pure none := by rw [typeLookup_type, builtinLookup_eq_fast]; kernel_rfl
theorem norsub_str : typeLookup (.type "str") (dunderR "sub") = pure none := by rw [typeLookup_type, builtinLookup_eq_fast]; kernel_rfl
theorem fills_str {M : Model} {h : Heap} : Looks M h (fillsNumberSlot (.type "str") "sub") false := by
  intro A Q E s k q
  unfold fillsNumberSlot
  dsimp only
  refine wpAny_bind ?_
  refine wpAny_of_eq nosub_str ?_
  refine wpAny_bind (wpAny_of_eq norsub_str ?_)
  exact wpAny_pure q
/-- y is a text; C has a def for -, str has none -/
theorem binopT {z : Str} {tz : Nat} {cdC : ClassData} {rC : List Value} {Q : Option Value → Shared → Prop} (F : Fr h₀ L s.heap m) (X₀ : K.In h₀) (I : InstAt s.heap x ox C od)
    (hcC : clsIn K C = some cdC) (hmC : cdC.mro = .ref C :: rC) (hs : findIn K (.ref C) (PySem.dunder "sub") = some (some (.ref f))) (hf : isFn K (.ref f) = true)
    (h : wpAny (model prog w) A (call (.ref f) [.ref x, .str z tz]) (fun v s' => v ≠ .notImplemented ∧ Q (some v) s') E s) : wpAny (model prog w) A (binaryOp1 "sub" (.ref x) (.str z tz)) Q E s := by
  have X := X₀.keeps F.keep
  have hb : Looks (model prog w) s.heap (typeOf (.str z tz)) (.type "str") := .now
  have hn : (Value.ref C == Value.type "str") = false := by simp
  unfold binaryOp1
  refine wpAny_bind (I.type.here (wpAny_bind (hb.here (wpAny_bind ((fills_K X hcC hmC hs).here ?_)))))
  rw [hn]
  simp only [Bool.false_eq_true, if_false]
  refine wpAny_bind (fills_str.here ?_)
  simp only [Bool.and_false, Bool.false_eq_true, if_false, Bool.false_and, if_true]
  refine wpAny_bind (wpAny_pure ?_)
  simp only [Bool.false_eq_true, if_false]
  refine wpAny_bind (m := tryMethod (.ref x) (PySem.dunder "sub") (.str z tz)) ?_
  unfold tryMethod
  refine wpAny_bind (special_fn X I hs (beq_iff_eq.mp hf) (wpAny_mono h (fun v s' hv => ?_) fun _ _ e => e))
  cases v <;> first | exact absurd rfl hv.1 | exact wpAny_pure (wpAny_pure hv.2)
/-- len(o) by an own def -/
theorem lenK {Q : Value → Shared → Prop} (X : K.In s.heap) (I : InstAt s.heap x ox C od) (hs : findIn K (.ref C) "__len__" = some (some (.ref f))) (hf : isFn K (.ref f) = true)
    (h : wpAny (model prog w) A.in1 (call (.ref f) [.ref x]) (fun v s' => ∃ (n : Nat) (t : Nat), v = .int n t ∧ n ≤ 1000000 ∧ Q (.int n (s'.toks)) { s' with toks := s'.toks + 1 }) E s) : wpAny (model prog w) A (call (.builtin "len") [.ref x]) Q E s := by
  refine Calls.call_function_entry kind_len plain_len entry_len (args_len1 _) ?_
  unfold Builtin.«len»
  refine wpAny_bind (m := oneArg "len" _) (wpAny_pure ?_)
  refine wpAny_bind (m := callSpecial? (.ref x) (PySem.Str.ofString "__len__")) (special_fn X I hs (beq_iff_eq.mp hf) (wpAny_mono h (fun v s' hv => ?_) fun _ _ e => e))
  obtain ⟨n, t, rfl, hn, q⟩ := hv
  refine wpAny_bind (wpAny_holding (wpAny_pure ?_))
  refine wpAny_bind (wpAny_letGo ?_)
  show wpAny _ _ (if ((n : Nat) : Int) < 0 then _ else _) _ _ _
  rw [if_neg (by omega)]
  show wpAny _ _ (if ((n : Nat) : Int) ≥ 2 ^ 63 then _ else _) _ _ _
  rw [if_neg (by omega)]
  exact wpAny_bind (wpAny_mkInt (wpAny_pure ⟨_, rfl, q⟩))
end
end Bo
section
variable {X : Cx} {n : Nat} {CX : CXT} {E : XK} {pins : List (Addr × Obj)} {σ : L2.St} {H : Hp} {s : Shared}
/-- o - a text -/
def rSubOwn (C : Addr) (sp : Sp) (E : XK) : R2 := fun x y H Q => ∃ a dx fs z, x = .ref a ∧ y = .str z ∧ H a = some (.ins C dx fs) ∧ sp [x, y] H (fun u H' => (∃ p, u = .ref p) ∧ Q u H') E
theorem op_subOwn {C f : Addr} {sp : Sp} (F : FnR X.prog X.w X.K X.mg X.base CX n f sp) (o : Hk.OwnD X.K C "__sub__" f) (mc : ∃ cd r, PySem.W.clsIn X.K C = some cd ∧ cd.mro = .ref C :: r) (hr : Room n X.A) (hx : Passes CX X E) : OpR X (binaryOp .Sub) (rSubOwn C sp E) := by
  rintro pins s σ H x y v u Q I rx ry ⟨a, dx, fs, z, rfl, rfl, ha, q⟩
  cases rx
  obtain ⟨t, rfl⟩ := ry
  obtain ⟨od, J⟩ := ins_at I ha
  obtain ⟨m, hF⟩ := I.fr
  obtain ⟨cc, rc, hcc, hmc⟩ := mc
  have key := Bo.binopT (A := X.A) (E := X.xe) (Q := fun r s' => ∃ z, r = some z ∧ EP X pins σ Q z s') hF I.ok.mod.kin J hcc hmc o.f o.i
    (wpAny_mono (run_at (us := [.ref a, .str z t]) (ws := [.ref a, .str z]) F hr rfl hx I (.cons rfl (.cons ⟨t, rfl⟩ .nil)) q) (fun w s' z => by
      obtain ⟨x, H', I', rz, ⟨p, rfl⟩, q'⟩ := z
      cases rz
      exact ⟨by simp, _, rfl, .ref p, H', I', rfl, q'⟩) fun _ _ z => z)
  show wpAny (model X.prog X.w) X.A (binaryOp .Sub (.ref a) (.str z t)) (EP X pins σ Q) X.xe s
  refine wpAny_holding (wpAny_bind (thn key fun r s1 z => ?_))
  obtain ⟨z, rfl, q⟩ := z
  exact wpAny_pure q
/-- len(o) -/
def rLenOwn (C : Addr) (sp : Sp) (E : XK) : List V → Hp → VK → Prop := fun xs H Q => ∃ a dx fs, xs = [.ref a] ∧ H a = some (.ins C dx fs) ∧ sp [.ref a] H (fun z H' => ∃ n : Nat, z = .int n ∧ n ≤ 1000000 ∧ Q (.int n) H') E
theorem call_lenOwn {C f : Addr} {sp : Sp} (F : FnR X.prog X.w X.K X.mg X.base CX n f sp) (o : Hk.OwnD X.K C "__len__" f) (hr : Room (n + 1) X.A) (hx : Passes CX X E) : CallR X (.builtin "len") (rLenOwn C sp E) := by
  intro pins s σ H xs us Q I r h
  obtain ⟨a, dx, fs, rfl, ha, q⟩ := h
  cases r with
  | cons ru rr =>
    cases rr
    cases ru
    obtain ⟨od, J⟩ := ins_at I ha
    refine Bo.lenK I.kIn J o.f o.i (wpAny_mono (run_below (us := [.ref a]) (ws := [.ref a]) F hr.in1 I.env0.in1 hx I (.cons rfl .nil) q) (fun w s' z => ?_) fun _ _ e => e)
    obtain ⟨x, H', I', rz, n, rfl, hn, q'⟩ := z
    obtain ⟨t, rfl⟩ := rz
    exact ⟨n, t, rfl, hn, .int n, H', I'.tok _, ⟨_, rfl⟩, q'⟩
/-- D["x"] of a dict that the top writes -/
def rKd (K : PySem.W.Frag) (d : Addr) : R2 := fun x y H Q => ∃ (z : Str) (u0 : Value) (v0 : V), x = .ref d ∧ y = .str z ∧ PySem.W.nsIn K d z = some (some u0) ∧ RelV v0 u0 ∧ Q v0 H
theorem ix_kd {d : Addr} {es : Array DictEntry} {k : Nat} (D : KDict X.K X.w d es k) {o i : Expr} {to ti : TE} {pos : Pos} (ho : PE X o to) (hi : PE X i ti) (hs : NoSl i) : PE X (.Subscript o i pos) (tOp (rKd X.K d) to ti) := by
  refine ⟨fun pins s σ H Q I h => ?_⟩
  refine subD_of PySem.F.slot_dict_getitem.lookup hs (thn (ho.run pins s σ H _ I h) fun u s1 ⟨x, H1, I1, rx, q1⟩ => thn (hi.run pins s1 σ H1 _ I1 q1) fun iv s2 ⟨y, H2, I2, ry, q2⟩ => ?_)
  have ⟨z, u0, v0, ex, ey, e, r, q⟩ := q2
  subst ex ey
  cases rx
  exact ⟨kd_type D I2, op_item_kd D pins s2 σ H2 (.ref d) (.str z) _ _ Q I2 rfl ry q2⟩
def rInKd (K : PySem.W.Frag) (d : Addr) (neg : Bool) : R2 := fun x y H Q => ∃ (z : Str) (r : Option Value), x = .str z ∧ y = .ref d ∧ PySem.W.nsIn K d z = some r ∧ Q (.bl (if neg then !r.isSome else r.isSome)) H
theorem op_notInKd {d : Addr} {es : Array DictEntry} {k : Nat} (D : KDict X.K X.w d es k) : OpR X (compareOp .NotIn) (rInKd X.K d true) := op_notIn_kd D
end
/-! ### all but some objects stay -/
structure Kx (S : List Addr) (H H' : Hp) : Prop where
  k : ∀ b o, b ∉ S → H b = some o → H' b = some o
  f : ∀ b, H' b = none → H b = none
section
variable {S : List Addr} {H H1 H2 : Hp} {p : Addr} {o : HO}
theorem Gr.kx (g : Gr H H1) : Kx S H H1 := ⟨fun b o _ h => g.e b o h, g.f⟩
theorem Kx.refl (H : Hp) : Kx S H H := (Gr.refl H).kx
theorem Kx.trans (a : Kx S H H1) (b : Kx S H1 H2) : Kx S H H2 := ⟨fun c o n h => b.k c o n (a.k c o n h), fun c h => a.f c (b.f c h)⟩
theorem Kx.put (a : Kx S H H1) (hp : p ∈ S) (h : H1 p ≠ none) : Kx S H (upd H1 p o) := ⟨fun c u n hc => by
  have e : c ≠ p := fun z => n (z ▸ hp)
  rw [upd_ne e]
  exact a.k c u n hc, fun c hc => by
  by_cases e : c = p
  · rw [e, upd_same] at hc
    cases hc
  · rw [upd_ne e] at hc
    exact a.f c hc⟩
theorem Kx.l (a : Kx S H H1) (n : p ∉ S) {xs : List V} (h : H p = some (.lst xs)) : H1 p = some (.lst xs) := a.k _ _ n h
theorem Kx.pen {z : PenI} {n : Nat} (a : Kx S H H1) (h1 : z.a ∉ S) (h2 : z.c ∉ S) (d : Pen H z n) : Pen H1 z n := by
  obtain ⟨b, r, d, y⟩ := d
  exact ⟨b, r, ⟨a.k _ _ h1 d.d, a.k _ _ h2 d.c⟩, y⟩
end
end My

set_option maxRecDepth 100000
set_option maxHeartbeats 4000000
/-! keyword-only parameters that are left out -/
namespace My
open PySem PySem.Spec PyProof.Rows L2
section
variable {P : Program} {w : World} {K : PySem.W.Frag} {mg : Str → Option Value} {base : Heap} {CX : CXT} {k : Nat} {f : Addr} {sp : Sp} {x qual : Str} {params : Arguments} {body : List Stmt} {scope : Scope} {N ps : List Str} {dvs ads : List V} {kws : List (Str × V)}
theorem fn_any2 {n : Nat} {G : Around → Prop} (F : ∃ fd, FunD K x qual params body scope dvs kws f fd) (S : FnScope N ps scope)
    (hb : ∀ fd, FunD K x qual params body scope dvs kws f fd → BindsR K fd ps n ads) (len : ∀ vs H Q E, sp vs H Q E → vs.length = n) (hn : n + ads.length = ps.length)
    (hbody : ∀ (A : Around) (outer : List Env) (s : Shared) (H : Hp) (vs : List V) (Q : VK) (E : XK) (cdv : Value), G A → Room k (A.deeper (envOfC qual scope s.heap.objs.size f cdv)) → sp vs H Q E →
      ∃ t, PSs (cxOf CX P w K mg base N qual scope f cdv A outer s H E) body t ∧ t { nx := fun _ H' => Q .non H', rt := Q } (start N (vs ++ ads)) H) :
    ∀ (A : Around) (outer : List Env) (s : Shared) (H : Hp) (us : List Value) (vs : List V) (Q : VK) (E : XK), G A → Room (k + 1) A →
      Env0 P w K mg base A outer s H → Vals vs us → sp vs H Q E → codeAny (model P w) A (.call (.ref f) ⟨us, []⟩) (CR CX outer P w H s Q E) s := by
  intro A outer s H us vs Q E hG hr e0 r hsp
  obtain ⟨fd, F⟩ := F
  have hB := hb fd F
  obtain ⟨oc, od, dV, kV, doc, pm, an, cdv, ct, osl, rfl, lk, hcd, _, _⟩ := F.ex
  have hl : us.length = n := by rw [← r.length]; exact len _ _ _ _ hsp
  obtain ⟨ds, rd, hbt⟩ := hB s us (e0.mod.kin.keeps fun b o e => (e0.bs b o e).1) hl
  refine StX.run_bnd lk hcd S hr e0 (G := fun ws H2 => ws = vs ++ ads ∧ H2 = H) (fun A' Ex Q' h => ?_) fun s2 H2 ws hw hr' => ?_
  · refine hbt _ A' Ex _ ?_
    exact h s H (vs ++ ads) (us ++ ds) e0 Un.refl rfl (fun _ _ z => z) (r.append rd) (by rw [List.length_append, len _ _ _ _ hsp, hn]) ⟨rfl, rfl⟩
  · obtain ⟨e1, e2⟩ := hw
    subst e1 e2
    exact hbody A outer s2 _ vs Q E cdv hG hr' hsp
/-- def f(a, *, k = d), called as f(a) -/
theorem fnR_kw1 {d : V} {kn : Str} (F : ∃ fd, FunD K x qual params body scope [] [(kn, d)] f fd) (S : FnScope N ps scope) (hps : ps.length = 2)
    (hb : ∀ (D : Addr) (doc pm : Value) (an : Option Addr) (cdv ct : Value) (us ks : List Value), us.length = 1 → ks.length = 1 → KwChain D ([kn].zip ks) (bindArgs (PySem.W.fnOf x qual params body scope .none (.ref D) doc pm an cdv ct) ⟨us, []⟩) (ps.zip (us ++ ks)))
    (len : ∀ vs H Q E, sp vs H Q E → vs.length = 1)
    (hbody : ∀ (A : Around) (outer : List Env) (s : Shared) (H : Hp) (vs : List V) (Q : VK) (E : XK) (cdv : Value), Room k (A.deeper (envOfC qual scope s.heap.objs.size f cdv)) → sp vs H Q E →
      ∃ t, PSs (cxOf CX P w K mg base N qual scope f cdv A outer s H E) body t ∧ t { nx := fun _ H' => Q .non H', rt := Q } (start N (vs ++ [d])) H) :
    FnR P w K mg base CX (k + 1) f sp := fun A outer s H us vs Q E hr e0 r hs =>
  fn_any2 (G := fun _ => True) (n := 1) (ads := [d]) F S (fun fd F' => by
    obtain ⟨ds, hd, hb'⟩ := F'.binds0 (ps := ps) 1 (by simp) (by rw [hps]; rfl) hb
    exact bindsR_of1 hb' hd hps) len (by rw [hps]; rfl) (fun A outer s H vs Q E cdv _ hr' h => hbody A outer s H vs Q E cdv hr' h) A outer s H us vs Q E trivial hr e0 r hs
end
end My

set_option maxRecDepth 100000
set_option maxHeartbeats 4000000
/-! the head's facts over the objects that the module's names reach, each gone through once (a code object's parts are not wanted) -/
namespace Hk
open PySem PySem.W PySem.Calls PyProof.Rows He5
open He (ga ma frG frG_at ba refsD)
def kidsB (o : Obj) : List Addr := match o.cls with
  | .type "code" => []
  | _ => refsD o
/-- the addresses that are new -/
def addN : List Addr → Nat → List Addr → (Nat → List Addr → List Addr) → List Addr
  | [], seen, new, k => k seen new
  | a :: r, seen, new, k => match Nat.testBit seen a with
    | true => addN r seen new k
    | false => HandSHeadRun.frNat (seen ||| (1 <<< a)) fun s => addN r s (a :: new) k
def expandB (g : Addr → Option Obj) : List Addr → Nat → List Addr → (Nat → List Addr → List Addr) → List Addr
  | [], seen, new, k => k seen new
  | a :: r, seen, new, k => match g a with
    | some o => addN (kidsB o) seen new fun s n => expandB g r s n k
    | none => expandB g r seen new k
def bfsB (g : Addr → Option Obj) : Nat → List Addr → Nat → List Addr
  | 0, fr, _ => fr
  | n + 1, fr, seen => fr ++ expandB g fr seen [] fun s new => bfsB g n new s
def asB (n : Nat) (g : Addr → Option Obj) : List Addr := bfsB g n [mainGlobals] (1 <<< mainGlobals) ++ [cStatics]
section
variable (as : (Addr → Option Obj) → List Addr)
def frX (g : Addr → Option Obj) : Frag := frG g ((as g).filter (notTab g))
def obsXG (ck : Frag → Bool) (fn : List DefA) (es : List DefE) (tf : List (Frag → Addr)) (ds : List DicT) (g : Addr → Option Obj) : AlW := (fun K => (obsT ck fn es tf g K, ds.map fun t => He.dicW K (ga K t.1))) (frX as g)
def hookX (ck : Frag → Bool) (fn : List DefA) (es : List DefE) (tf : List (Frag → Addr)) (ds : List DicT) : PySem.W.Hook where
  α := AlW
  obs := fun s => obsXG as ck fn es tf ds s.heap.get?
  val := fun w => (valT fn es, ds.map fun (t : DicT) => some (He.keysIn w.params t.2))
  says := fun w h => ∃ K : Frag, K.In h ∧ SaysW ck fn es tf ds w K h
  of := fun w s e => ⟨frX as s.heap.get?, fun _ _ e => frG_at _ e, by
    have kin : (frX as s.heap.get?).In s.heap := fun _ _ e => frG_at _ e
    have e0 : obsT ck fn es tf s.heap.get? (frX as s.heap.get?) = valT fn es := congrArg Prod.fst e
    refine ⟨⟨congrArg (fun z : Hk.AlT => z.1) e0, congrArg (fun z : Hk.AlT => z.2.1) e0, fun f hf => ?_⟩, congrArg Prod.snd e⟩
    have e3 : (tf.all fun f => tabB s.heap.get? (frX as s.heap.get?) (f (frX as s.heap.get?))) = true := congrArg (fun z : Hk.AlT => z.2.2) e0
    have z := List.all_eq_true.mp e3 f hf
    obtain ⟨z1, z⟩ := ba z
    obtain ⟨z2, z3⟩ := ba z
    exact ⟨codeHd_of_K kin z1, by simpa using z2, emptyT_ok z3, z1⟩⟩
  keeps := fun _ _ _ ⟨K, hK, ⟨c1, c2, c3⟩, c4⟩ k => ⟨K, Frag.In.keeps hK k, ⟨c1, c2, fun f hf => by
    obtain ⟨z1, z2, z3, z4⟩ := c3 f hf
    exact ⟨codeHd_of_K (Frag.In.keeps hK k) z4, z2, k _ _ z3, z4⟩⟩, c4⟩
theorem obsXG_eq {as : (Addr → Option Obj) → List Addr} {ck : Frag → Bool} {fn : List DefA} {es : List DefE} {tf : List (Frag → Addr)} {ds : List DicT} {g : Addr → Option Obj} {s : Shared} (h : ∀ a, g a = s.heap.get? a) : obsXG as ck fn es tf ds g = (hookX as ck fn es tf ds).obs s := by
  have e : g = s.heap.get? := funext h
  rw [e] <;> rfl
end
end Hk

set_option maxRecDepth 100000
set_option maxHeartbeats 4000000
/-! data with dicts: repr -/
namespace Hk
open PySem PySem.W
def asM (n : Nat) (g : Addr → Option Obj) : List Addr := asB n g ++ [sysModules]
def sysB (K : Frag) : Bool := (K.lookup sysModules).isSome
theorem sys_of {K : Frag} (h : sysB K = true) : ∃ o, K.lookup sysModules = some o := Option.isSome_iff_exists.mp h
end Hk
namespace My
open PySem PySem.Spec PyProof.Rows L2
mutual
/-- data at its place: lists and dicts were made behind B -/
inductive Dq (B H : Hp) : V → PyData → Prop
  | non : Dq B H .non .none
  | bl (b : Bool) : Dq B H (.bl b) (.bool b)
  | int (i : Int) : Dq B H (.int i) (.int i)
  | str (x : Str) : Dq B H (.str x) (.str x)
  | lst {a : Addr} {xs : List V} {ds : List PyData} : H a = some (.lst xs) → B a = none → DqAll B H xs ds → Dq B H (.ref a) (.list ds)
  | tup {a : Addr} {xs : List V} {ds : List PyData} : H a = some (.tup xs) → DqAll B H xs ds → Dq B H (.ref a) (.tuple ds)
  | d0 {a : Addr} : H a = some (.dK []) → B a = none → Dq B H (.ref a) (.dict [])
  | d1 {a : Addr} {k : Str} {i : Int} : H a = some (.dK [(.inr k, .int i)]) → k ≠ "rest" → B a = none → Dq B H (.ref a) (.dict [(.str k, .int i)])
inductive DqAll (B H : Hp) : List V → List PyData → Prop
  | nil : DqAll B H [] []
  | cons {v : V} {vs : List V} {d : PyData} {ds : List PyData} : Dq B H v d → DqAll B H vs ds → DqAll B H (v :: vs) (d :: ds)
end
section
variable {X : Cx} {pins : List (Addr × Obj)} {σ : L2.St} {H B : Hp} {s : Shared}
theorem sys_no (I : Inv X pins σ H s) (hs : ∃ o, X.K.lookup sysModules = some o) {a : Addr} {o : HO} (h : H a = some o) : sysModules ≠ a := fun e => by
  subst e
  obtain ⟨k, hk⟩ := hs
  have := (I.bs _ _ (I.mod.kin _ _ hk)).2
  rw [h] at this
  cases this
mutual
theorem Dq.reads (I : Inv X pins σ H s) (hs : ∃ o, X.K.lookup sysModules = some o) : ∀ (d : PyData) (v : V) (u : Value), Dq B H v d → RelV v u → ∃ as, Reads s.heap u d as ∧ sysModules ∉ as
  | .none, _, _, h, r => by
    cases h
    cases r
    exact ⟨_, Reads.none, List.not_mem_nil⟩
  | .bool b, _, _, h, r => by
    cases h
    cases r
    exact ⟨_, Reads.bool b, List.not_mem_nil⟩
  | .int i, _, _, h, r => by
    cases h
    obtain ⟨t, rfl⟩ := r
    exact ⟨_, Reads.int i t, List.not_mem_nil⟩
  | .str x, _, _, h, r => by
    cases h
    obtain ⟨t, rfl⟩ := r
    exact ⟨_, Reads.str x t, List.not_mem_nil⟩
  | .list ds, _, _, h, r => by
    cases h with
    | lst h0 hb ha =>
      cases r
      obtain ⟨its, rv, ⟨o, n, ho, hc, _, hd⟩, _⟩ := I.list (SqL.of h0)
      obtain ⟨as, hr, hn⟩ := Dq.readsAll I hs ds _ its ha rv
      refine ⟨_, Reads.list ho hc hd hr, fun hm => ?_⟩
      rcases List.mem_cons.mp hm with e | hm
      · exact sys_no I hs h0 e
      · exact hn hm
  | .tuple ds, _, _, h, r => by
    cases h with
    | tup h0 ha =>
      cases r
      obtain ⟨its, rv, ⟨o, ho, hc, n, hd⟩, _⟩ := I.tuple (SqT.of h0)
      obtain ⟨as, hr, hn⟩ := Dq.readsAll I hs ds _ its ha rv
      exact ⟨_, Reads.tuple ho hc hd hr, hn⟩
  | .dict kvs, _, _, h, r => by
    cases h with
    | d0 h0 hb =>
      cases r
      obtain ⟨_, _, vs, kv, o, es, ep, ho, hx, hd, _, hp, _⟩ := dk_of I.hok h0
      cases kv
      have e : es.toList = [] := by
        generalize es.toList = l at hp
        cases hp
        rfl
      refine ⟨_, Reads.dict (kvs := []) (as := []) (bs := []) ho hx.1 hd (by rw [e]; exact .nil) (by rw [e]; exact .nil), fun hm => ?_⟩
      have hm : sysModules ∈ [_] := hm
      exact sys_no I hs h0 (List.mem_singleton.mp hm)
    | @d1 a k i h0 _ hb =>
      cases r
      obtain ⟨_, _, vs, kv, o, es, ep, ho, hx, hd, _, hp, _⟩ := dk_of I.hok h0
      cases kv with
      | @cons _ q _ _ hq ht =>
        cases ht
        obtain ⟨h1, t, h2⟩ := hq
        have e : ∃ e0 : DictEntry, es.toList = [e0] ∧ keyIs q.1 e0.key = true ∧ e0.val = q.2 := by
          generalize es.toList = l at hp
          cases hp with
          | cons a b c => cases c; exact ⟨_, rfl, a, b⟩
        obtain ⟨e0, e1, e2, e3⟩ := e
        have ek : ∃ t, e0.key = .str k t := by
          rcases keyIs_shape e2 with ⟨j, t, z, _⟩ | ⟨x, t, z, z2⟩
          · rw [← h1] at z; cases z
          · rw [← h1] at z
            cases z
            exact ⟨t, z2⟩
        obtain ⟨t2, ek⟩ := ek
        refine ⟨_, Reads.dict (kvs := [(.str k, .int i)]) (as := [] ++ []) (bs := [] ++ []) ho hx.1 hd (by rw [e1]; show ReadsAll _ [e0.key] [.str k] _; rw [ek]; exact .cons (.str _ _) .nil) (by rw [e1]; show ReadsAll _ [e0.val] [.int i] _; rw [e3, h2]; exact .cons (.int _ _) .nil), fun hm => ?_⟩
        have hm : sysModules ∈ [a] := hm
        exact sys_no I hs h0 (List.mem_singleton.mp hm)
theorem Dq.readsAll (I : Inv X pins σ H s) (hs : ∃ o, X.K.lookup sysModules = some o) : ∀ (ds : List PyData) (vs : List V) (us : List Value), DqAll B H vs ds → Vals vs us → ∃ as, ReadsAll s.heap us ds as ∧ sysModules ∉ as
  | [], _, _, h, r => by
    cases h
    cases r
    exact ⟨_, ReadsAll.nil, List.not_mem_nil⟩
  | d :: ds, _, _, h, r => by
    cases h with
    | cons h1 h2 =>
      cases r with
      | cons r1 r2 =>
        obtain ⟨as, q1, n1⟩ := Dq.reads I hs d _ _ h1 r1
        obtain ⟨bs, q2, n2⟩ := Dq.readsAll I hs ds _ _ h2 r2
        exact ⟨_, ReadsAll.cons q1 q2, fun hm => by
          rcases List.mem_append.mp hm with hm | hm
          · exact n1 hm
          · exact n2 hm⟩
end
/-- repr of data with dicts -/
def rReprQ : List V → Hp → VK → Prop := fun xs H Q => ∃ B v d, xs = [v] ∧ Dq B H v d ∧ d.showable = true ∧ d.depth ≤ 40 ∧ d.shown.length ≤ sizeLine ∧ Q (.str d.shown) H
theorem call_reprQ {X : Cx} (hs : ∃ o, X.K.lookup sysModules = some o) (hu : X.A.units + 64 < cLine) (hg : X.A.guards = some []) : CallR X (.builtin "repr") rReprQ := by
  intro pins s σ H xs us Q I r h
  obtain ⟨B, v, d, rfl, hd, hsh, hdep, hz, q⟩ := h
  cases r with
  | @cons _ u _ ur ru rr =>
    cases rr
    obtain ⟨as, hR, hn⟩ := Dq.reads I hs d v u hd ru
    have big : ∀ a, u = .ref a → wpAny (model X.prog X.w) X.A (call (.builtin "repr") [u]) (EP X pins σ Q) X.xe s := fun a e => by
      subst e
      exact repr_of_reads' hR hsh (fun _ => hn) hg (by omega) (fun _ _ e => e) (fun h' u tk k => ⟨.str _, H, I.kept (t' := tk) k, ⟨_, rfl⟩, q⟩) hz
    cases hd with
    | non =>
      cases (show u = Value.none from ru)
      exact PySem.P.repr_of_none ⟨.str _, H, I.tok _, ⟨_, rfl⟩, q⟩
    | bl b =>
      cases (show u = Value.bool b from ru)
      exact PySem.P.repr_of_bool ⟨.str _, H, I.tok _, ⟨_, rfl⟩, q⟩
    | int i =>
      obtain ⟨t, rfl⟩ := (show ∃ t, u = Value.int i t from ru)
      exact PySem.P.repr_of_int (by simpa [PyData.showable] using hsh) ⟨.str _, H, I.tok _, ⟨_, rfl⟩, q⟩
    | str z =>
      obtain ⟨t, rfl⟩ := (show ∃ t, u = Value.str z t from ru)
      exact PySem.P.repr_of_str ⟨.str _, H, I.tok _, ⟨_, rfl⟩, q⟩ hz
    | lst _ _ _ => exact big _ ru
    | tup _ _ => exact big _ ru
    | d0 _ _ => exact big _ ru
    | d1 _ _ _ => exact big _ ru
end
end My

set_option maxRecDepth 100000
set_option maxHeartbeats 4000000
/-! a tuple of any items against () -/
namespace My
open PySem PySem.Spec PyProof.Rows L2
section
open PySem.SeqAt MeetsSeq MeetsSeq2 MeetsSeq3 SeqRoads2
variable {prog : Program} {w : World} {A : Around} {s : Shared} {l b : Addr} {items : Array Value}
theorem rc_eqT0 (hl : IsTup s.heap l items) (hb : IsTup s.heap b #[]) (hu : A.units < cLine) (E Q : Value → Shared → Prop) (h : Q (.bool (items.size == 0)) s) : wpAny (model prog w) A (richCompare .Eq (.ref l) (.ref b)) Q E s := by
  obtain ⟨⟨c1, d1, t1, l1⟩, o1, e1, n1, f1⟩ := id hl
  obtain ⟨⟨c2, d2, t2, l2⟩, o2, e2, n2, f2⟩ := id hb
  simp only at e1 f1 e2 f2
  subst e1 f1 e2 f2
  have ta : s.TypeIs (.ref l) "tuple" := ⟨_, o1, rfl⟩
  have tb : s.TypeIs (.ref b) "tuple" := ⟨_, o2, rfl⟩
  refine wpAny_richCompare_same_room (op := .Eq) ta tb F.slot_tuple_eq ?_ hu
  refine call_meets F.slot_tuple_eq ta F.entry_tuple_eq (F.args_tuple_eq_2 _ _) (tuple_eqAt l b items #[] n1 n2 d1 d2 l1 l2 fun _ => true) ⟨o1, o2, fun j h1 h2 => absurd h2 (Nat.not_lt_zero _), ⟨(fun x => nomatch x), ?_⟩⟩
  have e : ((List.range (min items.size (#[] : Array Value).size)).all (fun _ => true) && items.size == (#[] : Array Value).size) = (items.size == 0) := by simp
  rw [e]
  exact h
end
section
variable {X : Cx} {K : PySem.W.Frag}
def rEqT0 (K : PySem.W.Frag) : R2 := fun x y H Q => ∃ p q xs, x = .ref p ∧ y = .ref q ∧ SqT K H p xs ∧ SqT K H q [] ∧ Q (.bl xs.isEmpty) H
theorem op_eqT0 (hK : X.K = K) (hu : X.A.units < cLine) : OpR X (compareOp .Eq) (rEqT0 K) := by
  subst hK
  intro pins s σ H x y v u Q I rx ry h
  obtain ⟨p, q, xs, rfl, rfl, h1, h2, k⟩ := h
  cases rx
  cases ry
  obtain ⟨us, r1, l1, _⟩ := I.tuple h1
  obtain ⟨us2, r2, l2, _⟩ := I.tuple h2
  cases r2
  show wpAny (model X.prog X.w) X.A (richCompare .Eq (.ref p) (.ref q)) (EP X pins σ Q) X.xe s
  refine rc_eqT0 l1 l2 hu _ _ ?_
  rw [emp_size r1]
  exact ⟨.bl _, H, I, rfl, k⟩
theorem r_eqT0' {p q : Addr} {xs : List V} {H : Hp} {Q : VK} (h1 : SqT K H p xs) (h2 : SqT K H q []) (k : Q (.bl xs.isEmpty) H) : rEqT0 K (.ref p) (.ref q) H Q := ⟨p, q, xs, rfl, rfl, h1, h2, k⟩
end
end My

set_option maxRecDepth 100000
set_option maxHeartbeats 4000000
/-! o - a value of any kind, by an own def -/
namespace Hk
open PySem PySem.W PySem.Calls PyProof.Rows
def norB (K : Frag) (C : PySem.Str) : Bool := match findIn K (.ref (He.ga K C)) (dunderR "sub") with
  | some none => true
  | _ => false
theorem nor_of {K : Frag} {C : PySem.Str} (h : norB K C = true) : findIn K (.ref (He.ga K C)) (dunderR "sub") = some none := by
  unfold norB at h
  split at h
  · assumption
  · cases h
end Hk
namespace My
open PySem PySem.Spec PyProof.Rows L2
namespace Bo
open PySem.W Builtin
theorem mro_int' : mroOf (.type "int") = pure [.type "int", .type "object"] := by rw [mroOf_type]; kernel_rfl
theorem mro_bool' : mroOf (.type "bool") = pure [.type "bool", .type "int", .type "object"] := by rw [mroOf_type]; kernel_rfl
theorem sub_int_ref (C : Addr) : isSubtype (.type "int") (.ref C) = pure false := by
  unfold isSubtype
  rw [mro_int']
  simp
theorem sub_bool_ref (C : Addr) : isSubtype (.type "bool") (.ref C) = pure false := by
  unfold isSubtype
  rw [mro_bool']
  simp
theorem rsub_int : typeLookup (.type "int") (dunderR "sub") = pure (some (.builtin "int.__rsub__")) := by rw [typeLookup_type, builtinLookup_eq_fast]; kernel_rfl
theorem rsub_bool : typeLookup (.type "bool") (dunderR "sub") = pure (some (.builtin "int.__rsub__")) := by rw [typeLookup_type, builtinLookup_eq_fast]; kernel_rfl
theorem nosub {T : String} (h : T = "str" ∨ T = "NoneType" ∨ T = "list" ∨ T = "tuple" ∨ T = "dict") : typeLookup (.type T) (PySem.dunder "sub") = pure none ∧ typeLookup (.type T) (dunderR "sub") = pure none := by
  rcases h with rfl | rfl | rfl | rfl | rfl <;> exact ⟨by rw [typeLookup_type, builtinLookup_eq_fast]; kernel_rfl, by rw [typeLookup_type, builtinLookup_eq_fast]; kernel_rfl⟩
section
variable {prog : Program} {w : World} {A : Around} {E : Value → Shared → Prop} {s : Shared} {K : Frag} {x C L f : Addr} {h₀ : Heap} {m : Str → Option Value} {ox : Obj} {od : Option Obj}
theorem fills_no {T : String} (h : T = "str" ∨ T = "NoneType" ∨ T = "list" ∨ T = "tuple" ∨ T = "dict") {M : Model} {h0 : Heap} : Looks M h0 (fillsNumberSlot (.type T) "sub") false := by
  intro A Q E s k q
  unfold fillsNumberSlot
  dsimp only
  refine wpAny_bind ?_
  refine wpAny_of_eq (nosub h).1 ?_
  refine wpAny_bind (wpAny_of_eq (nosub h).2 ?_)
  exact wpAny_pure q
/-- y is of a kind that fills no slot -/
theorem binopN {y : Value} {T : String} (hT : T = "str" ∨ T = "NoneType" ∨ T = "list" ∨ T = "tuple" ∨ T = "dict") (hb : Looks (model prog w) s.heap (typeOf y) (.type T)) {cdC : ClassData} {rC : List Value} {Q : Option Value → Shared → Prop} (F : Fr h₀ L s.heap m) (X₀ : K.In h₀) (I : InstAt s.heap x ox C od)
    (hcC : clsIn K C = some cdC) (hmC : cdC.mro = .ref C :: rC) (hs : findIn K (.ref C) (PySem.dunder "sub") = some (some (.ref f))) (hf : isFn K (.ref f) = true)
    (h : wpAny (model prog w) A (call (.ref f) [.ref x, y]) (fun v s' => v ≠ .notImplemented ∧ Q (some v) s') E s) : wpAny (model prog w) A (binaryOp1 "sub" (.ref x) y) Q E s := by
  have X := X₀.keeps F.keep
  have hn : (Value.ref C == Value.type T) = false := by simp
  unfold binaryOp1
  refine wpAny_bind (I.type.here (wpAny_bind (hb.here (wpAny_bind ((fills_K X hcC hmC hs).here ?_)))))
  rw [hn]
  simp only [Bool.false_eq_true, if_false]
  refine wpAny_bind ((fills_no hT).here ?_)
  simp only [Bool.and_false, Bool.false_eq_true, if_false, Bool.false_and, if_true]
  refine wpAny_bind (wpAny_pure ?_)
  simp only [Bool.false_eq_true, if_false]
  refine wpAny_bind (m := tryMethod (.ref x) (PySem.dunder "sub") y) ?_
  unfold tryMethod
  refine wpAny_bind (special_fn X I hs (beq_iff_eq.mp hf) (wpAny_mono h (fun v s' hv => ?_) fun _ _ e => e))
  cases v <;> first | exact absurd rfl hv.1 | exact wpAny_pure (wpAny_pure hv.2)
/-- y is a number -/
theorem binopI {y : Value} {T : String} (hb : Looks (model prog w) s.heap (typeOf y) (.type T)) (hfill : fillsNumberSlot (.type T) "sub" = pure true) (hsub : isSubtype (.type T) (.ref C) = pure false) (htl : typeLookup (.type T) (dunderR "sub") = pure (some (.builtin "int.__rsub__")))
    {cdC : ClassData} {rC : List Value} {Q : Option Value → Shared → Prop} (F : Fr h₀ L s.heap m) (X₀ : K.In h₀) (I : InstAt s.heap x ox C od)
    (hcC : clsIn K C = some cdC) (hmC : cdC.mro = .ref C :: rC) (hs : findIn K (.ref C) (PySem.dunder "sub") = some (some (.ref f))) (hf : isFn K (.ref f) = true) (hrC : findIn K (.ref C) (dunderR "sub") = some none)
    (h : wpAny (model prog w) A (call (.ref f) [.ref x, y]) (fun v s' => v ≠ .notImplemented ∧ Q (some v) s') E s) : wpAny (model prog w) A (binaryOp1 "sub" (.ref x) y) Q E s := by
  have X := X₀.keeps F.keep
  have hn : (Value.ref C == Value.type T) = false := by simp
  unfold binaryOp1
  refine wpAny_bind (I.type.here (wpAny_bind (hb.here (wpAny_bind ((fills_K X hcC hmC hs).here ?_)))))
  rw [hn]
  simp only [Bool.false_eq_true, if_false]
  refine wpAny_bind (wpAny_of_eq hfill ?_)
  simp only [Bool.and_self, if_true]
  refine wpAny_bind (m := isSubtype (.type T) (.ref C)) (wpAny_of_eq hsub ?_)
  simp only [Bool.false_eq_true, if_false]
  simp only [Bool.false_eq_true, if_false, Bool.not_false, Bool.and_self, if_true]
  refine wpAny_bind (m := numberSlotInPython (.ref C) "sub") ((inPy X hs hrC).here ?_)
  simp only [if_true]
  refine wpAny_bind (m := numberSlotInPython (.type T) "sub") (wpAny_pure ?_)
  simp only [Bool.not_false, if_true]
  refine wpAny_bind (m := typeLookup (.type T) (dunderR "sub")) (wpAny_of_eq htl ?_)
  refine wpAny_bind (m := tryMethod (.ref x) (PySem.dunder "sub") y) ?_
  unfold tryMethod
  refine wpAny_bind (special_fn X I hs (beq_iff_eq.mp hf) (wpAny_mono h (fun v s' hv => ?_) fun _ _ e => e))
  cases v <;> first | exact absurd rfl hv.1 | exact wpAny_pure (wpAny_pure hv.2)
end
end Bo
section
variable {X : Cx} {n : Nat} {CX : CXT} {E : XK} {pins : List (Addr × Obj)} {σ : L2.St} {H : Hp} {s : Shared}
theorem looks_cls {M : Model} {h : Heap} {a : Addr} {o : Obj} {T : String} (e : h.get? a = some o) (c : o.cls = .type T) : PySem.W.Looks M h (typeOf (.ref a)) (.type T) := c ▸ (PySem.W.Looks.ld e).andThen .now
/-- o - data -/
def rSubOwnV (C : Addr) (sp : Sp) (E : XK) : R2 := fun x y H Q => ∃ a dx fs B d, x = .ref a ∧ H a = some (.ins C dx fs) ∧ Dq B H y d ∧ sp [x, y] H (fun u H' => (∃ p, u = .ref p) ∧ Q u H') E
theorem op_subOwnV {C f : Addr} {sp : Sp} (F : FnR X.prog X.w X.K X.mg X.base CX n f sp) (o : Hk.OwnD X.K C "__sub__" f) (mc : ∃ cd r, PySem.W.clsIn X.K C = some cd ∧ cd.mro = .ref C :: r) (hrC : PySem.W.findIn X.K (.ref C) (dunderR "sub") = some none) (hr : Room n X.A) (hx : Passes CX X E) : OpR X (binaryOp .Sub) (rSubOwnV C sp E) := by
  rintro pins s σ H x y v u Q I rx ry ⟨a, dx, fs, B, d, rfl, ha, hd, q⟩
  cases rx
  obtain ⟨od, J⟩ := ins_at I ha
  obtain ⟨m, hF⟩ := I.fr
  obtain ⟨cc, rc, hcc, hmc⟩ := mc
  have call0 : wpAny (model X.prog X.w) X.A (call (.ref f) [.ref a, u]) (fun w s' => w ≠ .notImplemented ∧ ∃ z, (some w : Option Value) = some z ∧ EP X pins σ Q z s') X.xe s :=
    wpAny_mono (run_at (us := [.ref a, u]) (ws := [.ref a, y]) F hr rfl hx I (.cons rfl (.cons ry .nil)) q) (fun w s' z => by
      obtain ⟨x, H', I', rz, ⟨p, rfl⟩, q'⟩ := z
      cases rz
      exact ⟨by simp, _, rfl, .ref p, H', I', rfl, q'⟩) fun _ _ z => z
  have key : wpAny (model X.prog X.w) X.A (PySem.binaryOp1 "sub" (.ref a) u) (fun r s' => ∃ z, r = some z ∧ EP X pins σ Q z s') X.xe s := by
    have cN : ∀ {T : String}, (T = "str" ∨ T = "NoneType" ∨ T = "list" ∨ T = "tuple" ∨ T = "dict") → PySem.W.Looks (model X.prog X.w) s.heap (typeOf u) (.type T) → _ := fun hT hb => Bo.binopN (A := X.A) (E := X.xe) (Q := fun r s' => ∃ z, r = some z ∧ EP X pins σ Q z s') hT hb hF I.ok.mod.kin J hcc hmc o.f o.i call0
    cases hd with
    | non =>
      cases (show u = Value.none from ry)
      exact cN (.inr (.inl rfl)) .now
    | bl b =>
      cases (show u = Value.bool b from ry)
      exact Bo.binopI .now PySem.F.fills_bool_sub (Bo.sub_bool_ref C) Bo.rsub_bool hF I.ok.mod.kin J hcc hmc o.f o.i hrC call0
    | int i =>
      obtain ⟨t, rfl⟩ := (show ∃ t, u = Value.int i t from ry)
      exact Bo.binopI .now PySem.F.fills_int_sub (Bo.sub_int_ref C) Bo.rsub_int hF I.ok.mod.kin J hcc hmc o.f o.i hrC call0
    | str z =>
      obtain ⟨t, rfl⟩ := (show ∃ t, u = Value.str z t from ry)
      exact cN (.inl rfl) .now
    | lst h _ _ =>
      cases ry
      obtain ⟨its, rv, ⟨o, n, ho, hc, _, hd⟩, _⟩ := I.list (SqL.of h)
      exact cN (.inr (.inr (.inl rfl))) (looks_cls ho hc)
    | tup h _ =>
      cases ry
      obtain ⟨its, rv, ⟨o, ho, hc, n, hd⟩, _⟩ := I.tuple (SqT.of h)
      exact cN (.inr (.inr (.inr (.inl rfl)))) (looks_cls ho hc)
    | d0 h _ =>
      cases ry
      obtain ⟨_, _, vs, kv, o, es, ep, ho, hx, _⟩ := dk_of I.hok h
      exact cN (.inr (.inr (.inr (.inr rfl)))) (looks_cls ho hx.1)
    | d1 h _ _ =>
      cases ry
      obtain ⟨_, _, vs, kv, o, es, ep, ho, hx, _⟩ := dk_of I.hok h
      exact cN (.inr (.inr (.inr (.inr rfl)))) (looks_cls ho hx.1)
  show wpAny (model X.prog X.w) X.A (binaryOp .Sub (.ref a) u) (EP X pins σ Q) X.xe s
  refine wpAny_holding (wpAny_bind (thn key fun r s1 z => ?_))
  obtain ⟨z, rfl, q⟩ := z
  exact wpAny_pure q
end
end My

set_option maxRecDepth 100000
set_option maxHeartbeats 4000000
/-! data stays -/
namespace My
open PySem PySem.Spec PyProof.Rows L2
/-- what data of places behind B is made of stays -/
structure Ke (B H H' : Hp) : Prop where
  t : ∀ b xs, H b = some (.tup xs) → H' b = some (.tup xs)
  l : ∀ b xs, B b = none → H b = some (.lst xs) → H' b = some (.lst xs)
  d : ∀ b kvs, B b = none → penlike (.dK kvs) = false → H b = some (.dK kvs) → H' b = some (.dK kvs)
mutual
theorem Dq.ke {B H H' : Hp} (k : Ke B H H') : ∀ (d : PyData) (v : V), Dq B H v d → Dq B H' v d
  | .none, _, h => by cases h; exact .non
  | .bool b, _, h => by cases h; exact .bl b
  | .int i, _, h => by cases h; exact .int i
  | .str x, _, h => by cases h; exact .str x
  | .list ds, _, h => by
    cases h with
    | lst h0 hb ha => exact .lst (k.l _ _ hb h0) hb (DqAll.ke k ds _ ha)
  | .tuple ds, _, h => by
    cases h with
    | tup h0 ha => exact .tup (k.t _ _ h0) (DqAll.ke k ds _ ha)
  | .dict kvs, _, h => by
    cases h with
    | d0 h0 hb => exact .d0 (k.d _ _ hb rfl h0) hb
    | d1 h0 n hb => exact .d1 (k.d _ _ hb rfl h0) n hb
theorem DqAll.ke {B H H' : Hp} (k : Ke B H H') : ∀ (ds : List PyData) (vs : List V), DqAll B H vs ds → DqAll B H' vs ds
  | [], _, h => by cases h; exact .nil
  | d :: ds, _, h => by
    cases h with
    | cons h1 h2 => exact .cons (Dq.ke k d _ h1) (DqAll.ke k ds _ h2)
end
mutual
theorem Dq.base {B B' H : Hp} (k : ∀ b, B b = none → B' b = none) : ∀ (d : PyData) (v : V), Dq B H v d → Dq B' H v d
  | .none, _, h => by cases h; exact .non
  | .bool b, _, h => by cases h; exact .bl b
  | .int i, _, h => by cases h; exact .int i
  | .str x, _, h => by cases h; exact .str x
  | .list ds, _, h => by
    cases h with
    | lst h0 hb ha => exact .lst h0 (k _ hb) (DqAll.base k ds _ ha)
  | .tuple ds, _, h => by
    cases h with
    | tup h0 ha => exact .tup h0 (DqAll.base k ds _ ha)
  | .dict kvs, _, h => by
    cases h with
    | d0 h0 hb => exact .d0 h0 (k _ hb)
    | d1 h0 n hb => exact .d1 h0 n (k _ hb)
theorem DqAll.base {B B' H : Hp} (k : ∀ b, B b = none → B' b = none) : ∀ (ds : List PyData) (vs : List V), DqAll B H vs ds → DqAll B' H vs ds
  | [], _, h => by cases h; exact .nil
  | d :: ds, _, h => by
    cases h with
    | cons h1 h2 => exact .cons (Dq.base k d _ h1) (DqAll.base k ds _ h2)
end
theorem Ke.kp {B H H' : Hp} (k : Kp H H') : Ke B H H' := ⟨fun b xs e => k.k b _ rfl e, fun b xs _ e => k.k b _ rfl e, fun b kvs _ n e => k.k b _ n e⟩
theorem Ke.gr {B H H' : Hp} (g : Gr H H') : Ke B H H' := Ke.kp g.kp
theorem Ke.put {B H : Hp} {p : Addr} {o : HO} (hp : B p ≠ none) (n : ∀ xs, H p ≠ some (.tup xs)) : Ke B H (upd H p o) := by
  have ne : ∀ b, B b = none → b ≠ p := fun b hb e => hp (e ▸ hb)
  refine ⟨fun b xs e => ?_, fun b xs hb e => ?_, fun b kvs hb _ e => ?_⟩
  · by_cases q : b = p
    · subst q; exact absurd e (n xs)
    · rw [upd_ne q]; exact e
  · rw [upd_ne (ne b hb)]; exact e
  · rw [upd_ne (ne b hb)]; exact e
theorem Ke.trans {B H H1 H2 : Hp} (a : Ke B H H1) (b : Ke B H1 H2) : Ke B H H2 := ⟨fun x xs e => b.t _ _ (a.t _ _ e), fun x xs n e => b.l _ _ n (a.l _ _ n e), fun x kvs n m e => b.d _ _ n m (a.d _ _ n m e)⟩
theorem Ke.refl {B H : Hp} : Ke B H H := ⟨fun _ _ e => e, fun _ _ _ e => e, fun _ _ _ _ e => e⟩
theorem Ke.kx {B H H' : Hp} {S : List Addr} (k : Kx S H H') (hS : ∀ b ∈ S, B b ≠ none) (nt : ∀ b ∈ S, ∀ xs, H b ≠ some (.tup xs)) : Ke B H H' :=
  ⟨fun b xs e => k.k b _ (fun m => nt b m xs e) e, fun b xs hb e => k.k b _ (fun m => hS b m hb) e, fun b kvs hb _ e => k.k b _ (fun m => hS b m hb) e⟩
theorem DqAll.at {B H : Hp} {v : V} : ∀ {vs : List V} {ds : List PyData} {i : Nat}, DqAll B H vs ds → vs[i]? = some v → ∃ d, ds[i]? = some d ∧ Dq B H v d
  | u :: _, _, 0, .cons h _, e => by
    have e : some u = some v := e
    cases e
    exact ⟨_, rfl, h⟩
  | _, _, i + 1, .cons _ h, e => by simpa using DqAll.at (i := i) h (by simpa using e)
  | _, _, _, .nil, e => by simp at e
theorem DqAll.len {B H : Hp} : ∀ {vs : List V} {ds : List PyData}, DqAll B H vs ds → vs.length = ds.length
  | _, _, .nil => rfl
  | _, _, .cons _ h => congrArg (· + 1) (DqAll.len h)
theorem DqAll.snoc {B H : Hp} {v : V} {d : PyData} (e : Dq B H v d) : ∀ {vs : List V} {ds : List PyData}, DqAll B H vs ds → DqAll B H (vs ++ [v]) (ds ++ [d])
  | _, _, .nil => .cons e .nil
  | _, _, .cons h r => .cons h (DqAll.snoc e r)
end My
namespace Hk
open PySem PySem.W PySem.Calls PyProof.Rows L2 He5
theorem keys_none {P : Params} {z : PySem.Str} : ∀ {l : List DictEntry} {ks : List PySem.Str}, l.map He.keyOf = He.keysIn P ks → z ∉ ks → l.find? (·.key.isStr z) = none ∧ l.any (·.refKey) = false
  | [], _, _, _ => ⟨rfl, rfl⟩
  | e :: r, [], h, _ => by cases h
  | e :: r, k :: ks, h, hz => by
    have h1 : He.keyOf e :: r.map He.keyOf = some (k, PyData.keyHash P k) :: He.keysIn P ks := h
    injection h1 with h2 h3
    obtain ⟨i1, i2⟩ := keys_none h3 (fun m => hz (List.mem_cons_of_mem _ m))
    unfold He.keyOf at h2
    split at h2
    · rename_i x t q
      obtain ⟨rfl, _⟩ := Prod.mk.inj (Option.some.inj h2)
      have e1 : e.key.isStr z = false := by
        rw [q]
        have : x ≠ z := fun e => hz (e ▸ List.mem_cons_self)
        simpa [Value.isStr] using this
      have e2 : e.refKey = false := by
        unfold DictEntry.refKey
        rw [q]
      refine ⟨?_, ?_⟩
      · rw [List.find?_cons, e1]; exact i1
      · rw [List.any_cons, e2]; exact i2
    · cases h2
theorem nsIn_none {P : Params} {K : Frag} {a : Addr} {ks : List PySem.Str} {z : PySem.Str} (h : He.dicW K a = some (He.keysIn P ks)) (hz : z ∉ ks) : nsIn K a z = some none := by
  unfold He.dicW at h
  unfold nsIn
  split at h
  · rename_i c es n sl e
    rw [e]
    split at h
    · obtain ⟨h1, h2⟩ := keys_none (Option.some.inj h) hz
      show (match es.toList.find? (·.key.isStr z) with
        | some e => some (some e.val)
        | none => if es.toList.any (·.refKey) = true then none else some none) = some none
      rw [h1, h2]
      rfl
    · cases h
  · cases h
theorem SaysW.miss {ck : Frag → Bool} {fn : List DefA} {es : List DefE} {tf : List (Frag → Addr)} {ds : List DicT} {w : World} {K : Frag} {h : Heap} (c : SaysW ck fn es tf ds w K h) (i : Nat) {t : DicT} (e : ds[i]? = some t := by rfl) {z : PySem.Str} (hz : z ∉ t.2) : nsIn K (He.ga K t.1) z = some none := by
  have y : (ds.map fun t => He.dicW K (He.ga K t.1))[i]? = (ds.map fun (t : DicT) => some (He.keysIn w.params t.2))[i]? := by rw [c.2]
  rw [List.getElem?_map, List.getElem?_map, e] at y
  exact nsIn_none (Option.some.inj y) hz
end Hk

set_option maxRecDepth 100000
set_option maxHeartbeats 4000000
namespace My
open PySem PySem.Spec PyProof.Rows L2
/-! ### names: letters, 1 to 8, distinct -/
def Lt (c : Nat) : Prop := 97 ≤ c ∧ c ≤ 122
instance (c : Nat) : Decidable (Lt c) := inferInstanceAs (Decidable (_ ∧ _))
def cl (s : Str) : List Nat := s.cps.toList
theorem cl_len (s : Str) : (cl s).length = s.length := Array.length_toList
theorem cl_app (a b : Str) : cl (a ++ b) = cl a ++ cl b := by
  unfold cl
  rw [PySem.Str.cps_append, Array.toList_append]
theorem cl_one (c : Nat) : cl ⟨#[c]⟩ = [c] := rfl
theorem cl_inj {a b : Str} (h : cl a = cl b) : a = b := PySem.Str.ext' (Array.toList_inj.mp h)
def IsNm (s : Str) : Prop := 1 ≤ s.length ∧ s.length ≤ 8 ∧ ∀ c ∈ cl s, Lt c
abbrev lettersS : Str := "abcdefghijklmnopqrstuvwxyz"
theorem letters_cl : cl lettersS = (List.range 26).map (97 + ·) := by decide +kernel
theorem letters_at {i : Int} (h0 : 0 ≤ i) (h1 : i < 26) : atI lettersS.cps.toList i = some (97 + i.toNat) := by
  obtain ⟨j, rfl⟩ : ∃ j : Nat, i = (j : Int) := ⟨i.toNat, by omega⟩
  have hj : j < 26 := by omega
  refine atI_nat ?_
  show (cl lettersS)[j]? = _
  rw [letters_cl]
  simp [hj]
theorem letters_mem {c : Nat} (h : c ∈ lettersS.cps.toList) : Lt c := by
  have h' : c ∈ cl lettersS := h
  rw [letters_cl] at h'
  obtain ⟨i, hi, rfl⟩ := List.mem_map.mp h'
  have := List.mem_range.mp hi
  exact ⟨by omega, by omega⟩
/-- one name: a stem, a letter, a tail -/
def nmL (stem : List Nat) (o : Nat) : List Nat := if stem.length % 2 = 0 then stem ++ [o] else o :: stem
theorem nmL_len (stem : List Nat) (o : Nat) : (nmL stem o).length = stem.length + 1 := by
  unfold nmL
  split <;> simp
theorem nmL_inj {stem : List Nat} {o p : Nat} (h : nmL stem o = nmL stem p) : o = p := by
  unfold nmL at h
  split at h
  · have := List.append_cancel_left h
    simpa using this
  · simpa using h
theorem nmL_mem {stem : List Nat} {o c : Nat} (h : c ∈ nmL stem o) : c ∈ stem ∨ c = o := by
  unfold nmL at h
  split at h
  · simpa using h
  · simpa [or_comm] using h
def ownAt (front step : Int) (k : Nat) : Nat := 97 + ((front + step * k) % 26).toNat
theorem ownAt_lt (front step : Int) (k : Nat) : Lt (ownAt front step k) := by
  unfold ownAt Lt
  have := Int.emod_nonneg (front + step * k) (show (26 : Int) ≠ 0 by decide)
  have := Int.emod_lt_of_pos (front + step * k) (show (0 : Int) < 26 by decide)
  omega
def stepsL : List Int := [1, 3, 5, 7, 9, 11, 15, 17, 19, 21, 23, 25]
theorem ownAt_inj {front step : Int} (hs : step ∈ stepsL) {j k : Nat} (h : ownAt front step j = ownAt front step k) : (j : Int) % 26 = (k : Int) % 26 := by
  unfold ownAt at h
  have := Int.emod_nonneg (front + step * j) (show (26 : Int) ≠ 0 by decide)
  have := Int.emod_nonneg (front + step * k) (show (26 : Int) ≠ 0 by decide)
  have e : (front + step * j) % 26 = (front + step * k) % 26 := by omega
  simp only [stepsL, List.mem_cons, List.not_mem_nil, or_false] at hs
  rcases hs with rfl | rfl | rfl | rfl | rfl | rfl | rfl | rfl | rfl | rfl | rfl | rfl <;> omega
def TailOk (k : Nat) (t : List Nat) : Prop := (k < 26 → t = []) ∧ (26 ≤ k → ∃ c, Lt c ∧ t = [c])
def NmRow (stem : Str) (front step : Int) (names : List Str) : Prop := ∀ (j : Nat) (x : Str), names[j]? = some x → ∃ t, cl x = nmL (cl stem) (ownAt front step j) ++ t ∧ TailOk j t
def NamesOk (names : List Str) (many : Nat) : Prop := names.length = many ∧ names.Nodup ∧ ∀ x ∈ names, IsNm x
theorem names_ok {stem : Str} {front step : Int} {names : List Str} (hl : names.length ≤ 52) (h1 : stem.length ≤ 6) (h2 : ∀ c ∈ cl stem, Lt c) (hs : step ∈ stepsL) (h : NmRow stem front step names) : NamesOk names names.length := by
  refine ⟨rfl, ?_, fun x hx => ?_⟩
  · rw [List.nodup_iff_pairwise_ne, List.pairwise_iff_getElem]
    intro i j hi hj hij e
    obtain ⟨t, e1, t1, t2⟩ := h i _ (List.getElem?_eq_getElem hi)
    obtain ⟨u, e2, u1, u2⟩ := h j _ (List.getElem?_eq_getElem hj)
    rw [e, e2] at e1
    by_cases hj2 : j < 26
    · rw [u1 hj2, t1 (by omega), List.append_nil, List.append_nil] at e1
      have := ownAt_inj hs (nmL_inj e1)
      omega
    · obtain ⟨c, _, hc⟩ := u2 (by omega)
      subst hc
      by_cases hi2 : i < 26
      · rw [t1 hi2] at e1
        have := congrArg List.length e1
        simp [nmL_len] at this
      · obtain ⟨d, _, hd⟩ := t2 (by omega)
        subst hd
        have e3 := (List.append_inj e1 (by rw [nmL_len, nmL_len])).1
        have := ownAt_inj hs (nmL_inj e3)
        omega
  · obtain ⟨j, hj⟩ := List.mem_iff_getElem?.mp hx
    obtain ⟨t, e, t1, t2⟩ := h j x hj
    have tl : t.length ≤ 1 ∧ ∀ c ∈ t, Lt c := by
      by_cases hj2 : j < 26
      · rw [t1 hj2]
        simp
      · obtain ⟨c, hc, rfl⟩ := t2 (by omega)
        simpa using hc
    have hx := congrArg List.length e
    rw [cl_len, List.length_append, nmL_len, cl_len] at hx
    refine ⟨by omega, by omega, fun c hc => ?_⟩
    rw [e] at hc
    rcases List.mem_append.mp hc with z | z
    · rcases nmL_mem z with y | rfl
      · exact h2 c y
      · exact ownAt_lt _ _ _
    · exact tl.2 c z
theorem NmRow.snoc {stem : Str} {front step : Int} {names : List Str} (h : NmRow stem front step names) {x : Str} {t : List Nat} (e : cl x = nmL (cl stem) (ownAt front step names.length) ++ t) (ht : TailOk names.length t) : NmRow stem front step (names ++ [x]) := by
  intro j y hj
  by_cases hlt : j < names.length
  · rw [List.getElem?_append_left hlt] at hj
    exact h j y hj
  · have hj2 : j = names.length := by
      have := (List.getElem?_eq_some_iff.mp hj).1
      simp at this
      omega
    subst hj2
    rw [List.getElem?_append_right (Nat.le_refl _)] at hj
    simp at hj
    subst hj
    exact ⟨t, e, ht⟩
end My

set_option maxRecDepth 100000
set_option maxHeartbeats 4000000
namespace My
open PySem PySem.Spec PyProof.Rows L2
/-! ### texts cut and joined -/
def jn (c : List Nat) : List (List Nat) → List Nat
  | [] => []
  | [a] => a
  | a :: b :: r => a ++ c ++ jn c (b :: r)
theorem cl_join (sep : Str) : ∀ ss : List Str, cl (Txt.join sep ss) = jn (cl sep) (ss.map cl) := by
  intro ss
  have e : Txt.join sep ss = Str.join sep ss := StrLaws.glued_eq_join sep ss
  rw [e]
  induction ss with
  | nil => rfl
  | cons a r ih =>
    cases r with
    | nil => rfl
    | cons b r =>
      have ih := ih (StrLaws.glued_eq_join sep _)
      show cl (a ++ sep ++ Str.join sep (b :: r)) = _
      rw [cl_app, cl_app, ih]
      rfl
theorem cl_mk (l : List Nat) : cl ⟨l.toArray⟩ = l := rfl
theorem jn_nil : ∀ ss : List (List Nat), jn [] ss = ss.flatten
  | [] => rfl
  | [a] => by simp [jn]
  | a :: b :: r => by
    have ih := jn_nil (b :: r)
    show a ++ [] ++ jn [] (b :: r) = _
    rw [ih]
    simp
theorem free_split {c : Nat} {a b x y : List Nat} (ha : c ∉ a) (hb : c ∉ b) (h : a ++ c :: x = b ++ c :: y) : a = b ∧ x = y := by
  induction a generalizing b with
  | nil =>
    cases b with
    | nil => exact ⟨rfl, by simpa using h⟩
    | cons d b =>
      have h1 : c = d := (List.cons.inj h).1
      exact absurd (by rw [h1]; exact List.mem_cons_self) hb
  | cons e a ih =>
    cases b with
    | nil =>
      have h1 : e = c := (List.cons.inj h).1
      exact absurd (by rw [h1]; exact List.mem_cons_self) ha
    | cons d b =>
      obtain ⟨h1, h2⟩ := List.cons.inj h
      obtain ⟨e1, e2⟩ := ih (fun z => ha (List.mem_cons_of_mem _ z)) (fun z => hb (List.mem_cons_of_mem _ z)) h2
      exact ⟨by rw [h1, e1], e2⟩
theorem jn_mem {c : Nat} : ∀ {a b : List Nat} {r : List (List Nat)}, c ∈ jn [c] (a :: b :: r) := fun {a b r} => by
  show c ∈ a ++ [c] ++ jn [c] (b :: r)
  simp
theorem jn_inj {c : Nat} : ∀ {a b : List (List Nat)}, a ≠ [] → b ≠ [] → (∀ s ∈ a, c ∉ s) → (∀ s ∈ b, c ∉ s) → jn [c] a = jn [c] b → a = b
  | [], _, h, _, _, _, _ => absurd rfl h
  | _, [], _, h, _, _, _ => absurd rfl h
  | [x], [y], _, _, _, _, h => by
    have h' : x = y := h
    rw [h']
  | [x], y :: z :: r, _, _, ha, _, h => by
    have hm : c ∈ jn [c] (y :: z :: r) := jn_mem
    rw [← h] at hm
    exact absurd hm (ha x List.mem_cons_self)
  | x :: y :: r, [z], _, _, _, hb, h => by
    have hm : c ∈ jn [c] (x :: y :: r) := jn_mem
    rw [h] at hm
    exact absurd hm (hb z List.mem_cons_self)
  | x :: y :: r, z :: u :: t, _, _, ha, hb, h => by
    have h' : x ++ [c] ++ jn [c] (y :: r) = z ++ [c] ++ jn [c] (u :: t) := h
    rw [List.append_assoc, List.append_assoc] at h'
    obtain ⟨e1, e2⟩ := free_split (ha x List.mem_cons_self) (hb z List.mem_cons_self) h'
    have e3 := jn_inj (c := c) (a := y :: r) (b := u :: t) (by simp) (by simp) (fun s hs => ha s (List.mem_cons_of_mem _ hs)) (fun s hs => hb s (List.mem_cons_of_mem _ hs)) e2
    rw [e1, e3]
theorem map_cl_inj {a b : List Str} (h : a.map cl = b.map cl) : a = b := by
  induction a generalizing b with
  | nil =>
    cases b with
    | nil => rfl
    | cons _ _ => cases h
  | cons x a ih =>
    cases b with
    | nil => cases h
    | cons y b =>
      obtain ⟨h1, h2⟩ := List.cons.inj h
      rw [cl_inj h1, ih h2]
theorem split_ne (x : Str) (c : Nat) : Txt.split x ⟨#[c]⟩ ≠ [] := fun e => by
  have := split_pos x ⟨#[c]⟩
  rw [e] at this
  exact absurd this (by decide)
theorem split_free (x : Str) (c : Nat) : ∀ s ∈ Txt.split x ⟨#[c]⟩, c ∉ cl s := fun s hs => StrLaws.split_free x c s hs
theorem join_split (x : Str) (c : Nat) : Txt.join ⟨#[c]⟩ (Txt.split x ⟨#[c]⟩) = x := (StrLaws.glued_eq_join _ _).trans (StrLaws.join_split x _)
theorem split_join {c : Nat} {ss : List Str} (h0 : ss ≠ []) (h : ∀ s ∈ ss, c ∉ cl s) : Txt.split (Txt.join ⟨#[c]⟩ ss) ⟨#[c]⟩ = ss := by
  have e := congrArg cl (join_split (Txt.join ⟨#[c]⟩ ss) c)
  rw [cl_join, cl_join] at e
  refine map_cl_inj (jn_inj (c := c) ?_ (by simpa using h0) ?_ ?_ e)
  · simpa using split_ne _ c
  · intro s hs
    obtain ⟨t, ht, rfl⟩ := List.mem_map.mp hs
    exact split_free _ c t ht
  · intro s hs
    obtain ⟨t, ht, rfl⟩ := List.mem_map.mp hs
    exact h t ht
/-- texts of one sign joined -/
theorem join_ones {ss : List Str} (h : ∀ x ∈ ss, ∃ c, Lt c ∧ x = ⟨#[c]⟩) : (Txt.join "" ss).length = ss.length ∧ ∀ c ∈ cl (Txt.join "" ss), Lt c := by
  have e : cl (Txt.join "" ss) = (ss.map cl).flatten := by
    rw [cl_join]
    have e2 : cl "" = [] := by decide
    rw [e2, jn_nil]
  constructor
  · rw [← cl_len, e]
    clear e
    induction ss with
    | nil => rfl
    | cons a r ih =>
      obtain ⟨c, _, rfl⟩ := h a List.mem_cons_self
      have ih := ih fun x hx => h x (List.mem_cons_of_mem _ hx)
      rw [List.map_cons, List.flatten_cons, List.length_append, ih]
      rw [List.length_cons, cl_one, List.length_singleton]
      omega
  · intro c hc
    rw [e] at hc
    obtain ⟨l, hl, hcl⟩ := List.mem_flatten.mp hc
    obtain ⟨x, hx, rfl⟩ := List.mem_map.mp hl
    obtain ⟨d, hd, rfl⟩ := h x hx
    rw [cl_one] at hcl
    have : c = d := by simpa using hcl
    rw [this]
    exact hd
theorem ones_sum {ss : List Str} (h : ∀ x ∈ ss, ∃ c, Lt c ∧ x = ⟨#[c]⟩) : (ss.map (·.length)).sum = ss.length := by
  induction ss with
  | nil => rfl
  | cons a r ih =>
    obtain ⟨c, _, rfl⟩ := h a List.mem_cons_self
    have ih := ih fun x hx => h x (List.mem_cons_of_mem _ hx)
    rw [List.map_cons, List.sum_cons, ih, List.length_cons]
    show 1 + _ = _
    omega
end My

set_option maxRecDepth 100000
set_option maxHeartbeats 4000000
namespace My
open PySem PySem.Spec PyProof.Rows L2
/-! ### rows: name, day, post, stride -/
structure Rw where
  nm : Str
  day : Int
  post : Int
  pace : Int
def NumOk (r : Rw) : Prop := 0 ≤ r.day ∧ r.day ≤ 10 ^ 30 ∧ -(10 ^ 30) ≤ r.post ∧ r.post ≤ 10 ^ 30 ∧ -(10 ^ 18) ≤ r.pace ∧ r.pace ≤ 10 ^ 18 ∧ r.pace ≠ 0
def rowV (r : Rw) : List V := [.str r.nm, .int r.day, .int r.post, .int r.pace]
def RowsAt (H : Hp) : List V → List Rw → Prop
  | [], [] => True
  | v :: vs, r :: rs => (∃ p, v = .ref p ∧ H p = some (.tup (rowV r))) ∧ RowsAt H vs rs
  | _, _ => False
theorem RowsAt.kp {H H' : Hp} (e : Kp H H') : ∀ {vs : List V} {rs : List Rw}, RowsAt H vs rs → RowsAt H' vs rs
  | [], [], _ => trivial
  | _ :: _, _ :: _, ⟨⟨p, e1, e2⟩, h⟩ => ⟨⟨p, e1, e.t e2⟩, RowsAt.kp e h⟩
theorem RowsAt.put {H : Hp} {p : Addr} {xs ys : List V} (e : H p = some (.lst xs)) : ∀ {vs : List V} {rs : List Rw}, RowsAt H vs rs → RowsAt (upd H p (.lst ys)) vs rs
  | [], [], _ => trivial
  | _ :: _, _ :: _, ⟨⟨q, e1, e2⟩, h⟩ => ⟨⟨q, e1, by rw [upd_ne (ne_of e2 e (by intro z; cases z))]; exact e2⟩, RowsAt.put e h⟩
theorem RowsAt.len {H : Hp} : ∀ {vs : List V} {rs : List Rw}, RowsAt H vs rs → vs.length = rs.length
  | [], [], _ => rfl
  | _ :: _, _ :: _, ⟨_, h⟩ => congrArg (· + 1) (RowsAt.len h)
theorem RowsAt.snoc {H : Hp} {p : Addr} {r : Rw} (e : H p = some (.tup (rowV r))) : ∀ {vs : List V} {rs : List Rw}, RowsAt H vs rs → RowsAt H (vs ++ [.ref p]) (rs ++ [r])
  | [], [], _ => ⟨⟨p, rfl, e⟩, trivial⟩
  | _ :: _, _ :: _, ⟨h1, h⟩ => ⟨h1, RowsAt.snoc e h⟩
theorem RowsAt.mem {H : Hp} {v : V} : ∀ {vs : List V} {rs : List Rw}, RowsAt H vs rs → v ∈ vs → ∃ p r, r ∈ rs ∧ v = .ref p ∧ H p = some (.tup (rowV r))
  | [], [], _, h => (List.not_mem_nil h).elim
  | u :: vs, r :: rs, ⟨⟨p, e1, e2⟩, h⟩, hm => by
    rcases List.mem_cons.mp hm with rfl | hm
    · exact ⟨p, r, List.mem_cons_self, e1, e2⟩
    · obtain ⟨p, r, h1, h2⟩ := RowsAt.mem h hm
      exact ⟨p, r, List.mem_cons_of_mem _ h1, h2⟩
theorem RowsAt.at {H : Hp} {v : V} : ∀ {vs : List V} {rs : List Rw} {i : Nat}, RowsAt H vs rs → vs[i]? = some v → ∃ p r, rs[i]? = some r ∧ v = .ref p ∧ H p = some (.tup (rowV r))
  | [], [], _, _, h => by simp at h
  | u :: vs, r :: rs, 0, ⟨⟨p, e1, e2⟩, h⟩, hm => by
    have : u = v := by simpa using hm
    subst this
    exact ⟨p, r, rfl, e1, e2⟩
  | u :: vs, r :: rs, i + 1, ⟨_, h⟩, hm => by simpa using RowsAt.at (vs := vs) (rs := rs) (i := i) h (by simpa using hm)
theorem RowsAt.set {H : Hp} {p : Addr} {r : Rw} (e : H p = some (.tup (rowV r))) : ∀ {vs : List V} {rs : List Rw} {i : Nat}, RowsAt H vs rs → RowsAt H (vs.set i (.ref p)) (rs.set i r)
  | [], [], _, _ => trivial
  | _ :: _, _ :: _, 0, ⟨_, h⟩ => ⟨⟨p, rfl, e⟩, h⟩
  | _ :: _, _ :: _, i + 1, ⟨h1, h⟩ => ⟨h1, RowsAt.set e h⟩
theorem mem_cutV {v : V} {xs : List V} {lo hi : Option Int} (h : v ∈ cutV xs lo hi) : v ∈ xs := List.mem_of_mem_drop (List.mem_of_mem_take h)
theorem cut_last {xs : List V} (h : 1 ≤ xs.length) : cutV xs none (some (-1)) = xs.take (xs.length - 1) := by
  unfold cutV
  have e0 : HT.sIx xs.length 0 none = 0 := rfl
  have e1 : HT.sIx xs.length xs.length (some (-1)) = xs.length - 1 := by
    unfold HT.sIx
    simp only
    try split
    all_goals omega
  rw [e0, e1]
  simp
theorem ixN_last {n : Nat} (h : 1 ≤ n) : ixN n (-1) = some (n - 1) := by
  unfold ixN
  rw [if_neg (by omega), if_pos (by omega)]
  congr 1
  omega
theorem atI_last {α : Type} {xs : List α} (h : xs ≠ []) : atI xs (-1) = xs[xs.length - 1]? := by
  have := List.length_pos_iff.mpr h
  unfold atI
  rw [ixN_last (by omega)]
  rfl
def NumsOk (rs : List Rw) : Prop := ∀ r ∈ rs, NumOk r
theorem NumsOk.snoc {rs : List Rw} {r : Rw} (h : NumsOk rs) (e : NumOk r) : NumsOk (rs ++ [r]) := fun x hx => by
  rcases List.mem_append.mp hx with y | y
  · exact h x y
  · have : x = r := by simpa using y
    rw [this]
    exact e
theorem NumsOk.set {rs : List Rw} {r : Rw} {i : Nat} (h : NumsOk rs) (e : NumOk r) : NumsOk (rs.set i r) := fun x hx => by
  rcases List.mem_or_eq_of_mem_set hx with y | y
  · exact h x y
  · rw [y]
    exact e
/-- the rows of a fence: numbers and names as they should be, the names distinct -/
def RowsOk (rs : List Rw) : Prop := NumsOk rs ∧ (rs.map Rw.nm).Nodup ∧ (∀ r ∈ rs, IsNm r.nm) ∧ rs.length ≤ 40
theorem rowsOk_of {rs : List Rw} {names : List Str} {many : Nat} (h : NumsOk rs) (hn : NamesOk names many) (e : rs.map Rw.nm = names) (hm : many ≤ 40) : RowsOk rs := by
  subst e
  refine ⟨h, hn.2.1, fun r hr => hn.2.2 _ (List.mem_map_of_mem hr), ?_⟩
  have := hn.1
  rw [List.length_map] at this
  omega
/-- a list of rows that is new behind H0 -/
def RowsR (H0 : Hp) (v : V) (H : Hp) : Prop := ∃ p vs rs, v = .ref p ∧ H0 p = none ∧ H p = some (.lst vs) ∧ RowsAt H vs rs ∧ RowsOk rs
/-- rows under construction: p the list, q that of the names -/
structure RI (z : PenI) (H0 H : Hp) (n : Nat) (p q : Addr) (names : List Str) (i : Nat) (vs : List V) (rs : List Rw) : Prop where
  acc : Acc z H0 H n p vs
  rows : RowsAt H vs rs
  nums : NumsOk rs
  nms : rs.map Rw.nm = names.take i
  src : H q = some (.lst (names.map V.str))
  ne : q ≠ p
section
variable {z : PenI} {H0 H H' : Hp} {n m : Nat} {p q : Addr} {names : List Str} {i : Nat} {vs : List V} {rs : List Rw}
theorem RI.go (r : RI z H0 H n p q names i vs rs) (k : Kp H H') (a : Acc z H0 H' m p vs) : RI z H0 H' m p q names i vs rs := ⟨a, r.rows.kp k, r.nums, r.nms, k.l r.src, r.ne⟩
theorem RI.new {t : Addr} {o : HO} (r : RI z H0 H n p q names i vs rs) (h : H t = none) : RI z H0 (upd H t o) n p q names i vs rs := r.go (Kp.new h) (r.acc.newO h)
theorem RI.mono (r : RI z H0 H n p q names i vs rs) (h : n ≤ m) : RI z H0 H m p q names i vs rs := ⟨r.acc.mono h, r.rows, r.nums, r.nms, r.src, r.ne⟩
theorem RI.len (r : RI z H0 H n p q names i vs rs) : vs.length ≤ i := by
  have := congrArg List.length r.nms
  rw [List.length_map, ← r.rows.len, List.length_take] at this
  omega
theorem RI.eqlen (r : RI z H0 H n p q names i vs rs) (hi : i ≤ names.length) : vs.length = i := by
  have := congrArg List.length r.nms
  rw [List.length_map, ← r.rows.len, List.length_take] at this
  omega
theorem RI.app {t : Addr} {row : Rw} (r : RI z H0 H n p q names i vs rs) (h : H t = some (.tup (rowV row))) (hl : names[i]? = some row.nm) (ho : NumOk row) :
    RI z H0 (upd H p (.lst (vs ++ [.ref t]))) n p q names (i + 1) (vs ++ [.ref t]) (rs ++ [row]) :=
  ⟨r.acc.put _, (r.rows.snoc h).put r.acc.l, r.nums.snoc ho, by rw [List.map_append, r.nms, List.take_add_one, hl]; rfl, by rw [upd_ne r.ne]; exact r.src, r.ne⟩
theorem RI.set {t : Addr} {row : Rw} {j : Nat} (r : RI z H0 H n p q names i vs rs) (h : H t = some (.tup (rowV row))) (hl : names[j]? = some row.nm) (hj : j < i) (ho : NumOk row) :
    RI z H0 (upd H p (.lst (vs.set j (.ref t)))) n p q names i (vs.set j (.ref t)) (rs.set j row) := by
  refine ⟨r.acc.put _, (r.rows.set h).put r.acc.l, r.nums.set ho, ?_, by rw [upd_ne r.ne]; exact r.src, r.ne⟩
  rw [List.map_set, r.nms]
  have e : (names.take i)[j]? = some row.nm := by
    rw [List.getElem?_take_of_lt hj]
    exact hl
  obtain ⟨hlt, e2⟩ := List.getElem?_eq_some_iff.mp e
  rw [← e2]
  exact List.set_getElem_self hlt
theorem RI.start (a : Acc z H0 H n p []) (h : H q = some (.lst (names.map V.str))) (ne : q ≠ p) : RI z H0 H n p q names 0 [] [] := ⟨a, trivial, fun r hr => (List.not_mem_nil hr).elim, rfl, h, ne⟩
theorem RI.done {many : Nat} (r : RI z H0 H n p q names i vs rs) (hn : NamesOk names many) (hi : many ≤ i) (hm : many ≤ 40) : RowsR H0 (.ref p) H :=
  ⟨p, vs, rs, rfl, r.acc.new, r.acc.l, r.rows, rowsOk_of r.nums hn (by rw [r.nms, List.take_of_length_le (by rw [hn.1]; exact hi)]) hm⟩
end
theorem RowsAt.ext {H H' : Hp} (e : Ext H H') : ∀ {vs : List V} {rs : List Rw}, RowsAt H vs rs → RowsAt H' vs rs
  | [], [], _ => trivial
  | _ :: _, _ :: _, ⟨⟨p, e1, e2⟩, h⟩ => ⟨⟨p, e1, e _ _ e2⟩, RowsAt.ext e h⟩
theorem Pen.ext {H H' : Hp} {z : PenI} {n : Nat} (d : Pen H z n) (e : Ext H H') : Pen H' z n := by
  obtain ⟨b, r, d, y⟩ := d
  exact ⟨b, r, ⟨e _ _ d.d, e _ _ d.c⟩, y⟩
end My

set_option maxRecDepth 100000
set_option maxHeartbeats 4000000
/-! ### words: names, numbers, lines -/
namespace My
open PySem PySem.Spec PyProof.Rows L2 TL
def nmB (s : Str) : Bool := decide (1 ≤ s.length) && (decide (s.length ≤ 8) && (cl s).all fun c => decide (c ∈ lettersS.cps.toList))
theorem letters_iff {c : Nat} : c ∈ lettersS.cps.toList ↔ Lt c := by
  constructor
  · exact letters_mem
  · intro h
    show c ∈ cl lettersS
    rw [letters_cl]
    exact List.mem_map.mpr ⟨c - 97, List.mem_range.mpr (by have := h.2; omega), by have := h.1; omega⟩
theorem nmB_iff {s : Str} : nmB s = true ↔ IsNm s := by
  unfold nmB IsNm
  simp only [Bool.and_eq_true, decide_eq_true_eq, List.all_eq_true, letters_iff]
abbrev digitsS : Str := "0123456789"
theorem digits_iff {c : Nat} : c ∈ digitsS.cps.toList ↔ 48 ≤ c ∧ c ≤ 57 := by
  have e : digitsS.cps.toList = (List.range 10).map (48 + ·) := by decide +kernel
  rw [e]
  constructor
  · intro h
    obtain ⟨i, hi, rfl⟩ := List.mem_map.mp h
    have := List.mem_range.mp hi
    omega
  · intro h
    exact List.mem_map.mpr ⟨c - 48, List.mem_range.mpr (by omega), by omega⟩
/-- the digits of a word -/
def dgs (w : Str) : Str := if cutS w none (some 1) = "-" then cutS w (some 1) none else w
def inOk (d : Int) (w : Str) : Bool := decide (1 ≤ ((dgs w).length : Int)) && (decide (((dgs w).length : Int) ≤ d) && ((cl (dgs w)).all (fun c => decide (c ∈ digitsS.cps.toList)) && !(decide ((cl (dgs w)).head? = some 48) && !decide (w = "0"))))
def intIn (d : Int) (w : Str) : Option Int := if inOk d w = true then PySem.intText? w else none
theorem cl_cut1 {w : Str} : cl (cutS w none (some 1)) = (cl w).take 1 := by
  have e1 : HT.sIx w.length 0 none = 0 := rfl
  have e2 : HT.sIx w.length w.length (some 1) = min 1 w.length := rfl
  show ((w.cps.toList.drop _).take _) = _
  rw [e1, e2, List.drop_zero, Nat.sub_zero]
  show (cl w).take _ = _
  rw [← cl_len w]
  cases cl w with
  | nil => rfl
  | cons c r => simp
theorem cl_cut2 {w : Str} : cl (cutS w (some 1) none) = (cl w).drop 1 := by
  have e1 : HT.sIx w.length 0 (some 1) = min 1 w.length := rfl
  have e2 : HT.sIx w.length w.length none = w.length := rfl
  show ((w.cps.toList.drop _).take _) = _
  rw [e1, e2]
  show ((cl w).drop _).take _ = _
  rw [← cl_len w]
  cases cl w with
  | nil => rfl
  | cons c r =>
    have : min 1 (c :: r).length = 1 := by simp
    rw [this]
    simp
theorem cut1_is {w : Str} : cutS w none (some 1) = "-" ↔ (cl w).head? = some 45 := by
  have e : cl "-" = [45] := by decide
  constructor
  · intro h
    have h2 := congrArg cl h
    rw [cl_cut1, e] at h2
    cases hw : cl w with
    | nil => rw [hw] at h2; cases h2
    | cons c r =>
      rw [hw] at h2
      have : c = 45 := by simpa using h2
      rw [this]
      rfl
  · intro h
    refine cl_inj ?_
    rw [cl_cut1, e]
    cases hw : cl w with
    | nil => rw [hw] at h; cases h
    | cons c r =>
      rw [hw] at h
      have : c = 45 := by simpa using h
      rw [this]
      rfl
theorem cl_dgs {w : Str} : cl (dgs w) = if (cl w).head? = some 45 then (cl w).tail else cl w := by
  unfold dgs
  by_cases h : cutS w none (some 1) = "-"
  · rw [if_pos h, if_pos (cut1_is.mp h), cl_cut2, List.drop_one]
  · rw [if_neg h, if_neg (fun z => h (cut1_is.mpr z))]
theorem all_digits {l : List Nat} (h : (l.all fun c => decide (c ∈ digitsS.cps.toList)) = true) : NumText.AllDigits l := fun c hc => digits_iff.mp (of_decide_eq_true (List.all_eq_true.mp h c hc))
theorem inOk_text {d : Int} {w : Str} (h : inOk d w = true) (hd : d ≤ 600) : w.length ≤ 640 ∧ ∃ n, PySem.intText? w = some n := by
  unfold inOk at h
  simp only [Bool.and_eq_true, decide_eq_true_eq] at h
  obtain ⟨h1, h2, h3, _⟩ := h
  have ha := all_digits h3
  have hl := cl_len (dgs w)
  have hw := cl_len w
  have hne : cl (dgs w) ≠ [] := fun e => by
    rw [e] at hl
    have : ([] : List Nat).length = 0 := rfl
    omega
  by_cases hm : (cl w).head? = some 45
  · have e := cl_dgs (w := w)
    rw [if_pos hm] at e
    cases hc : cl w with
    | nil => rw [hc] at hm; cases hm
    | cons c r =>
      rw [hc] at hm e hw
      have e45 : c = 45 := by simpa using hm
      have er : cl (dgs w) = r := e
      rw [er] at ha hne hl
      rw [List.length_cons] at hw
      have h640 : w.length ≤ 640 := by omega
      exact ⟨h640, _, intText_neg (cs := r) (by rw [← e45]; exact hc) ha hne (by omega)⟩
  · have e := cl_dgs (w := w)
    rw [if_neg hm] at e
    rw [e] at ha hne hl
    have h640 : w.length ≤ 640 := by omega
    exact ⟨h640, _, intText_digits ha hne (by omega)⟩
/-! a number's text -/
def tS (i : Int) : Str := Str.ofString (toString i)
theorem cl_tS0 (n : Nat) : cl (tS n) = numL n := tl_num n
theorem cl_ofString (s : String) : cl (Str.ofString s) = s.toList.map Char.toNat := by
  rw [PySem.Str.ofString_eq_toList]
  rfl
theorem cl_tSneg {n : Nat} (h : 0 < n) : cl (tS (-(n : Int))) = 45 :: numL n := by
  unfold tS
  rw [toString_neg (by omega)]
  have e : (0 : Int) - -(n : Int) = n := by omega
  rw [e, cl_ofString, String.toList_append, List.map_append, ← cl_ofString, ← cl_ofString]
  have e2 : cl (Str.ofString "-") = [45] := by decide
  rw [e2]
  have e3 := cl_tS0 n
  unfold tS at e3
  rw [e3]
  rfl
theorem tS_cases (i : Int) : (∃ n : Nat, i = n ∧ cl (tS i) = numL n) ∨ ∃ n : Nat, i = -(n : Int) ∧ 0 < n ∧ cl (tS i) = 45 :: numL n := by
  rcases Int.le_total 0 i with h | h
  · obtain ⟨n, rfl⟩ : ∃ n : Nat, i = n := ⟨i.toNat, by omega⟩
    exact .inl ⟨n, rfl, cl_tS0 n⟩
  · by_cases h0 : i = 0
    · subst h0
      exact .inl ⟨0, rfl, cl_tS0 0⟩
    · obtain ⟨n, rfl⟩ : ∃ n : Nat, i = -(n : Int) := ⟨(-i).toNat, by omega⟩
      exact .inr ⟨n, rfl, by omega, cl_tSneg (by omega)⟩
theorem tS_mem {i : Int} {c : Nat} (h : c ∈ cl (tS i)) : c = 45 ∨ (48 ≤ c ∧ c ≤ 57) := by
  rcases tS_cases i with ⟨n, _, e⟩ | ⟨n, _, _, e⟩
  · rw [e] at h
    exact .inr (numL_digits n c h)
  · rw [e] at h
    rcases List.mem_cons.mp h with h | h
    · exact .inl h
    · exact .inr (numL_digits n c h)
theorem numL_head {n : Nat} (h : (numL n).head? = some 48) : n = 0 := by
  induction n using Nat.strongRecOn with
  | _ n ih =>
    by_cases hn : n < 10
    · rw [numL_lt hn] at h
      have : 48 + n = 48 := by simpa using h
      omega
    · rw [numL_step (by omega)] at h
      have hne := numL_ne (n / 10)
      have e : (numL (n / 10) ++ [48 + n % 10]).head? = (numL (n / 10)).head? := by
        cases hh : numL (n / 10) with
        | nil => exact absurd hh hne
        | cons _ _ => rfl
      rw [e] at h
      have := ih (n / 10) (by omega) h
      omega
theorem tS_small {i : Int} {k : Nat} (h1 : -(10 ^ k) < i) (h2 : i < 10 ^ k) (hk : 0 < k) : (tS i).length ≤ k + 1 := by
  have hp : ((10 ^ k : Nat) : Int) = 10 ^ k := by simp
  rcases tS_cases i with ⟨n, e0, e⟩ | ⟨n, e0, _, e⟩
  · rw [← cl_len, e]
    have := numL_len hk (show n < 10 ^ k by omega)
    omega
  · rw [← cl_len, e, List.length_cons]
    have := numL_len hk (show n < 10 ^ k by omega)
    omega
theorem numL_head_ne {n : Nat} : (numL n).head? ≠ some 45 := fun h => by
  have hm : (45 : Nat) ∈ numL n := List.mem_of_head? h
  have := numL_digits n 45 hm
  omega
/-- what str(i) says is read back -/
theorem intIn_tS {i : Int} (h1 : -(10 ^ 79) < i) (h2 : i < 10 ^ 79) : intIn 80 (tS i) = some i := by
  have e48 : (cl "0") = [48] := by decide
  have hp : ((10 ^ 79 : Nat) : Int) = 10 ^ 79 := by simp
  rcases tS_cases i with ⟨n, e0, e⟩ | ⟨n, e0, hn, e⟩
  · have hd : cl (dgs (tS i)) = numL n := by rw [cl_dgs, e, if_neg numL_head_ne]
    have hl := numL_len (k := 79) (by decide) (show n < 10 ^ 79 by omega)
    have hl0 : 0 < (numL n).length := List.length_pos_iff.mpr (numL_ne n)
    have hdl : (dgs (tS i)).length = (numL n).length := by rw [← cl_len, hd]
    have ok : inOk 80 (tS i) = true := by
      unfold inOk
      simp only [Bool.and_eq_true, decide_eq_true_eq, List.all_eq_true, hd, hdl]
      refine ⟨by omega, by omega, fun c hc => digits_iff.mpr (numL_digits n c hc), ?_⟩
      rw [Bool.not_eq_true', Bool.and_eq_false_iff]
      by_cases hz : (numL n).head? = some 48
      · right
        have := numL_head hz
        subst this
        have : tS i = "0" := cl_inj (by rw [e, e48]; rfl)
        simp [this]
      · left
        simpa using hz
    unfold intIn
    rw [if_pos ok, intText_digits (by show NumText.AllDigits (cl (tS i)); rw [e]; exact numL_digits n) (by show cl (tS i) ≠ []; rw [e]; exact numL_ne n) (by rw [← cl_len, e]; omega)]
    show some ((NumText.digitsVal (cl (tS i)) : Nat) : Int) = _
    rw [e, numL_val, e0]
  · have hd : cl (dgs (tS i)) = numL n := by rw [cl_dgs, e]; simp
    have hl := numL_len (k := 79) (by decide) (show n < 10 ^ 79 by omega)
    have hl0 : 0 < (numL n).length := List.length_pos_iff.mpr (numL_ne n)
    have hdl : (dgs (tS i)).length = (numL n).length := by rw [← cl_len, hd]
    have ok : inOk 80 (tS i) = true := by
      unfold inOk
      simp only [Bool.and_eq_true, decide_eq_true_eq, List.all_eq_true, hd, hdl]
      refine ⟨by omega, by omega, fun c hc => digits_iff.mpr (numL_digits n c hc), ?_⟩
      rw [Bool.not_eq_true', Bool.and_eq_false_iff]
      left
      have : (numL n).head? ≠ some 48 := fun hz => by
        have := numL_head hz
        omega
      simpa using this
    unfold intIn
    rw [if_pos ok, intText_neg (cs := numL n) e (numL_digits n) (numL_ne n) (by rw [← cl_len, e, List.length_cons]; omega), numL_val, e0]
/-! lines -/
def rowS (r : Rw) : Str := Txt.join " " [r.nm, tS r.day, tS r.post, tS r.pace]
theorem nm_free {s : Str} (h : IsNm s) {c : Nat} (hc : c < 97) : c ∉ cl s := fun hm => by
  have := (h.2.2 c hm).1
  omega
theorem tS_free {i : Int} {c : Nat} (hc : c < 45) : c ∉ cl (tS i) := fun hm => by
  rcases tS_mem hm with h | h <;> omega
theorem sp_cl : cl " " = [32] := by decide
theorem nl_cl : cl "\n" = [10] := by decide
theorem sp_mk : (" " : Str) = ⟨#[32]⟩ := cl_inj (by rw [sp_cl]; rfl)
theorem nl_mk : ("\n" : Str) = ⟨#[10]⟩ := cl_inj (by rw [nl_cl]; rfl)
theorem row_split {r : Rw} (h : IsNm r.nm) : Txt.split (rowS r) " " = [r.nm, tS r.day, tS r.post, tS r.pace] := by
  unfold rowS
  rw [sp_mk]
  refine split_join (by simp) fun s hs => ?_
  simp only [List.mem_cons, List.not_mem_nil, or_false] at hs
  rcases hs with rfl | rfl | rfl | rfl
  · exact nm_free h (by decide)
  · exact tS_free (by decide)
  · exact tS_free (by decide)
  · exact tS_free (by decide)
theorem row_free {r : Rw} (h : IsNm r.nm) : 10 ∉ cl (rowS r) := by
  unfold rowS
  rw [cl_join, sp_cl]
  have h1 := nm_free h (show 10 < 97 by decide)
  have h2 := tS_free (i := r.day) (show 10 < 45 by decide)
  have h3 := tS_free (i := r.post) (show 10 < 45 by decide)
  have h4 := tS_free (i := r.pace) (show 10 < 45 by decide)
  simp [jn, h1, h2, h3, h4]
theorem row_len {r : Rw} (h : IsNm r.nm) (hn : NumOk r) : 4 ≤ (rowS r).length ∧ (rowS r).length ≤ 140 := by
  unfold rowS
  rw [← cl_len, cl_join, sp_cl]
  obtain ⟨a1, a2, a3, a4, a5, a6, a7⟩ := hn
  have l1 := tS_small (i := r.day) (k := 31) (by omega) (by omega) (by decide)
  have l2 := tS_small (i := r.post) (k := 31) (by omega) (by omega) (by decide)
  have l3 := tS_small (i := r.pace) (k := 31) (by omega) (by omega) (by decide)
  have l4 := h.1
  have l5 := h.2.1
  rw [← cl_len] at l1 l2 l3 l4 l5
  simp only [List.map_cons, List.map_nil, jn, List.length_append, List.length_singleton]
  omega
def fenceS (rs : List Rw) : Str := Txt.join "\n" (rs.map rowS)
theorem fence_split {rs : List Rw} (h0 : rs ≠ []) (h : ∀ r ∈ rs, IsNm r.nm) : Txt.split (fenceS rs) "\n" = rs.map rowS := by
  unfold fenceS
  rw [nl_mk]
  refine split_join (by simpa using h0) fun s hs => ?_
  obtain ⟨r, hr, rfl⟩ := List.mem_map.mp hs
  exact row_free (h r hr)
theorem line_eq (r : Rw) : Str.empty ++ r.nm ++ " " ++ tS r.day ++ " " ++ tS r.post ++ " " ++ tS r.pace = rowS r := by
  refine cl_inj ?_
  unfold rowS
  have e0 : cl Str.empty = [] := rfl
  rw [cl_join]
  simp only [cl_app, e0, sp_cl, List.nil_append, List.map_cons, List.map_nil, jn, List.append_assoc, List.singleton_append, List.cons_append]
end My
namespace My
open PySem PySem.Spec PyProof.Rows L2 TL
/-! a row as data -/
def rowD (r : Rw) : PyData := .tuple [.str r.nm, .int r.day, .int r.post, .int r.pace]
theorem strOk_of {s : Str} (h : ∀ c ∈ cl s, c < 0x110000) : PyData.strOk s = true := by
  unfold PyData.strOk
  rw [← Array.all_toList, List.all_eq_true]
  exact fun c hc => decide_eq_true (h c hc)
theorem nm_ok {s : Str} (h : IsNm s) : PyData.strOk s = true := strOk_of fun c hc => by
  have := (h.2.2 c hc).2
  omega
theorem rowD_lay {r : Rw} (h : IsNm r.nm) : (rowD r).canLay0 = true := by
  show (PyData.strOk r.nm && (true && (true && (true && true)))) = true
  rw [nm_ok h]
  rfl
theorem rowD_shaped {r : Rw} (h : IsNm r.nm) : SeqAt.shaped (rowD r) = true := by
  unfold SeqAt.shaped
  rw [rowD_lay h, Bool.true_and]
  exact decide_eq_true (show max 0 (max 0 (max 0 (max 0 0))) + 1 ≤ 64 by decide)
theorem rowD_dp {K : PySem.W.Frag} {H : Hp} {p : Addr} {r : Rw} (h : H p = some (.tup (rowV r))) : Dp K H (.ref p) (rowD r) :=
  .tup (SqT.of h) (.cons (.str _) (.cons (.int _) (.cons (.int _) (.cons (.int _) .nil))))
theorem sum_bound {l : List Nat} {b : Nat} (h : ∀ x ∈ l, x ≤ b) : l.sum ≤ b * l.length := by
  induction l with
  | nil => simp
  | cons a r ih =>
    have h1 := ih fun x hx => h x (List.mem_cons_of_mem _ hx)
    have h2 := h a List.mem_cons_self
    rw [List.sum_cons, List.length_cons, Nat.mul_succ]
    omega
theorem fence_sum {rs : List Rw} (h : RowsOk rs) : ((rs.map rowS).map (·.length)).sum ≤ 5600 := by
  have h1 := sum_bound (l := (rs.map rowS).map (·.length)) (b := 140) fun x hx => by
    obtain ⟨s, hs, rfl⟩ := List.mem_map.mp hx
    obtain ⟨r, hr, rfl⟩ := List.mem_map.mp hs
    exact (row_len (h.2.2.1 r hr) (h.1 r hr)).2
  rw [List.length_map, List.length_map] at h1
  have := h.2.2.2
  omega
theorem fenceS_nil : fenceS [] = "" := by
  refine cl_inj ?_
  unfold fenceS
  rw [cl_join]
  decide
theorem fenceS_ne {rs : List Rw} (h : RowsOk rs) (h0 : rs ≠ []) : fenceS rs ≠ "" := fun e => by
  cases rs with
  | nil => exact h0 rfl
  | cons r rs =>
    have h1 := congrArg (fun s => (cl s).length) e
    have h2 := (row_len (h.2.2.1 r List.mem_cons_self) (h.1 r List.mem_cons_self)).1
    rw [← cl_len] at h2
    have e0 : (cl "").length = 0 := by decide
    have h1 : (cl (fenceS (r :: rs))).length = (cl "").length := h1
    rw [e0] at h1
    unfold fenceS at h1
    rw [cl_join, List.map_cons, List.map_cons] at h1
    cases hr : (rs.map rowS).map cl with
    | nil =>
      rw [hr] at h1
      have : (cl (rowS r)).length = 0 := h1
      omega
    | cons a t =>
      rw [hr] at h1
      have h1 : (cl (rowS r) ++ cl "\n" ++ jn (cl "\n") (a :: t)).length = 0 := h1
      rw [List.length_append, List.length_append] at h1
      omega
theorem jn_len {c : List Nat} (hc : c.length = 1) : ∀ l : List (List Nat), (jn c l).length ≤ (l.map List.length).sum + l.length
  | [] => Nat.zero_le _
  | [a] => by
    show a.length ≤ _
    simp
  | a :: b :: r => by
    have ih := jn_len hc (b :: r)
    show (a ++ c ++ jn c (b :: r)).length ≤ _
    rw [List.length_append, List.length_append, hc, List.map_cons, List.sum_cons, List.length_cons]
    omega
theorem fence_len {rs : List Rw} (h : RowsOk rs) : (fenceS rs).length ≤ 6000 := by
  rw [← cl_len]
  unfold fenceS
  rw [cl_join]
  have h1 := jn_len (c := cl "\n") (by decide) ((rs.map rowS).map cl)
  have h2 := fence_sum h
  have h3 := h.2.2.2
  have e : ((rs.map rowS).map cl).map List.length = (rs.map rowS).map (·.length) := by
    rw [List.map_map]
    exact List.map_congr_left fun s _ => cl_len s
  rw [e, List.length_map, List.length_map] at h1
  omega
end My

set_option maxRecDepth 100000
set_option maxHeartbeats 4000000
/-! what repr says of texts and rows -/
namespace My
open PySem PySem.Spec PyProof.Rows L2 TL
theorem log_i {i : Int} (h1 : -(10 ^ 70) ≤ i) (h2 : i ≤ 10 ^ 70) : i.natAbs.log2 < 1920 := by
  by_cases h : i.natAbs = 0
  · rw [h]
    decide
  · have e : (10 : Int) ^ 70 < 2 ^ 250 := by decide
    exact Nat.lt_trans ((Nat.log2_lt h).mpr (show i.natAbs < 2 ^ 250 by omega)) (by decide)
theorem jn_memb {c : List Nat} {x : Nat} : ∀ {l : List (List Nat)}, x ∈ jn c l → x ∈ c ∨ ∃ a ∈ l, x ∈ a
  | [], h => (List.not_mem_nil h).elim
  | [a], h => .inr ⟨a, List.mem_cons_self, h⟩
  | a :: b :: r, h => by
    have h : x ∈ a ++ c ++ jn c (b :: r) := h
    rcases List.mem_append.mp h with h | h
    · rcases List.mem_append.mp h with h | h
      · exact .inr ⟨a, List.mem_cons_self, h⟩
      · exact .inl h
    · rcases jn_memb h with h | ⟨y, hy, h⟩
      · exact .inl h
      · exact .inr ⟨y, List.mem_cons_of_mem _ hy, h⟩
theorem row_small {r : Rw} (h : IsNm r.nm) {c : Nat} (hc : c ∈ cl (rowS r)) : c < 128 := by
  unfold rowS at hc
  rw [cl_join] at hc
  rcases jn_memb hc with h1 | ⟨a, ha, h1⟩
  · rw [sp_cl] at h1
    have : c = 32 := by simpa using h1
    omega
  · obtain ⟨s, hs, rfl⟩ := List.mem_map.mp ha
    simp only [List.mem_cons, List.not_mem_nil, or_false] at hs
    rcases hs with rfl | rfl | rfl | rfl
    · have := (h.2.2 c h1).2
      omega
    · have := tS_mem h1
      omega
    · have := tS_mem h1
      omega
    · have := tS_mem h1
      omega
theorem fence_small {rs : List Rw} (h : ∀ r ∈ rs, IsNm r.nm) {c : Nat} (hc : c ∈ cl (fenceS rs)) : c < 128 := by
  unfold fenceS at hc
  rw [cl_join] at hc
  rcases jn_memb hc with h1 | ⟨a, ha, h1⟩
  · rw [nl_cl] at h1
    have : c = 10 := by simpa using h1
    omega
  · obtain ⟨s, hs, rfl⟩ := List.mem_map.mp ha
    obtain ⟨r, hr, rfl⟩ := List.mem_map.mp hs
    exact row_small (h r hr) h1
theorem repr_le {s : Str} (h : ∀ c ∈ cl s, c < 128) : (reprText s).length ≤ 10 * s.length + 2 := StrLaws.reprText_len s fun c hc => by
  have e : (16 : Nat) ^ 8 = 4294967296 := by decide
  have := h c hc
  omega
theorem rowD_show {r : Rw} (h : NumOk r) : (rowD r).showable = true := by
  obtain ⟨a1, a2, a3, a4, a5, a6, a7⟩ := h
  show (true && (decide (r.day.natAbs.log2 < 1920) && (decide (r.post.natAbs.log2 < 1920) && (decide (r.pace.natAbs.log2 < 1920) && true)))) = true
  rw [decide_eq_true (log_i (by omega) (by omega)), decide_eq_true (log_i (by omega) (by omega)), decide_eq_true (log_i (by omega) (by omega))]
  rfl
theorem rowD_len {r : Rw} (h : IsNm r.nm) (hn : NumOk r) : (rowD r).shown.length ≤ 1000 := by
  obtain ⟨a1, a2, a3, a4, a5, a6, a7⟩ := hn
  have l1 := tS_small (i := r.day) (k := 31) (by omega) (by omega) (by decide)
  have l2 := tS_small (i := r.post) (k := 31) (by omega) (by omega) (by decide)
  have l3 := tS_small (i := r.pace) (k := 31) (by omega) (by omega) (by decide)
  have l0 := repr_le (s := r.nm) fun c hc => by have := (h.2.2 c hc).2; omega
  have l4 := h.2.1
  have e : (rowD r).shown = ("(" : Str) ++ Str.join ", " [reprText r.nm, tS r.day, tS r.post, tS r.pace] ++ (")" : String) := rfl
  have e2 : Str.join ", " [reprText r.nm, tS r.day, tS r.post, tS r.pace] = reprText r.nm ++ ", " ++ (tS r.day ++ ", " ++ (tS r.post ++ ", " ++ tS r.pace)) := rfl
  rw [e, e2]
  simp only [PySem.Str.length_append]
  have e3 : ("(" : Str).length = 1 := by decide
  have e4 : (", " : Str).length = 2 := by decide
  have e5 : (Str.ofString ")").length = 1 := by decide
  rw [e3, e4, e5]
  omega
theorem rowD_dict (r : Rw) : (rowD r).hasDict = false := rfl
/-- the texts at the ends of the bounds -/
def endA : Rw := ⟨"a", 0, -(10 ^ 30), 10 ^ 18⟩
def endB : Rw := ⟨"b", 10 ^ 30, 0, -(10 ^ 18)⟩
theorem ends_ok : RowsOk [endA, endB] := by
  refine ⟨fun r hr => ?_, by decide +kernel, fun r hr => ?_, by decide⟩
  · simp only [List.mem_cons, List.not_mem_nil, or_false] at hr
    rcases hr with rfl | rfl
    · exact ⟨by decide, by decide, by decide, by decide, by decide, by decide, by decide⟩
    · exact ⟨by decide, by decide, by decide, by decide, by decide, by decide, by decide⟩
  · rw [← nmB_iff]
    simp only [List.mem_cons, List.not_mem_nil, or_false] at hr
    rcases hr with rfl | rfl <;> decide +kernel
section
variable {K : PySem.W.Frag} {H : Hp} {Q : VK}
theorem r_reprS {z : Str} (h : (reprText z).length ≤ sizeLine) (q : Q (.str (reprText z)) H) : rReprD K [.str z] H Q := ⟨_, .str z, rfl, .str z, rfl, rfl, Nat.zero_le _, h, q⟩
theorem r_reprRow {p : Addr} {r : Rw} (hp : H p = some (.tup (rowV r))) (h : IsNm r.nm) (hn : NumOk r) (q : Q (.str (rowD r).shown) H) : rReprD K [.ref p] H Q :=
  ⟨_, rowD r, rfl, rowD_dp hp, rowD_show hn, rowD_dict r, (show max 0 (max 0 (max 0 (max 0 0))) + 1 ≤ 40 by decide), Nat.le_trans (rowD_len h hn) (show 1000 ≤ 16777216 by decide), q⟩
theorem strs_lay : ∀ {l : List Str}, (∀ x ∈ l, IsNm x) → PyData.canLayAll0 (l.map PyData.str) = true
  | [], _ => rfl
  | a :: r, h => by
    show (PyData.strOk a && PyData.canLayAll0 (r.map PyData.str)) = true
    rw [nm_ok (h a List.mem_cons_self), strs_lay fun x hx => h x (List.mem_cons_of_mem _ hx)]
    rfl
theorem strs_depth : ∀ l : List Str, PyData.depthAll (l.map PyData.str) = 0
  | [] => rfl
  | a :: r => by
    show max 0 (PyData.depthAll (r.map PyData.str)) = 0
    rw [strs_depth r]
    rfl
theorem strs_dp : ∀ l : List Str, DpAll K H (l.map V.str) (l.map PyData.str)
  | [] => .nil
  | a :: r => .cons (.str a) (strs_dp r)
/-- two tuples of the same names -/
theorem r_neNames {p q : Addr} {l : List Str} (h : ∀ x ∈ l, IsNm x) (hp : H p = some (.tup (l.map V.str))) (hq : H q = some (.tup (l.map V.str))) (k : Q (.bl false) H) : rNeU K (.ref p) (.ref q) H Q := by
  have hlay : (PyData.tuple (l.map PyData.str)).canLay0 = true := strs_lay h
  have sh : SeqAt.shaped (.tuple (l.map PyData.str)) = true := by
    unfold SeqAt.shaped
    rw [hlay, Bool.true_and]
    refine decide_eq_true ?_
    show PyData.depthAll (l.map PyData.str) + 1 ≤ 64
    rw [strs_depth]
    decide
  refine .inr ⟨_, _, .tup (SqT.of hp) (strs_dp l), .tup (SqT.of hq) (strs_dp l), sh, sh, ?_⟩
  rw [SeqAt.eqv_refl _ hlay]
  exact k
end
def zS (n : Nat) : Str := ⟨(List.replicate n (Str.ofString "0").cps).foldl (· ++ ·) #[]⟩
theorem r_zeros {n : Int} {H : Hp} {Q : VK} (h1 : 2 ≤ n) (h2 : n ≤ 40) (hz : (zS n.toNat).length ≤ sizeLine) (q : Q (.str (zS n.toNat)) H) : rMulU (.str (Str.ofString "0")) (.int n) H Q := .inr ⟨_, n, rfl, rfl, h1, by omega, by decide, by decide, hz, q⟩
theorem ends_text : Str.ofString "a 0 -" ++ Str.ofString "1" ++ zS 30 ++ Str.ofString " 1" ++ zS 18 ++ Str.ofString "\nb 1" ++ zS 30 ++ Str.ofString " 0 -1" ++ zS 18 = fenceS [endA, endB] := by decide +kernel
end My

set_option maxRecDepth 100000
set_option maxHeartbeats 4000000
/-! a law's end where its def is promised for known guards, with one table of code objects -/
namespace My
open PySem PySem.Spec PyProof.Rows L2 LamX
/-- an empty table of code objects -/
abbrev tabO : Obj := { cls := .none, data := .fields #[] }
/-- what the end says of the module object of the built-ins -/
def BmAt (h : Heap) (mg : Str → Option Value) : Prop := ∃ (bm : Addr) (ob : Obj), mg "__builtins__" = some (.ref bm) ∧ bm ≠ builtinsNs ∧ h.get? bm = some ob ∧ ob.cls = .type "module" ∧ ob.dict = some builtinsNs ∧ ob.data = .plain
section
variable {P : Program} {w : World} {K : PySem.W.Frag} {mg mb : Str → Option Value} {k : Nat} {f p cd tb : Addr} {sp : Sp} {t : Shared} {us : List Value} {ns : List Int}
theorem tabB_at {h base : Heap} (up : ∀ b o, h.get? b = some o → (∀ v n, o.data ≠ .seq v n) → o.data ≠ .fields #[] → base.get? b = some o) (gl : h.Ns mainGlobals mg) (tab : h.get? tb = some tabO) (c : PySem.W.CodeHd h cd tb) (bm : BmAt h mg) : TabB base mg cd tb := by
  have glT : mainGlobals ≠ tb := by
    obtain ⟨_, _, _, e, d, _⟩ := gl
    intro z
    rw [z, tab] at e
    injection e with e
    rw [← e] at d
    nomatch d
  refine ⟨?_, ?_, glT⟩
  · obtain ⟨o, xs, fl, tf, fg, tg, inF, tx, tt, c1, c2, c3, c4, rest⟩ := c
    refine ⟨o, xs, fl, tf, fg, tg, inF, tx, tt, up cd o c1 ?_ ?_, c2, c3, c4, rest⟩
    · intro v n z
      rw [c3] at z
      nomatch z
    · intro z
      rw [c3] at z
      have z : xs = #[] := Data.fields.inj z
      rw [z] at c4
      nomatch c4
  · obtain ⟨m, om, m1, m2, m3, m4, m5, m6⟩ := bm
    have away : m ≠ tb := by
      intro z
      rw [z, tab] at m3
      injection m3 with m3
      rw [← m3] at m6
      nomatch m6
    have awayG : m ≠ mainGlobals := by
      obtain ⟨_, _, _, e, d, _⟩ := gl
      intro z
      rw [z, e] at m3
      injection m3 with m3
      rw [← m3, d] at m6
      nomatch m6
    refine ⟨m, om, m1, m2, awayG, away, up m om m3 ?_ ?_, m4, m5, m6⟩
    · intro v n z
      rw [m6] at z
      nomatch z
    · intro z
      rw [m6] at z
      nomatch z
theorem core_atT (kin : K.In t.heap) (gl : t.heap.Ns mainGlobals mg) (bl : t.heap.Ns builtinsNs mb) (bb : ∀ x : Str, x ≠ "__name__" → mb x = bootBuiltins x) (nl : t.heap.NoLimit) (gn : t.gens = #[])
    (at_ : t.heap.get? p = some { cls := .type "list", data := .seq us.toArray }) (tab : t.heap.get? tb = some tabO) (tk : K.lookup tb = none) (c : PySem.W.CodeHd t.heap cd tb) (bm : BmAt t.heap mg)
    (room : Room k callerA) (F : ∀ base : Heap, K.In base → base.Ns mainGlobals mg → TabB base mg cd tb → FnG P w K mg base (L2.CX P w) k f sp)
    {H : Hp} (hT : H tb = some (.tbl #[])) (only : ∀ b, b ≠ tb → H b = none ∨ ∃ o xs, H b = some (.frz o (.lst xs))) (want : sp [.ref p] H (fun v _ => v = .bl true) fun _ _ _ => False) (ok : HOk P w H t.heap) (one : ∀ b, H b ≠ none → b = p ∨ b = tb) (kn : H p ≠ none → K.lookup p = none) :
    codeAny (model P w) callerA (.call (.ref f) ⟨[.ref p], []⟩) (Told t) t := by
  have gone : ∀ b o, t.heap.get? b = some o → (∀ v n, o.data ≠ .seq v n) → o.data ≠ .fields #[] → H b = none := fun b o e n1 n2 => by
    by_cases z : H b = none
    · exact z
    · exfalso
      rcases one b z with rfl | rfl
      · rw [at_] at e
        cases e
        exact n1 _ _ rfl
      · rw [tab] at e
        cases e
        exact n2 rfl
  have up : ∀ b o, t.heap.get? b = some o → (∀ v n, o.data ≠ .seq v n) → o.data ≠ .fields #[] → (hidT t.heap H).get? b = some o := fun b o e n1 n2 => hidT_get e (gone b o e n1 n2)
  have names : ∀ (b : Addr) (m : Str → Option Value), t.heap.Ns b m → (hidT t.heap H).Ns b m := fun b m z => by
    obtain ⟨o, es, n, e, d, r⟩ := z
    refine ⟨o, es, n, up b o e (fun v n z => ?_) (fun z => ?_), d, r⟩ <;> (rw [d] at z; cases z)
  have kb : K.In (hidT t.heap H) := fun b o e => by
    refine hidT_get (kin b o e) ?_
    by_cases z : H b = none
    · exact z
    · exfalso
      rcases one b z with rfl | rfl
      · rw [kn z] at e
        cases e
      · rw [tk] at e
        cases e
  obtain ⟨mc, nl1, nl2⟩ := nl
  have mod : Mod K mg (hidT t.heap H) := ⟨kb, names _ _ gl, ⟨mb, names _ _ bl, bb⟩, ⟨mc, names _ _ nl1, nl2⟩⟩
  have env : Env0 P w K mg (hidT t.heap H) callerA [] t H := ⟨rfl, mod, fun b o e => of_hidT e, Nat.le_of_eq (hidT_size _ _), trivial, fun b hb => (List.not_mem_nil hb).elim, ok, .of_eq gn⟩
  refine codeAny_mono (F _ kb (names _ _ gl) (tabB_at up gl tab c bm) callerA [] t H [.ref p] [.ref p] _ _ room rfl env (.cons rfl .nil) want) fun r u z => ?_
  match r, z with
  | .error x, z =>
    exfalso
    have z : L2.CX P w [] H t (fun _ _ _ => False) x u := z
    obtain ⟨_, _, _, _, _, _, _, _, _, _, _, _, hE⟩ := z
    exact hE
  | .ok .next, z => exact False.elim z
  | .ok .brk, z => exact False.elim z
  | .ok .cont, z => exact False.elim z
  | .ok (.ret y), z =>
    obtain ⟨v, H2, os, bare, un, ok2, rel, q⟩ := z
    have q : v = .bl true := q
    subst q
    obtain rfl : y = Value.bool true := rel
    have stay : ∀ b o, b ≠ tb → t.heap.get? b = some o → u.heap.get? b = some o := fun b o nb e => by
      rcases only b nb with z | ⟨ob, xs, z⟩
      · exact un.keep b o e z (by simp [frs]) (by simp)
      · obtain ⟨e1, _⟩ := ok b _ z
        obtain ⟨e2, _⟩ := ok2 b _ (un.frzs b ob _ z)
        rw [e1] at e
        cases e
        exact e2
    obtain ⟨more, grow⟩ := un.tbls tb #[] hT
    have grown : u.heap.get? tb = some { cls := .none, data := .fields (#[] ++ more) } := ok2 tb _ grow
    refine ⟨rfl, ⟨fun b o e => ?_, fun b o e => ?_⟩, os, bare⟩
    · by_cases hb : b = tb
      · subst hb
        rw [tab] at e
        injection e with e
        subst e
        exact .inr (.inl ⟨(c.tab tab).isCodeTable, rfl, #[], more, rfl, grown⟩)
      · exact .inl (stay b o hb e)
    · by_cases hb : b = tb
      · subst hb
        exact ⟨_, grown⟩
      · exact ⟨o, stay b o hb e⟩
theorem law_atT (kin : K.In t.heap) (gl : t.heap.Ns mainGlobals mg) (bl : t.heap.Ns builtinsNs mb) (bb : ∀ x : Str, x ≠ "__name__" → mb x = bootBuiltins x) (nl : t.heap.NoLimit) (gn : t.gens = #[])
    (at_ : t.heap.get? p = some { cls := .type "list", data := .seq us.toArray }) (tab : t.heap.get? tb = some tabO) (tk : K.lookup tb = none) (c : PySem.W.CodeHd t.heap cd tb) (bm : BmAt t.heap mg)
    (isInts : IntsAre us ns) (few : ns.length ≤ sizeLine) (room : Room k callerA) (F : ∀ base : Heap, K.In base → base.Ns mainGlobals mg → TabB base mg cd tb → FnG P w K mg base (L2.CX P w) k f sp)
    (want : ∀ H : Hp, H tb = some (.tbl #[]) → SqL K H p (ns.map V.int) → sp [.ref p] H (fun v _ => v = .bl true) fun _ _ _ => False) : codeAny (model P w) callerA (.call (.ref f) ⟨[.ref p], []⟩) (Told t) t := by
  have rel := vals_ints isInts
  have len := isInts.length
  have apart : p ≠ tb := fun z => by
    rw [z, tab] at at_
    have := congrArg Obj.data (Option.some.inj at_)
    cases this
  by_cases hk : K.lookup p = none
  · generalize ho : (HO.frz { cls := .type "list", data := .seq us.toArray } (.lst (ns.map V.int))) = o
    have here : (fun b => if b = p then some o else if b = tb then some (.tbl #[]) else none : Hp) p = some o := if_pos rfl
    have hereT : (fun b => if b = p then some o else if b = tb then some (.tbl #[]) else none : Hp) tb = some (.tbl #[]) := (if_neg apart.symm).trans (if_pos rfl)
    have away : ∀ b, b ≠ p → b ≠ tb → (fun b => if b = p then some o else if b = tb then some (.tbl #[]) else none : Hp) b = none := fun b z z2 => (if_neg z).trans (if_neg z2)
    generalize (fun b => if b = p then some o else if b = tb then some (.tbl #[]) else none : Hp) = H at here hereT away
    refine core_atT kin gl bl bb nl gn at_ tab tk c bm room F hereT (fun b nb => ?_) (want H hereT (.inl (.inr ⟨_, by rw [here, ← ho]⟩))) (fun b u z => ?_) (fun b z => ?_) fun _ => hk
    · by_cases z : b = p
      · exact .inr ⟨_, _, by rw [z, here, ← ho]⟩
      · exact .inl (away b z nb)
    · by_cases e : b = p
      · subst e
        rw [here, ← ho] at z
        cases z
        exact ⟨at_, by rw [List.length_map]; exact few, us, _, rel, at_⟩
      · by_cases e2 : b = tb
        · subst e2
          rw [hereT] at z
          cases z
          exact tab
        · rw [away b e e2] at z
          cases z
    · by_cases e : b = p
      · exact .inl e
      · by_cases e2 : b = tb
        · exact .inr e2
        · exact absurd (away b e e2) z
  · obtain ⟨o, hk⟩ : ∃ o, K.lookup p = some o := by
      cases z : K.lookup p with
      | none => exact absurd z hk
      | some o => exact ⟨o, rfl⟩
    have e := kin p o hk
    rw [at_] at e
    cases e
    have hereT : (fun b => if b = tb then some (.tbl #[]) else none : Hp) tb = some (.tbl #[]) := if_pos rfl
    have away : ∀ b, b ≠ tb → (fun b => if b = tb then some (.tbl #[]) else none : Hp) b = none := fun b z => if_neg z
    generalize (fun b => if b = tb then some (.tbl #[]) else none : Hp) = H at hereT away
    refine core_atT kin gl bl bb nl gn at_ tab tk c bm room F hereT (fun b nb => .inl (away b nb)) (want H hereT (.inr ⟨_, us.toArray, _, hk, rfl, rfl, rfl, by rw [List.size_toArray, len]; exact few, by simpa using rel⟩)) (fun b u z => ?_) (fun b z => ?_) fun z => absurd (away p apart) z
    · by_cases e2 : b = tb
      · subst e2
        rw [hereT] at z
        cases z
        exact tab
      · rw [away b e2] at z
        cases z
    · by_cases e2 : b = tb
      · exact .inr e2
      · exact absurd (away b e2) z
end
/-- the end over a head by facts, with a table -/
theorem walk_GT {l : PySem.W.OpenLaw} {n k : Nat} {q : Program} {loose : List Str} {XP : (Str → Option Value) → Heap → Prop} {YP : World → Heap → Prop} {d : DefRec} (hn : l.most = some n) (hz : n ≤ sizeLine) (hd : d.params.defaults = []) (room : Room k callerA)
    (F : ∀ (w : World) (mg : Str → Option Value) (f : Addr) (h : Heap), YP w h → h.Ns mainGlobals mg → mg d.name = some (.ref f) →
      ∃ (K : PySem.W.Frag) (cd tb : Addr) (sp : Sp), K.In h ∧ h.get? tb = some tabO ∧ K.lookup tb = none ∧ PySem.W.CodeHd h cd tb ∧ (∀ (H : Hp) (p : Addr) (ns : List Int), ns.length ≤ n → H tb = some (.tbl #[]) → SqL K H p (ns.map V.int) → sp [.ref p] H (fun v _ => v = .bl true) fun _ _ _ => False) ∧
        ∀ base : Heap, K.In base → base.Ns mainGlobals mg → TabB base mg cd tb → FnG l.prog w K mg base (L2.CX l.prog w) k f sp) : PySem.W.WalkO q loose XP YP l.row.toRowW d [] (fun f vs => PySem.call f vs) := by
  refine Att.attach_callB hn hd fun w t0 t mg mb f o pm cd doc p us ns G Y ho hf hcd hmg hobj hints hlen hbits hg => ?_
  obtain ⟨K, cd, tb, sp, kin, tab, tk, c, want, hF⟩ := F w mg f _ Y G.T.g hmg
  exact law_atT kin G.T.g G.T.b G.T.builtins G.T.nolimit hg hobj tab tk c G.T.bmain hints (Nat.le_trans hlen hz) room hF fun H hT rd => want H p ns hlen hT rd
end My

set_option maxRecDepth 100000
set_option maxHeartbeats 0
namespace Tx
open PySem PySem.Spec PyProof.Rows L2 He5
def topS (i : Nat) : Stmt := PySem.Challenge.pw_paintposts_k76_actions_that_are_refused.main.body.getD i (.Pass ⟨0, 0, 0, 0⟩)
abbrev s_is_integer : Stmt := topS 17
abbrev N_is_integer : List Str := ["value"]
theorem sc_is_integer : FnScope N_is_integer ["value"] (defScope s_is_integer) := ⟨rfl, rfl, rfl, by decide +kernel, rfl, by decide +kernel, by decide +kernel⟩

abbrev s_is_between : Stmt := topS 18
abbrev N_is_between : List Str := ["value", "low", "high"]
theorem sc_is_between : FnScope N_is_between ["value", "low", "high"] (defScope s_is_between) := ⟨rfl, rfl, rfl, by decide +kernel, rfl, by decide +kernel, by decide +kernel⟩

abbrev s_is_name : Stmt := topS 21
abbrev N_is_name : List Str := ["value", "letter"]
theorem sc_is_name : FnScope N_is_name ["value"] (defScope s_is_name) := ⟨rfl, rfl, rfl, by decide +kernel, rfl, by decide +kernel, by decide +kernel⟩

abbrev s_Painter_init : Stmt := inClass (topS 29) 3
abbrev N_Painter_init : List Str := ["self", "name", "day", "post", "stride"]
theorem sc_Painter_init : FnScope N_Painter_init ["self", "name", "day", "post", "stride"] (defScope s_Painter_init) := ⟨rfl, rfl, rfl, by decide +kernel, rfl, by decide +kernel, by decide +kernel⟩

abbrev s_Painter_name : Stmt := inClass (topS 29) 6
abbrev N_Painter_name : List Str := ["self"]
theorem sc_Painter_name : FnScope N_Painter_name ["self"] (defScope s_Painter_name) := ⟨rfl, rfl, rfl, by decide +kernel, rfl, by decide +kernel, by decide +kernel⟩

abbrev s_Painter_day : Stmt := inClass (topS 29) 7
abbrev N_Painter_day : List Str := ["self"]
theorem sc_Painter_day : FnScope N_Painter_day ["self"] (defScope s_Painter_day) := ⟨rfl, rfl, rfl, by decide +kernel, rfl, by decide +kernel, by decide +kernel⟩

abbrev s_Painter_post : Stmt := inClass (topS 29) 8
abbrev N_Painter_post : List Str := ["self"]
theorem sc_Painter_post : FnScope N_Painter_post ["self"] (defScope s_Painter_post) := ⟨rfl, rfl, rfl, by decide +kernel, rfl, by decide +kernel, by decide +kernel⟩

abbrev s_Painter_stride : Stmt := inClass (topS 29) 9
abbrev N_Painter_stride : List Str := ["self"]
theorem sc_Painter_stride : FnScope N_Painter_stride ["self"] (defScope s_Painter_stride) := ⟨rfl, rfl, rfl, by decide +kernel, rfl, by decide +kernel, by decide +kernel⟩

abbrev s_Fence_init : Stmt := inClass (topS 31) 0
abbrev N_Fence_init : List Str := ["self", "painters", "index", "painter", "names", "name"]
theorem sc_Fence_init : FnScope N_Fence_init ["self", "painters"] (defScope s_Fence_init) := ⟨rfl, rfl, rfl, by decide +kernel, rfl, by decide +kernel, by decide +kernel⟩

abbrev s_Fence_painters : Stmt := inClass (topS 31) 2
abbrev N_Fence_painters : List Str := ["self"]
theorem sc_Fence_painters : FnScope N_Fence_painters ["self"] (defScope s_Fence_painters) := ⟨rfl, rfl, rfl, by decide +kernel, rfl, by decide +kernel, by decide +kernel⟩

abbrev s_Fence_need_name : Stmt := inClass (topS 31) 5
abbrev N_Fence_need_name : List Str := ["self", "value"]
theorem sc_Fence_need_name : FnScope N_Fence_need_name ["self", "value"] (defScope s_Fence_need_name) := ⟨rfl, rfl, rfl, by decide +kernel, rfl, by decide +kernel, by decide +kernel⟩

abbrev s_Fence_len : Stmt := inClass (topS 31) 7
abbrev N_Fence_len : List Str := ["self"]
theorem sc_Fence_len : FnScope N_Fence_len ["self"] (defScope s_Fence_len) := ⟨rfl, rfl, rfl, by decide +kernel, rfl, by decide +kernel, by decide +kernel⟩

abbrev s_Fence_contains : Stmt := inClass (topS 31) 8
abbrev N_Fence_contains : List Str := ["self", "name"]
theorem sc_Fence_contains : FnScope N_Fence_contains ["self", "name"] (defScope s_Fence_contains) := ⟨rfl, rfl, rfl, by decide +kernel, rfl, by decide +kernel, by decide +kernel⟩

abbrev s_Fence_getitem : Stmt := inClass (topS 31) 9
abbrev N_Fence_getitem : List Str := ["self", "name"]
theorem sc_Fence_getitem : FnScope N_Fence_getitem ["self", "name"] (defScope s_Fence_getitem) := ⟨rfl, rfl, rfl, by decide +kernel, rfl, by decide +kernel, by decide +kernel⟩

abbrev s_Fence_add : Stmt := inClass (topS 31) 12
abbrev N_Fence_add : List Str := ["self", "painter"]
theorem sc_Fence_add : FnScope N_Fence_add ["self", "painter"] (defScope s_Fence_add) := ⟨rfl, rfl, rfl, by decide +kernel, rfl, by decide +kernel, by decide +kernel⟩

abbrev s_Fence_sub : Stmt := inClass (topS 31) 13
abbrev N_Fence_sub : List Str := ["self", "name"]
theorem sc_Fence_sub : FnScope N_Fence_sub ["self", "name"] (defScope s_Fence_sub) := ⟨rfl, rfl, rfl, by decide +kernel, rfl, by decide +kernel, by decide +kernel⟩

abbrev s_Fence_without : Stmt := inClass (topS 31) 15
abbrev N_Fence_without : List Str := ["self", "names", "left", "painter"]
theorem sc_Fence_without : FnScope N_Fence_without ["self", "names"] (defScope s_Fence_without) := ⟨rfl, rfl, rfl, by decide +kernel, rfl, by decide +kernel, by decide +kernel⟩

abbrev s_need_action : Stmt := topS 34
abbrev N_need_action : List Str := ["value"]
theorem sc_need_action : FnScope N_need_action ["value"] (defScope s_need_action) := ⟨rfl, rfl, rfl, by decide +kernel, rfl, by decide +kernel, by decide +kernel⟩

abbrev s_replaced : Stmt := topS 35
abbrev N_replaced : List Str := ["fence", "painters", "found", "painter"]
theorem sc_replaced : FnScope N_replaced ["fence", "painters"] (defScope s_replaced) := ⟨rfl, rfl, rfl, by decide +kernel, rfl, by decide +kernel, by decide +kernel⟩

abbrev s_swapped : Stmt := topS 36
abbrev N_swapped : List Str := ["fence", "one", "other"]
theorem sc_swapped : FnScope N_swapped ["fence", "one", "other"] (defScope s_swapped) := ⟨rfl, rfl, rfl, by decide +kernel, rfl, by decide +kernel, by decide +kernel⟩

abbrev s_after : Stmt := topS 37
abbrev N_after : List Str := ["fence", "action", "word", "name", "rest", "day", "post", "stride", "painter"]
theorem sc_after : FnScope N_after ["fence", "action"] (defScope s_after) := ⟨rfl, rfl, rfl, by decide +kernel, rfl, by decide +kernel, by decide +kernel⟩

abbrev s_Yard_init : Stmt := inClass (topS 38) 0
abbrev N_Yard_init : List Str := ["self"]
theorem sc_Yard_init : FnScope N_Yard_init ["self"] (defScope s_Yard_init) := ⟨rfl, rfl, rfl, by decide +kernel, rfl, by decide +kernel, by decide +kernel⟩

abbrev s_Yard_len : Stmt := inClass (topS 38) 2
abbrev N_Yard_len : List Str := ["self"]
theorem sc_Yard_len : FnScope N_Yard_len ["self"] (defScope s_Yard_len) := ⟨rfl, rfl, rfl, by decide +kernel, rfl, by decide +kernel, by decide +kernel⟩

abbrev s_Yard_steps : Stmt := inClass (topS 38) 3
abbrev N_Yard_steps : List Str := ["self", "actions", "fence"]
theorem sc_Yard_steps : FnScope N_Yard_steps ["self"] (defScope s_Yard_steps) := ⟨rfl, rfl, rfl, by decide +kernel, rfl, by decide +kernel, by decide +kernel⟩

abbrev s_Yard_undoable : Stmt := inClass (topS 38) 4
abbrev N_Yard_undoable : List Str := ["self"]
theorem sc_Yard_undoable : FnScope N_Yard_undoable ["self"] (defScope s_Yard_undoable) := ⟨rfl, rfl, rfl, by decide +kernel, rfl, by decide +kernel, by decide +kernel⟩

abbrev s_Yard_fence_at : Stmt := inClass (topS 38) 6
abbrev N_Yard_fence_at : List Str := ["self", "version"]
theorem sc_Yard_fence_at : FnScope N_Yard_fence_at ["self", "version"] (defScope s_Yard_fence_at) := ⟨rfl, rfl, rfl, by decide +kernel, rfl, by decide +kernel, by decide +kernel⟩

abbrev s_Yard_allow : Stmt := inClass (topS 38) 8
abbrev N_Yard_allow : List Str := ["self", "fence"]
theorem sc_Yard_allow : FnScope N_Yard_allow ["self", "fence"] (defScope s_Yard_allow) := ⟨rfl, rfl, rfl, by decide +kernel, rfl, by decide +kernel, by decide +kernel⟩

abbrev s_Yard_fence_after : Stmt := inClass (topS 38) 9
abbrev N_Yard_fence_after : List Str := ["self", "actions", "action", "fence"]
theorem sc_Yard_fence_after : FnScope N_Yard_fence_after ["self", "actions"] (defScope s_Yard_fence_after) := ⟨rfl, rfl, rfl, by decide +kernel, rfl, by decide +kernel, by decide +kernel⟩

abbrev s_Yard_act : Stmt := inClass (topS 38) 10
abbrev N_Yard_act : List Str := ["self", "actions", "fence"]
theorem sc_Yard_act : FnScope N_Yard_act ["self", "actions"] (defScope s_Yard_act) := ⟨rfl, rfl, rfl, by decide +kernel, rfl, by decide +kernel, by decide +kernel⟩

abbrev s_Lodd : Stmt := topS 40
abbrev N_Lodd : List Str := ["_law_pen_here", "_law_some"]
theorem sc_Lodd : FnScope N_Lodd ["_law_pen_here"] (defScope s_Lodd) := ⟨rfl, rfl, rfl, by decide +kernel, rfl, by decide +kernel, by decide +kernel⟩

abbrev s_Lshows : Stmt := topS 41
abbrev N_Lshows : List Str := ["_law_made", "_law_rows", "_law_told_here", "_law_one", "_law_row"]
theorem sc_Lshows : FnScope N_Lshows ["_law_made", "_law_rows"] (defScope s_Lshows) := ⟨rfl, rfl, rfl, by decide +kernel, rfl, by decide +kernel, by decide +kernel⟩

abbrev s_Lis_int : Stmt := topS 42
abbrev N_Lis_int : List Str := ["_law_value"]
theorem sc_Lis_int : FnScope N_Lis_int ["_law_value"] (defScope s_Lis_int) := ⟨rfl, rfl, rfl, by decide +kernel, rfl, by decide +kernel, by decide +kernel⟩

abbrev s_Lis_name : Stmt := topS 43
abbrev N_Lis_name : List Str := ["_law_value", "_law_sign"]
theorem sc_Lis_name : FnScope N_Lis_name ["_law_value"] (defScope s_Lis_name) := ⟨rfl, rfl, rfl, by decide +kernel, rfl, by decide +kernel, by decide +kernel⟩

abbrev s_Lreason : Stmt := topS 44
abbrev N_Lreason : List Str := ["_law_row"]
theorem sc_Lreason : FnScope N_Lreason ["_law_row"] (defScope s_Lreason) := ⟨rfl, rfl, rfl, by decide +kernel, rfl, by decide +kernel, by decide +kernel⟩

abbrev s_Labsent : Stmt := topS 45
abbrev N_Labsent : List Str := ["_law_painters", "_law_names_here", "_law_row"]
theorem sc_Labsent : FnScope N_Labsent ["_law_painters", "_law_names_here"] (defScope s_Labsent) := ⟨rfl, rfl, rfl, by decide +kernel, rfl, by decide +kernel, by decide +kernel⟩

abbrev s_Lrow_of : Stmt := topS 46
abbrev N_Lrow_of : List Str := ["_law_rows", "_law_name", "_law_row"]
theorem sc_Lrow_of : FnScope N_Lrow_of ["_law_rows", "_law_name"] (defScope s_Lrow_of) := ⟨rfl, rfl, rfl, by decide +kernel, rfl, by decide +kernel, by decide +kernel⟩

abbrev s_Lact : Stmt := topS 47
abbrev N_Lact : List Str := ["_law_yard", "_law_some"]
theorem sc_Lact : FnScope N_Lact ["_law_yard", "_law_some"] (defScope s_Lact) := ⟨rfl, rfl, rfl, by decide +kernel, rfl, by decide +kernel, by decide +kernel⟩

abbrev s_Lis_action : Stmt := topS 48
abbrev N_Lis_action : List Str := ["_law_value", "_law_sizes"]
theorem sc_Lis_action : FnScope N_Lis_action ["_law_value"] (defScope s_Lis_action) := ⟨rfl, rfl, rfl, by decide +kernel, rfl, by decide +kernel, by decide +kernel⟩

abbrev s_Lis_in : Stmt := topS 49
abbrev N_Lis_in : List Str := ["_law_rows", "_law_name", "_law_row"]
theorem sc_Lis_in : FnScope N_Lis_in ["_law_rows", "_law_name"] (defScope s_Lis_in) := ⟨rfl, rfl, rfl, by decide +kernel, rfl, by decide +kernel, by decide +kernel⟩

abbrev s_Lone_step : Stmt := topS 50
abbrev N_Lone_step : List Str := ["_law_rows", "_law_action", "_law_word", "_law_name", "_law_one", "_law_fresh", "_law_row", "_law_other"]
theorem sc_Lone_step : FnScope N_Lone_step ["_law_rows", "_law_action"] (defScope s_Lone_step) := ⟨rfl, rfl, rfl, by decide +kernel, rfl, by decide +kernel, by decide +kernel⟩

abbrev s_Lsteps : Stmt := topS 51
abbrev N_Lsteps : List Str := ["_law_rows", "_law_actions", "_law_action"]
theorem sc_Lsteps : FnScope N_Lsteps ["_law_rows", "_law_actions"] (defScope s_Lsteps) := ⟨rfl, rfl, rfl, by decide +kernel, rfl, by decide +kernel, by decide +kernel⟩

abbrev s_Lis_error : Stmt := topS 52
abbrev N_Lis_error : List Str := ["_law_found"]
theorem sc_Lis_error : FnScope N_Lis_error ["_law_found"] (defScope s_Lis_error) := ⟨rfl, rfl, rfl, by decide +kernel, rfl, by decide +kernel, by decide +kernel⟩

abbrev s_Ldrawn : Stmt := topS 53
abbrev N_Ldrawn : List Str := ["_law_pen_here", "_law_rows", "_law_spare", "_law_way", "_law_names_here", "_law_row", "_law_name", "_law_other", "_law_post", "_law_stride", "_law_first"]
theorem sc_Ldrawn : FnScope N_Ldrawn ["_law_pen_here", "_law_rows", "_law_spare"] (defScope s_Ldrawn) := ⟨rfl, rfl, rfl, by decide +kernel, rfl, by decide +kernel, by decide +kernel⟩

abbrev s_Ltold : Stmt := topS 54
abbrev N_Ltold : List Str := ["_law_call", "e"]
theorem sc_Ltold : FnScope N_Ltold ["_law_call"] (defScope s_Ltold) := ⟨rfl, rfl, rfl, by decide +kernel, rfl, by decide +kernel, by decide +kernel⟩

abbrev s_Lpen : Stmt := topS 55
abbrev N_Lpen : List Str := ["_law_script"]
theorem sc_Lpen : FnScope N_Lpen ["_law_script"] (defScope s_Lpen) := ⟨rfl, rfl, rfl, by decide +kernel, rfl, by decide +kernel, by decide +kernel⟩

abbrev s_Ldraw : Stmt := topS 56
abbrev N_Ldraw : List Str := ["_law_pen_here", "_law_many", "_law_digit", "_law_site", "_law_cell", "_law_mixed"]
theorem sc_Ldraw : FnScope N_Ldraw ["_law_pen_here", "_law_many"] (defScope s_Ldraw) := ⟨rfl, rfl, rfl, by decide +kernel, rfl, by decide +kernel, by decide +kernel⟩

abbrev s_Lpick : Stmt := topS 57
abbrev N_Lpick : List Str := ["_law_pen_here", "_law_options"]
theorem sc_Lpick : FnScope N_Lpick ["_law_pen_here", "_law_options"] (defScope s_Lpick) := ⟨rfl, rfl, rfl, by decide +kernel, rfl, by decide +kernel, by decide +kernel⟩

abbrev s_Laround : Stmt := topS 58
abbrev N_Laround : List Str := ["_law_pen_here", "_law_most"]
theorem sc_Laround : FnScope N_Laround ["_law_pen_here", "_law_most"] (defScope s_Laround) := ⟨rfl, rfl, rfl, by decide +kernel, rfl, by decide +kernel, by decide +kernel⟩

abbrev s_Lnames : Stmt := topS 59
abbrev N_Lnames : List Str := ["_law_pen_here", "_law_many", "_law_letters", "_law_stem", "_law_k", "_law_front", "_law_found", "_law_step", "_law_own", "_law_tail"]
theorem sc_Lnames : FnScope N_Lnames ["_law_pen_here", "_law_many"] (defScope s_Lnames) := ⟨rfl, rfl, rfl, by decide +kernel, rfl, by decide +kernel, by decide +kernel⟩

abbrev s_Lbent : Stmt := topS 60
abbrev N_Lbent : List Str := ["_law_pen_here", "_law_rows", "_law_spare", "_law_action", "_law_way", "_law_at", "_law_edges"]
theorem sc_Lbent : FnScope N_Lbent ["_law_pen_here", "_law_rows", "_law_spare"] (defScope s_Lbent) := ⟨rfl, rfl, rfl, by decide +kernel, rfl, by decide +kernel, by decide +kernel⟩

abbrev s_law : Stmt := topS 61
abbrev N_law : List Str := ["_law_script", "_law_pen_here", "_law_turn", "_law_yard", "_law_rows", "_law_spare", "_law_again", "_law_actions", "_law_k", "_law_due", "_law_kept", "_law_told_here"]
theorem sc_law : FnScope N_law ["_law_script"] (defScope s_law) := ⟨rfl, rfl, rfl, by decide +kernel, rfl, by decide +kernel, by decide +kernel⟩

def a_is_integer (K : PySem.W.Frag) : Addr := (fun K => He.ga K "is_integer") K
def dA_is_integer : DefA := ⟨a_is_integer, "is_integer", "is_integer", defArgs s_is_integer, defBody s_is_integer, defScope s_is_integer, [], []⟩
abbrev FnP_is_integer (K : PySem.W.Frag) : Prop := ∃ fd, FunD K "is_integer" "is_integer" (defArgs s_is_integer) (defBody s_is_integer) (defScope s_is_integer) [] [] (a_is_integer K) fd
def a_is_between (K : PySem.W.Frag) : Addr := (fun K => He.ga K "is_between") K
def dA_is_between : DefA := ⟨a_is_between, "is_between", "is_between", defArgs s_is_between, defBody s_is_between, defScope s_is_between, [], []⟩
abbrev FnP_is_between (K : PySem.W.Frag) : Prop := ∃ fd, FunD K "is_between" "is_between" (defArgs s_is_between) (defBody s_is_between) (defScope s_is_between) [] [] (a_is_between K) fd
def a_is_name (K : PySem.W.Frag) : Addr := (fun K => He.ga K "is_name") K
def dA_is_name : DefA := ⟨a_is_name, "is_name", "is_name", defArgs s_is_name, defBody s_is_name, defScope s_is_name, [], []⟩
abbrev FnP_is_name (K : PySem.W.Frag) : Prop := ∃ fd, FunD K "is_name" "is_name" (defArgs s_is_name) (defBody s_is_name) (defScope s_is_name) [] [] (a_is_name K) fd
def a_Painter_init (K : PySem.W.Frag) : Addr := (fun K => He.ma K (He.ga K "Painter") "__init__") K
def dA_Painter_init : DefA := ⟨a_Painter_init, "__init__", "Painter.__init__", defArgs s_Painter_init, defBody s_Painter_init, defScope s_Painter_init, [], []⟩
abbrev FnP_Painter_init (K : PySem.W.Frag) : Prop := ∃ fd, FunD K "__init__" "Painter.__init__" (defArgs s_Painter_init) (defBody s_Painter_init) (defScope s_Painter_init) [] [] (a_Painter_init K) fd
def a_Painter_name (K : PySem.W.Frag) : Addr := (fun K => Hk.pgA K (He.ga K "Painter") "name") K
def dA_Painter_name : DefA := ⟨a_Painter_name, "name", "Painter.name", defArgs s_Painter_name, defBody s_Painter_name, defScope s_Painter_name, [], []⟩
abbrev FnP_Painter_name (K : PySem.W.Frag) : Prop := ∃ fd, FunD K "name" "Painter.name" (defArgs s_Painter_name) (defBody s_Painter_name) (defScope s_Painter_name) [] [] (a_Painter_name K) fd
def a_Painter_day (K : PySem.W.Frag) : Addr := (fun K => Hk.pgA K (He.ga K "Painter") "day") K
def dA_Painter_day : DefA := ⟨a_Painter_day, "day", "Painter.day", defArgs s_Painter_day, defBody s_Painter_day, defScope s_Painter_day, [], []⟩
abbrev FnP_Painter_day (K : PySem.W.Frag) : Prop := ∃ fd, FunD K "day" "Painter.day" (defArgs s_Painter_day) (defBody s_Painter_day) (defScope s_Painter_day) [] [] (a_Painter_day K) fd
def a_Painter_post (K : PySem.W.Frag) : Addr := (fun K => Hk.pgA K (He.ga K "Painter") "post") K
def dA_Painter_post : DefA := ⟨a_Painter_post, "post", "Painter.post", defArgs s_Painter_post, defBody s_Painter_post, defScope s_Painter_post, [], []⟩
abbrev FnP_Painter_post (K : PySem.W.Frag) : Prop := ∃ fd, FunD K "post" "Painter.post" (defArgs s_Painter_post) (defBody s_Painter_post) (defScope s_Painter_post) [] [] (a_Painter_post K) fd
def a_Painter_stride (K : PySem.W.Frag) : Addr := (fun K => Hk.pgA K (He.ga K "Painter") "stride") K
def dA_Painter_stride : DefA := ⟨a_Painter_stride, "stride", "Painter.stride", defArgs s_Painter_stride, defBody s_Painter_stride, defScope s_Painter_stride, [], []⟩
abbrev FnP_Painter_stride (K : PySem.W.Frag) : Prop := ∃ fd, FunD K "stride" "Painter.stride" (defArgs s_Painter_stride) (defBody s_Painter_stride) (defScope s_Painter_stride) [] [] (a_Painter_stride K) fd
def a_Fence_init (K : PySem.W.Frag) : Addr := (fun K => He.ma K (He.ga K "Fence") "__init__") K
def dA_Fence_init : DefA := ⟨a_Fence_init, "__init__", "Fence.__init__", defArgs s_Fence_init, defBody s_Fence_init, defScope s_Fence_init, [], []⟩
abbrev FnP_Fence_init (K : PySem.W.Frag) : Prop := ∃ fd, FunD K "__init__" "Fence.__init__" (defArgs s_Fence_init) (defBody s_Fence_init) (defScope s_Fence_init) [] [] (a_Fence_init K) fd
def a_Fence_painters (K : PySem.W.Frag) : Addr := (fun K => Hk.pgA K (He.ga K "Fence") "painters") K
def dA_Fence_painters : DefA := ⟨a_Fence_painters, "painters", "Fence.painters", defArgs s_Fence_painters, defBody s_Fence_painters, defScope s_Fence_painters, [], []⟩
abbrev FnP_Fence_painters (K : PySem.W.Frag) : Prop := ∃ fd, FunD K "painters" "Fence.painters" (defArgs s_Fence_painters) (defBody s_Fence_painters) (defScope s_Fence_painters) [] [] (a_Fence_painters K) fd
def a_Fence_need_name (K : PySem.W.Frag) : Addr := (fun K => He.ma K (He.ga K "Fence") "need_name") K
def dA_Fence_need_name : DefA := ⟨a_Fence_need_name, "need_name", "Fence.need_name", defArgs s_Fence_need_name, defBody s_Fence_need_name, defScope s_Fence_need_name, [], []⟩
abbrev FnP_Fence_need_name (K : PySem.W.Frag) : Prop := ∃ fd, FunD K "need_name" "Fence.need_name" (defArgs s_Fence_need_name) (defBody s_Fence_need_name) (defScope s_Fence_need_name) [] [] (a_Fence_need_name K) fd
def a_Fence_len (K : PySem.W.Frag) : Addr := (fun K => He.ma K (He.ga K "Fence") "__len__") K
def dA_Fence_len : DefA := ⟨a_Fence_len, "__len__", "Fence.__len__", defArgs s_Fence_len, defBody s_Fence_len, defScope s_Fence_len, [], []⟩
abbrev FnP_Fence_len (K : PySem.W.Frag) : Prop := ∃ fd, FunD K "__len__" "Fence.__len__" (defArgs s_Fence_len) (defBody s_Fence_len) (defScope s_Fence_len) [] [] (a_Fence_len K) fd
def a_Fence_contains (K : PySem.W.Frag) : Addr := (fun K => He.ma K (He.ga K "Fence") "__contains__") K
def dA_Fence_contains : DefA := ⟨a_Fence_contains, "__contains__", "Fence.__contains__", defArgs s_Fence_contains, defBody s_Fence_contains, defScope s_Fence_contains, [], []⟩
abbrev FnP_Fence_contains (K : PySem.W.Frag) : Prop := ∃ fd, FunD K "__contains__" "Fence.__contains__" (defArgs s_Fence_contains) (defBody s_Fence_contains) (defScope s_Fence_contains) [] [] (a_Fence_contains K) fd
def a_Fence_getitem (K : PySem.W.Frag) : Addr := (fun K => He.ma K (He.ga K "Fence") "__getitem__") K
def dA_Fence_getitem : DefA := ⟨a_Fence_getitem, "__getitem__", "Fence.__getitem__", defArgs s_Fence_getitem, defBody s_Fence_getitem, defScope s_Fence_getitem, [], []⟩
abbrev FnP_Fence_getitem (K : PySem.W.Frag) : Prop := ∃ fd, FunD K "__getitem__" "Fence.__getitem__" (defArgs s_Fence_getitem) (defBody s_Fence_getitem) (defScope s_Fence_getitem) [] [] (a_Fence_getitem K) fd
def a_Fence_add (K : PySem.W.Frag) : Addr := (fun K => He.ma K (He.ga K "Fence") "__add__") K
def dA_Fence_add : DefA := ⟨a_Fence_add, "__add__", "Fence.__add__", defArgs s_Fence_add, defBody s_Fence_add, defScope s_Fence_add, [], []⟩
abbrev FnP_Fence_add (K : PySem.W.Frag) : Prop := ∃ fd, FunD K "__add__" "Fence.__add__" (defArgs s_Fence_add) (defBody s_Fence_add) (defScope s_Fence_add) [] [] (a_Fence_add K) fd
def a_Fence_sub (K : PySem.W.Frag) : Addr := (fun K => He.ma K (He.ga K "Fence") "__sub__") K
def dA_Fence_sub : DefA := ⟨a_Fence_sub, "__sub__", "Fence.__sub__", defArgs s_Fence_sub, defBody s_Fence_sub, defScope s_Fence_sub, [], []⟩
abbrev FnP_Fence_sub (K : PySem.W.Frag) : Prop := ∃ fd, FunD K "__sub__" "Fence.__sub__" (defArgs s_Fence_sub) (defBody s_Fence_sub) (defScope s_Fence_sub) [] [] (a_Fence_sub K) fd
def a_Fence_without (K : PySem.W.Frag) : Addr := (fun K => He.ma K (He.ga K "Fence") "without") K
def dA_Fence_without : DefA := ⟨a_Fence_without, "without", "Fence.without", defArgs s_Fence_without, defBody s_Fence_without, defScope s_Fence_without, [], []⟩
abbrev FnP_Fence_without (K : PySem.W.Frag) : Prop := ∃ fd, FunD K "without" "Fence.without" (defArgs s_Fence_without) (defBody s_Fence_without) (defScope s_Fence_without) [] [] (a_Fence_without K) fd
def a_need_action (K : PySem.W.Frag) : Addr := (fun K => He.ga K "need_action") K
def dA_need_action : DefA := ⟨a_need_action, "need_action", "need_action", defArgs s_need_action, defBody s_need_action, defScope s_need_action, [], []⟩
abbrev FnP_need_action (K : PySem.W.Frag) : Prop := ∃ fd, FunD K "need_action" "need_action" (defArgs s_need_action) (defBody s_need_action) (defScope s_need_action) [] [] (a_need_action K) fd
def a_replaced (K : PySem.W.Frag) : Addr := (fun K => He.ga K "replaced") K
def dA_replaced : DefA := ⟨a_replaced, "replaced", "replaced", defArgs s_replaced, defBody s_replaced, defScope s_replaced, [], []⟩
abbrev FnP_replaced (K : PySem.W.Frag) : Prop := ∃ fd, FunD K "replaced" "replaced" (defArgs s_replaced) (defBody s_replaced) (defScope s_replaced) [] [] (a_replaced K) fd
def a_swapped (K : PySem.W.Frag) : Addr := (fun K => He.ga K "swapped") K
def dA_swapped : DefA := ⟨a_swapped, "swapped", "swapped", defArgs s_swapped, defBody s_swapped, defScope s_swapped, [], []⟩
abbrev FnP_swapped (K : PySem.W.Frag) : Prop := ∃ fd, FunD K "swapped" "swapped" (defArgs s_swapped) (defBody s_swapped) (defScope s_swapped) [] [] (a_swapped K) fd
def a_after (K : PySem.W.Frag) : Addr := (fun K => He.ga K "after") K
def dA_after : DefA := ⟨a_after, "after", "after", defArgs s_after, defBody s_after, defScope s_after, [], []⟩
abbrev FnP_after (K : PySem.W.Frag) : Prop := ∃ fd, FunD K "after" "after" (defArgs s_after) (defBody s_after) (defScope s_after) [] [] (a_after K) fd
def a_Yard_init (K : PySem.W.Frag) : Addr := (fun K => He.ma K (He.ga K "Yard") "__init__") K
def dA_Yard_init : DefA := ⟨a_Yard_init, "__init__", "Yard.__init__", defArgs s_Yard_init, defBody s_Yard_init, defScope s_Yard_init, [], []⟩
abbrev FnP_Yard_init (K : PySem.W.Frag) : Prop := ∃ fd, FunD K "__init__" "Yard.__init__" (defArgs s_Yard_init) (defBody s_Yard_init) (defScope s_Yard_init) [] [] (a_Yard_init K) fd
def a_Yard_len (K : PySem.W.Frag) : Addr := (fun K => He.ma K (He.ga K "Yard") "__len__") K
def dA_Yard_len : DefA := ⟨a_Yard_len, "__len__", "Yard.__len__", defArgs s_Yard_len, defBody s_Yard_len, defScope s_Yard_len, [], []⟩
abbrev FnP_Yard_len (K : PySem.W.Frag) : Prop := ∃ fd, FunD K "__len__" "Yard.__len__" (defArgs s_Yard_len) (defBody s_Yard_len) (defScope s_Yard_len) [] [] (a_Yard_len K) fd
def a_Yard_steps (K : PySem.W.Frag) : Addr := (fun K => Hk.pgA K (He.ga K "Yard") "steps") K
def dA_Yard_steps : DefA := ⟨a_Yard_steps, "steps", "Yard.steps", defArgs s_Yard_steps, defBody s_Yard_steps, defScope s_Yard_steps, [], []⟩
abbrev FnP_Yard_steps (K : PySem.W.Frag) : Prop := ∃ fd, FunD K "steps" "Yard.steps" (defArgs s_Yard_steps) (defBody s_Yard_steps) (defScope s_Yard_steps) [] [] (a_Yard_steps K) fd
def a_Yard_undoable (K : PySem.W.Frag) : Addr := (fun K => Hk.pgA K (He.ga K "Yard") "undoable") K
def dA_Yard_undoable : DefA := ⟨a_Yard_undoable, "undoable", "Yard.undoable", defArgs s_Yard_undoable, defBody s_Yard_undoable, defScope s_Yard_undoable, [], []⟩
abbrev FnP_Yard_undoable (K : PySem.W.Frag) : Prop := ∃ fd, FunD K "undoable" "Yard.undoable" (defArgs s_Yard_undoable) (defBody s_Yard_undoable) (defScope s_Yard_undoable) [] [] (a_Yard_undoable K) fd
def a_Yard_fence_at (K : PySem.W.Frag) : Addr := (fun K => He.ma K (He.ga K "Yard") "fence_at") K
def dA_Yard_fence_at : DefA := ⟨a_Yard_fence_at, "fence_at", "Yard.fence_at", defArgs s_Yard_fence_at, defBody s_Yard_fence_at, defScope s_Yard_fence_at, [], [("version", .non)]⟩
abbrev FnP_Yard_fence_at (K : PySem.W.Frag) : Prop := ∃ fd, FunD K "fence_at" "Yard.fence_at" (defArgs s_Yard_fence_at) (defBody s_Yard_fence_at) (defScope s_Yard_fence_at) [] [("version", V.non)] (a_Yard_fence_at K) fd
def a_Yard_allow (K : PySem.W.Frag) : Addr := (fun K => He.ma K (He.ga K "Yard") "allow") K
def dA_Yard_allow : DefA := ⟨a_Yard_allow, "allow", "Yard.allow", defArgs s_Yard_allow, defBody s_Yard_allow, defScope s_Yard_allow, [], []⟩
abbrev FnP_Yard_allow (K : PySem.W.Frag) : Prop := ∃ fd, FunD K "allow" "Yard.allow" (defArgs s_Yard_allow) (defBody s_Yard_allow) (defScope s_Yard_allow) [] [] (a_Yard_allow K) fd
def a_Yard_fence_after (K : PySem.W.Frag) : Addr := (fun K => He.ma K (He.ga K "Yard") "fence_after") K
def dA_Yard_fence_after : DefA := ⟨a_Yard_fence_after, "fence_after", "Yard.fence_after", defArgs s_Yard_fence_after, defBody s_Yard_fence_after, defScope s_Yard_fence_after, [], []⟩
abbrev FnP_Yard_fence_after (K : PySem.W.Frag) : Prop := ∃ fd, FunD K "fence_after" "Yard.fence_after" (defArgs s_Yard_fence_after) (defBody s_Yard_fence_after) (defScope s_Yard_fence_after) [] [] (a_Yard_fence_after K) fd
def a_Yard_act (K : PySem.W.Frag) : Addr := (fun K => He.ma K (He.ga K "Yard") "act") K
def dA_Yard_act : DefA := ⟨a_Yard_act, "act", "Yard.act", defArgs s_Yard_act, defBody s_Yard_act, defScope s_Yard_act, [], []⟩
abbrev FnP_Yard_act (K : PySem.W.Frag) : Prop := ∃ fd, FunD K "act" "Yard.act" (defArgs s_Yard_act) (defBody s_Yard_act) (defScope s_Yard_act) [] [] (a_Yard_act K) fd
def a_Lodd (K : PySem.W.Frag) : Addr := (fun K => He.ga K "_law_odd") K
def dA_Lodd : DefA := ⟨a_Lodd, "_law_odd", "_law_odd", defArgs s_Lodd, defBody s_Lodd, defScope s_Lodd, [], []⟩
abbrev FnP_Lodd (K : PySem.W.Frag) : Prop := ∃ fd, FunD K "_law_odd" "_law_odd" (defArgs s_Lodd) (defBody s_Lodd) (defScope s_Lodd) [] [] (a_Lodd K) fd
def a_Lshows (K : PySem.W.Frag) : Addr := (fun K => He.ga K "_law_shows") K
def dA_Lshows : DefA := ⟨a_Lshows, "_law_shows", "_law_shows", defArgs s_Lshows, defBody s_Lshows, defScope s_Lshows, [], []⟩
abbrev FnP_Lshows (K : PySem.W.Frag) : Prop := ∃ fd, FunD K "_law_shows" "_law_shows" (defArgs s_Lshows) (defBody s_Lshows) (defScope s_Lshows) [] [] (a_Lshows K) fd
def a_Lis_int (K : PySem.W.Frag) : Addr := (fun K => He.ga K "_law_is_int") K
def dA_Lis_int : DefA := ⟨a_Lis_int, "_law_is_int", "_law_is_int", defArgs s_Lis_int, defBody s_Lis_int, defScope s_Lis_int, [], []⟩
abbrev FnP_Lis_int (K : PySem.W.Frag) : Prop := ∃ fd, FunD K "_law_is_int" "_law_is_int" (defArgs s_Lis_int) (defBody s_Lis_int) (defScope s_Lis_int) [] [] (a_Lis_int K) fd
def a_Lis_name (K : PySem.W.Frag) : Addr := (fun K => He.ga K "_law_is_name") K
def dA_Lis_name : DefA := ⟨a_Lis_name, "_law_is_name", "_law_is_name", defArgs s_Lis_name, defBody s_Lis_name, defScope s_Lis_name, [], []⟩
abbrev FnP_Lis_name (K : PySem.W.Frag) : Prop := ∃ fd, FunD K "_law_is_name" "_law_is_name" (defArgs s_Lis_name) (defBody s_Lis_name) (defScope s_Lis_name) [] [] (a_Lis_name K) fd
def a_Lreason (K : PySem.W.Frag) : Addr := (fun K => He.ga K "_law_reason") K
def dA_Lreason : DefA := ⟨a_Lreason, "_law_reason", "_law_reason", defArgs s_Lreason, defBody s_Lreason, defScope s_Lreason, [], []⟩
abbrev FnP_Lreason (K : PySem.W.Frag) : Prop := ∃ fd, FunD K "_law_reason" "_law_reason" (defArgs s_Lreason) (defBody s_Lreason) (defScope s_Lreason) [] [] (a_Lreason K) fd
def a_Labsent (K : PySem.W.Frag) : Addr := (fun K => He.ga K "_law_absent") K
def dA_Labsent : DefA := ⟨a_Labsent, "_law_absent", "_law_absent", defArgs s_Labsent, defBody s_Labsent, defScope s_Labsent, [], []⟩
abbrev FnP_Labsent (K : PySem.W.Frag) : Prop := ∃ fd, FunD K "_law_absent" "_law_absent" (defArgs s_Labsent) (defBody s_Labsent) (defScope s_Labsent) [] [] (a_Labsent K) fd
def a_Lrow_of (K : PySem.W.Frag) : Addr := (fun K => He.ga K "_law_row_of") K
def dA_Lrow_of : DefA := ⟨a_Lrow_of, "_law_row_of", "_law_row_of", defArgs s_Lrow_of, defBody s_Lrow_of, defScope s_Lrow_of, [], []⟩
abbrev FnP_Lrow_of (K : PySem.W.Frag) : Prop := ∃ fd, FunD K "_law_row_of" "_law_row_of" (defArgs s_Lrow_of) (defBody s_Lrow_of) (defScope s_Lrow_of) [] [] (a_Lrow_of K) fd
def a_Lact (K : PySem.W.Frag) : Addr := (fun K => He.ga K "_law_act") K
def dA_Lact : DefA := ⟨a_Lact, "_law_act", "_law_act", defArgs s_Lact, defBody s_Lact, defScope s_Lact, [], []⟩
abbrev FnP_Lact (K : PySem.W.Frag) : Prop := ∃ fd, FunD K "_law_act" "_law_act" (defArgs s_Lact) (defBody s_Lact) (defScope s_Lact) [] [] (a_Lact K) fd
def a_Lis_action (K : PySem.W.Frag) : Addr := (fun K => He.ga K "_law_is_action") K
def dA_Lis_action : DefA := ⟨a_Lis_action, "_law_is_action", "_law_is_action", defArgs s_Lis_action, defBody s_Lis_action, defScope s_Lis_action, [], []⟩
abbrev FnP_Lis_action (K : PySem.W.Frag) : Prop := ∃ fd, FunD K "_law_is_action" "_law_is_action" (defArgs s_Lis_action) (defBody s_Lis_action) (defScope s_Lis_action) [] [] (a_Lis_action K) fd
def a_Lis_in (K : PySem.W.Frag) : Addr := (fun K => He.ga K "_law_is_in") K
def dA_Lis_in : DefA := ⟨a_Lis_in, "_law_is_in", "_law_is_in", defArgs s_Lis_in, defBody s_Lis_in, defScope s_Lis_in, [], []⟩
abbrev FnP_Lis_in (K : PySem.W.Frag) : Prop := ∃ fd, FunD K "_law_is_in" "_law_is_in" (defArgs s_Lis_in) (defBody s_Lis_in) (defScope s_Lis_in) [] [] (a_Lis_in K) fd
def a_Lone_step (K : PySem.W.Frag) : Addr := (fun K => He.ga K "_law_one_step") K
def dA_Lone_step : DefA := ⟨a_Lone_step, "_law_one_step", "_law_one_step", defArgs s_Lone_step, defBody s_Lone_step, defScope s_Lone_step, [], []⟩
abbrev FnP_Lone_step (K : PySem.W.Frag) : Prop := ∃ fd, FunD K "_law_one_step" "_law_one_step" (defArgs s_Lone_step) (defBody s_Lone_step) (defScope s_Lone_step) [] [] (a_Lone_step K) fd
def a_Lsteps (K : PySem.W.Frag) : Addr := (fun K => He.ga K "_law_steps") K
def dA_Lsteps : DefA := ⟨a_Lsteps, "_law_steps", "_law_steps", defArgs s_Lsteps, defBody s_Lsteps, defScope s_Lsteps, [], []⟩
abbrev FnP_Lsteps (K : PySem.W.Frag) : Prop := ∃ fd, FunD K "_law_steps" "_law_steps" (defArgs s_Lsteps) (defBody s_Lsteps) (defScope s_Lsteps) [] [] (a_Lsteps K) fd
def a_Lis_error (K : PySem.W.Frag) : Addr := (fun K => He.ga K "_law_is_error") K
def dA_Lis_error : DefA := ⟨a_Lis_error, "_law_is_error", "_law_is_error", defArgs s_Lis_error, defBody s_Lis_error, defScope s_Lis_error, [], []⟩
abbrev FnP_Lis_error (K : PySem.W.Frag) : Prop := ∃ fd, FunD K "_law_is_error" "_law_is_error" (defArgs s_Lis_error) (defBody s_Lis_error) (defScope s_Lis_error) [] [] (a_Lis_error K) fd
def a_Ldrawn (K : PySem.W.Frag) : Addr := (fun K => He.ga K "_law_drawn") K
def dA_Ldrawn : DefA := ⟨a_Ldrawn, "_law_drawn", "_law_drawn", defArgs s_Ldrawn, defBody s_Ldrawn, defScope s_Ldrawn, [], []⟩
abbrev FnP_Ldrawn (K : PySem.W.Frag) : Prop := ∃ fd, FunD K "_law_drawn" "_law_drawn" (defArgs s_Ldrawn) (defBody s_Ldrawn) (defScope s_Ldrawn) [] [] (a_Ldrawn K) fd
def a_Ltold (K : PySem.W.Frag) : Addr := (fun K => He.ga K "_law_told") K
def dA_Ltold : DefA := ⟨a_Ltold, "_law_told", "_law_told", defArgs s_Ltold, defBody s_Ltold, defScope s_Ltold, [], []⟩
abbrev FnP_Ltold (K : PySem.W.Frag) : Prop := ∃ fd, FunD K "_law_told" "_law_told" (defArgs s_Ltold) (defBody s_Ltold) (defScope s_Ltold) [] [] (a_Ltold K) fd
def a_Lpen (K : PySem.W.Frag) : Addr := (fun K => He.ga K "_law_pen") K
def dA_Lpen : DefA := ⟨a_Lpen, "_law_pen", "_law_pen", defArgs s_Lpen, defBody s_Lpen, defScope s_Lpen, [], []⟩
abbrev FnP_Lpen (K : PySem.W.Frag) : Prop := ∃ fd, FunD K "_law_pen" "_law_pen" (defArgs s_Lpen) (defBody s_Lpen) (defScope s_Lpen) [] [] (a_Lpen K) fd
def a_Ldraw (K : PySem.W.Frag) : Addr := (fun K => He.ga K "_law_draw") K
def dA_Ldraw : DefA := ⟨a_Ldraw, "_law_draw", "_law_draw", defArgs s_Ldraw, defBody s_Ldraw, defScope s_Ldraw, [], []⟩
abbrev FnP_Ldraw (K : PySem.W.Frag) : Prop := ∃ fd, FunD K "_law_draw" "_law_draw" (defArgs s_Ldraw) (defBody s_Ldraw) (defScope s_Ldraw) [] [] (a_Ldraw K) fd
def a_Lpick (K : PySem.W.Frag) : Addr := (fun K => He.ga K "_law_pick") K
def dA_Lpick : DefA := ⟨a_Lpick, "_law_pick", "_law_pick", defArgs s_Lpick, defBody s_Lpick, defScope s_Lpick, [], []⟩
abbrev FnP_Lpick (K : PySem.W.Frag) : Prop := ∃ fd, FunD K "_law_pick" "_law_pick" (defArgs s_Lpick) (defBody s_Lpick) (defScope s_Lpick) [] [] (a_Lpick K) fd
def a_Laround (K : PySem.W.Frag) : Addr := (fun K => He.ga K "_law_around") K
def dA_Laround : DefA := ⟨a_Laround, "_law_around", "_law_around", defArgs s_Laround, defBody s_Laround, defScope s_Laround, [], []⟩
abbrev FnP_Laround (K : PySem.W.Frag) : Prop := ∃ fd, FunD K "_law_around" "_law_around" (defArgs s_Laround) (defBody s_Laround) (defScope s_Laround) [] [] (a_Laround K) fd
def a_Lnames (K : PySem.W.Frag) : Addr := (fun K => He.ga K "_law_names") K
def dA_Lnames : DefA := ⟨a_Lnames, "_law_names", "_law_names", defArgs s_Lnames, defBody s_Lnames, defScope s_Lnames, [], []⟩
abbrev FnP_Lnames (K : PySem.W.Frag) : Prop := ∃ fd, FunD K "_law_names" "_law_names" (defArgs s_Lnames) (defBody s_Lnames) (defScope s_Lnames) [] [] (a_Lnames K) fd
def a_Lbent (K : PySem.W.Frag) : Addr := (fun K => He.ga K "_law_bent") K
def dA_Lbent : DefA := ⟨a_Lbent, "_law_bent", "_law_bent", defArgs s_Lbent, defBody s_Lbent, defScope s_Lbent, [], []⟩
abbrev FnP_Lbent (K : PySem.W.Frag) : Prop := ∃ fd, FunD K "_law_bent" "_law_bent" (defArgs s_Lbent) (defBody s_Lbent) (defScope s_Lbent) [] [] (a_Lbent K) fd
def a_law (K : PySem.W.Frag) : Addr := (fun K => He.ga K "law") K
def dA_law : DefA := ⟨a_law, "law", "law", defArgs s_law, defBody s_law, defScope s_law, [], []⟩
abbrev FnP_law (K : PySem.W.Frag) : Prop := ∃ fd, FunD K "law" "law" (defArgs s_law) (defBody s_law) (defScope s_law) [] [] (a_law K) fd
def fnL : List DefA := [dA_is_integer, dA_is_between, dA_is_name, dA_Painter_init, dA_Painter_name, dA_Painter_day, dA_Painter_post, dA_Painter_stride, dA_Fence_init, dA_Fence_painters, dA_Fence_need_name, dA_Fence_len, dA_Fence_contains, dA_Fence_getitem, dA_Fence_add, dA_Fence_sub, dA_Fence_without, dA_need_action, dA_replaced, dA_swapped, dA_after, dA_Yard_init, dA_Yard_len, dA_Yard_steps, dA_Yard_undoable, dA_Yard_fence_at, dA_Yard_allow, dA_Yard_fence_after, dA_Yard_act, dA_Lodd, dA_Lshows, dA_Lis_int, dA_Lis_name, dA_Lreason, dA_Labsent, dA_Lrow_of, dA_Lact, dA_Lis_action, dA_Lis_in, dA_Lone_step, dA_Lsteps, dA_Lis_error, dA_Ldrawn, dA_Ltold, dA_Lpen, dA_Ldraw, dA_Lpick, dA_Laround, dA_Lnames, dA_Lbent, dA_law]
abbrev PP : Program := PySem.Challenge.pw_paintposts_k76_actions_that_are_refused
def mainFile : Str := (PP.main.file : Str)
abbrev sE_InvalidAction : Stmt := inClass (topS 5) 0
def dE_InvalidAction : Hk.DefE := ⟨"InvalidAction", "value", "value", sE_InvalidAction, "ValueError.__new__", "ValueError.__init__", "ValueError", [.type "ValueError", .type "Exception", .type "BaseException", .type "object"]⟩
theorem it_InvalidAction : Ox.IText (L2.defArgs sE_InvalidAction) (L2.defBody sE_InvalidAction) (L2.defScope sE_InvalidAction) "value" "value" := ⟨⟨_, _, rfl⟩, ⟨_, _, _, _, _, _, _, _, _, _, rfl, rfl⟩, rfl, rfl, rfl, rfl, by decide +kernel, rfl, rfl, rfl, by decide, by decide⟩
abbrev sE_InvalidPainter : Stmt := inClass (topS 2) 0
def dE_InvalidPainter : Hk.DefE := ⟨"InvalidPainter", "reason", "reason", sE_InvalidPainter, "ValueError.__new__", "ValueError.__init__", "ValueError", [.type "ValueError", .type "Exception", .type "BaseException", .type "object"]⟩
theorem it_InvalidPainter : Ox.IText (L2.defArgs sE_InvalidPainter) (L2.defBody sE_InvalidPainter) (L2.defScope sE_InvalidPainter) "reason" "reason" := ⟨⟨_, _, rfl⟩, ⟨_, _, _, _, _, _, _, _, _, _, rfl, rfl⟩, rfl, rfl, rfl, rfl, by decide +kernel, rfl, rfl, rfl, by decide, by decide⟩
abbrev sE_DuplicateName : Stmt := inClass (topS 4) 0
def dE_DuplicateName : Hk.DefE := ⟨"DuplicateName", "value", "value", sE_DuplicateName, "ValueError.__new__", "ValueError.__init__", "ValueError", [.type "ValueError", .type "Exception", .type "BaseException", .type "object"]⟩
theorem it_DuplicateName : Ox.IText (L2.defArgs sE_DuplicateName) (L2.defBody sE_DuplicateName) (L2.defScope sE_DuplicateName) "value" "value" := ⟨⟨_, _, rfl⟩, ⟨_, _, _, _, _, _, _, _, _, _, rfl, rfl⟩, rfl, rfl, rfl, rfl, by decide +kernel, rfl, rfl, rfl, by decide, by decide⟩
abbrev sE_TooMany : Stmt := inClass (topS 9) 0
def dE_TooMany : Hk.DefE := ⟨"TooMany", "limit", "limit", sE_TooMany, "OverflowError.__new__", "OverflowError.__init__", "OverflowError", [.type "OverflowError", .type "ArithmeticError", .type "Exception", .type "BaseException", .type "object"]⟩
theorem it_TooMany : Ox.IText (L2.defArgs sE_TooMany) (L2.defBody sE_TooMany) (L2.defScope sE_TooMany) "limit" "limit" := ⟨⟨_, _, rfl⟩, ⟨_, _, _, _, _, _, _, _, _, _, rfl, rfl⟩, rfl, rfl, rfl, rfl, by decide +kernel, rfl, rfl, rfl, by decide, by decide⟩
abbrev sE_UnknownName : Stmt := inClass (topS 8) 0
def dE_UnknownName : Hk.DefE := ⟨"UnknownName", "value", "value", sE_UnknownName, "LookupError.__new__", "KeyError.__init__", "KeyError", [.type "KeyError", .type "LookupError", .type "Exception", .type "BaseException", .type "object"]⟩
theorem it_UnknownName : Ox.IText (L2.defArgs sE_UnknownName) (L2.defBody sE_UnknownName) (L2.defScope sE_UnknownName) "value" "value" := ⟨⟨_, _, rfl⟩, ⟨_, _, _, _, _, _, _, _, _, _, rfl, rfl⟩, rfl, rfl, rfl, rfl, by decide +kernel, rfl, rfl, rfl, by decide, by decide⟩
def esL : List Hk.DefE := [dE_InvalidAction, dE_InvalidPainter, dE_DuplicateName, dE_TooMany, dE_UnknownName]
def dsL : List Hk.DicT := [("PARTS", ["come", "leave", "move", "swap"])]
def tfL : List (PySem.W.Frag → Addr) := [a_law]
structure Tx (K : PySem.W.Frag) (mg : Str → Option Value) : Prop where
  g_is_integer : mg "is_integer" = some (.ref (a_is_integer K))
  g_is_between : mg "is_between" = some (.ref (a_is_between K))
  g_is_name : mg "is_name" = some (.ref (a_is_name K))
  g_need_action : mg "need_action" = some (.ref (a_need_action K))
  g_replaced : mg "replaced" = some (.ref (a_replaced K))
  g_swapped : mg "swapped" = some (.ref (a_swapped K))
  g_after : mg "after" = some (.ref (a_after K))
  g__law_odd : mg "_law_odd" = some (.ref (a_Lodd K))
  g__law_shows : mg "_law_shows" = some (.ref (a_Lshows K))
  g__law_is_int : mg "_law_is_int" = some (.ref (a_Lis_int K))
  g__law_is_name : mg "_law_is_name" = some (.ref (a_Lis_name K))
  g__law_reason : mg "_law_reason" = some (.ref (a_Lreason K))
  g__law_absent : mg "_law_absent" = some (.ref (a_Labsent K))
  g__law_row_of : mg "_law_row_of" = some (.ref (a_Lrow_of K))
  g__law_act : mg "_law_act" = some (.ref (a_Lact K))
  g__law_is_action : mg "_law_is_action" = some (.ref (a_Lis_action K))
  g__law_is_in : mg "_law_is_in" = some (.ref (a_Lis_in K))
  g__law_one_step : mg "_law_one_step" = some (.ref (a_Lone_step K))
  g__law_steps : mg "_law_steps" = some (.ref (a_Lsteps K))
  g__law_is_error : mg "_law_is_error" = some (.ref (a_Lis_error K))
  g__law_drawn : mg "_law_drawn" = some (.ref (a_Ldrawn K))
  g__law_told : mg "_law_told" = some (.ref (a_Ltold K))
  g__law_pen : mg "_law_pen" = some (.ref (a_Lpen K))
  g__law_draw : mg "_law_draw" = some (.ref (a_Ldraw K))
  g__law_pick : mg "_law_pick" = some (.ref (a_Lpick K))
  g__law_around : mg "_law_around" = some (.ref (a_Laround K))
  g__law_names : mg "_law_names" = some (.ref (a_Lnames K))
  g__law_bent : mg "_law_bent" = some (.ref (a_Lbent K))
  g_law : mg "law" = some (.ref (a_law K))
  g_is_name_names : mg "is_name_names" = some (.ref (a_is_name K))
  g_Painter : mg "Painter" = some (.ref (He.ga K "Painter"))
  cl_Painter : Cls K (He.ga K "Painter")
  m_Painter : Mk K (He.ga K "Painter") (a_Painter_init K)
  ii_Painter : C8.InsC K (He.ga K "Painter")
  g_Fence : mg "Fence" = some (.ref (He.ga K "Fence"))
  cl_Fence : Cls K (He.ga K "Fence")
  m_Fence : Mk K (He.ga K "Fence") (a_Fence_init K)
  ii_Fence : C8.InsC K (He.ga K "Fence")
  g_Yard : mg "Yard" = some (.ref (He.ga K "Yard"))
  cl_Yard : Cls K (He.ga K "Yard")
  m_Yard : Mk K (He.ga K "Yard") (a_Yard_init K)
  ii_Yard : C8.InsC K (He.ga K "Yard")
  ow_Fence_contains : Hk.OwnD K (He.ga K "Fence") "__contains__" (He.ma K (He.ga K "Fence") "__contains__")
  ow_Fence_getitem : Hk.OwnD K (He.ga K "Fence") "__getitem__" (He.ma K (He.ga K "Fence") "__getitem__")
  ow_Fence_add : Hk.OwnD K (He.ga K "Fence") "__add__" (He.ma K (He.ga K "Fence") "__add__")
  ow_Fence_sub : Hk.OwnD K (He.ga K "Fence") "__sub__" (He.ma K (He.ga K "Fence") "__sub__")
  ow_Fence_len : Hk.OwnD K (He.ga K "Fence") "__len__" (He.ma K (He.ga K "Fence") "__len__")
  ow_Painter_add : Hk.OwnD K (He.ga K "Painter") "__add__" (He.ma K (He.ga K "Painter") "__add__")
  ow_Yard_len : Hk.OwnD K (He.ga K "Yard") "__len__" (He.ma K (He.ga K "Yard") "__len__")
  ad_Fence_Painter : Hk.AddD K (He.ga K "Fence") (He.ga K "Painter")
  no_Painter_parts : NoAttr K (He.ga K "Painter") "parts"
  no_Fence_listed : NoAttr K (He.ga K "Fence") "listed"
  no_Fence_places : NoAttr K (He.ga K "Fence") "places"
  no_Yard_done : NoAttr K (He.ga K "Yard") "done"
  no_Yard_waiting : NoAttr K (He.ga K "Yard") "waiting"
  co_Painter_MAX_DAY : ∃ u, Con K (He.ga K "Painter") "MAX_DAY" (.int 1000000000000000000000000000000) u
  co_Painter_MAX_POST : ∃ u, Con K (He.ga K "Painter") "MAX_POST" (.int 1000000000000000000000000000000) u
  co_Painter_MAX_STRIDE : ∃ u, Con K (He.ga K "Painter") "MAX_STRIDE" (.int 1000000000000000000) u
  pr_Painter_name : PropOf K (He.ga K "Painter") "name" (He.ma K (He.ga K "Painter") "name") (a_Painter_name K)
  pr_Painter_day : PropOf K (He.ga K "Painter") "day" (He.ma K (He.ga K "Painter") "day") (a_Painter_day K)
  pr_Painter_post : PropOf K (He.ga K "Painter") "post" (He.ma K (He.ga K "Painter") "post") (a_Painter_post K)
  pr_Painter_stride : PropOf K (He.ga K "Painter") "stride" (He.ma K (He.ga K "Painter") "stride") (a_Painter_stride K)
  pr_Fence_painters : PropOf K (He.ga K "Fence") "painters" (He.ma K (He.ga K "Fence") "painters") (a_Fence_painters K)
  pr_Yard_steps : PropOf K (He.ga K "Yard") "steps" (He.ma K (He.ga K "Yard") "steps") (a_Yard_steps K)
  pr_Yard_undoable : PropOf K (He.ga K "Yard") "undoable" (He.ma K (He.ga K "Yard") "undoable") (a_Yard_undoable K)
  me_Fence_need_name : Meth K (He.ga K "Fence") "need_name" (a_Fence_need_name K)
  me_Fence_without : Meth K (He.ga K "Fence") "without" (a_Fence_without K)
  me_Yard_fence_at : Meth K (He.ga K "Yard") "fence_at" (a_Yard_fence_at K)
  me_Yard_allow : Meth K (He.ga K "Yard") "allow" (a_Yard_allow K)
  me_Yard_fence_after : Meth K (He.ga K "Yard") "fence_after" (a_Yard_fence_after K)
  me_Yard_act : Meth K (He.ga K "Yard") "act" (a_Yard_act K)
  n_isinstance : mg "isinstance" = none
  n_int : mg "int" = none
  n_bool : mg "bool" = none
  n_str : mg "str" = none
  n_len : mg "len" = none
  n_all : mg "all" = none
  n_enumerate : mg "enumerate" = none
  n_tuple : mg "tuple" = none
  n_range : mg "range" = none
  n_list : mg "list" = none
  n_abs : mg "abs" = none
  n_min : mg "min" = none
  n_repr : mg "repr" = none
  n_ValueError : mg "ValueError" = none
  n_OverflowError : mg "OverflowError" = none
  n_KeyError : mg "KeyError" = none
  c_MAX_PAINTERS : ∃ u, mg "MAX_PAINTERS" = some u ∧ RelV (.int 40) u
  c_MAX_NAME : ∃ u, mg "MAX_NAME" = some u ∧ RelV (.int 8) u
  c_MAX_DIGITS : ∃ u, mg "MAX_DIGITS" = some u ∧ RelV (.int 80) u
  c_LETTERS : ∃ u, mg "LETTERS" = some u ∧ RelV (.str "abcdefghijklmnopqrstuvwxyz") u
  c_DIGITS : ∃ u, mg "DIGITS" = some u ∧ RelV (.str "0123456789") u
  x_InvalidAction : Ox.XTxt PP K (He.ga K "InvalidAction") "value" "ValueError.__new__" "ValueError.__init__" "ValueError" [.type "ValueError", .type "Exception", .type "BaseException", .type "object"]
  ec_InvalidAction : ExcC K (He.ga K "InvalidAction")
  g_InvalidAction : mg "InvalidAction" = some (.ref (He.ga K "InvalidAction"))
  x_InvalidPainter : Ox.XTxt PP K (He.ga K "InvalidPainter") "reason" "ValueError.__new__" "ValueError.__init__" "ValueError" [.type "ValueError", .type "Exception", .type "BaseException", .type "object"]
  ec_InvalidPainter : ExcC K (He.ga K "InvalidPainter")
  g_InvalidPainter : mg "InvalidPainter" = some (.ref (He.ga K "InvalidPainter"))
  x_DuplicateName : Ox.XTxt PP K (He.ga K "DuplicateName") "value" "ValueError.__new__" "ValueError.__init__" "ValueError" [.type "ValueError", .type "Exception", .type "BaseException", .type "object"]
  ec_DuplicateName : ExcC K (He.ga K "DuplicateName")
  g_DuplicateName : mg "DuplicateName" = some (.ref (He.ga K "DuplicateName"))
  x_TooMany : Ox.XTxt PP K (He.ga K "TooMany") "limit" "OverflowError.__new__" "OverflowError.__init__" "OverflowError" [.type "OverflowError", .type "ArithmeticError", .type "Exception", .type "BaseException", .type "object"]
  ec_TooMany : ExcC K (He.ga K "TooMany")
  g_TooMany : mg "TooMany" = some (.ref (He.ga K "TooMany"))
  x_UnknownName : Ox.XTxt PP K (He.ga K "UnknownName") "value" "LookupError.__new__" "KeyError.__init__" "KeyError" [.type "KeyError", .type "LookupError", .type "Exception", .type "BaseException", .type "object"]
  ec_UnknownName : ExcC K (He.ga K "UnknownName")
  g_UnknownName : mg "UnknownName" = some (.ref (He.ga K "UnknownName"))
  xm_InvalidAction_InvalidAction : PySem.W.exmOne K (.ref (He.ga K "InvalidAction")) (.ref (He.ga K "InvalidAction")) = some true
  xm_InvalidPainter_InvalidAction : PySem.W.exmOne K (.ref (He.ga K "InvalidPainter")) (.ref (He.ga K "InvalidAction")) = some false
  xm_InvalidPainter_InvalidPainter : PySem.W.exmOne K (.ref (He.ga K "InvalidPainter")) (.ref (He.ga K "InvalidPainter")) = some true
  xm_DuplicateName_InvalidAction : PySem.W.exmOne K (.ref (He.ga K "DuplicateName")) (.ref (He.ga K "InvalidAction")) = some false
  xm_DuplicateName_InvalidPainter : PySem.W.exmOne K (.ref (He.ga K "DuplicateName")) (.ref (He.ga K "InvalidPainter")) = some false
  xm_DuplicateName_DuplicateName : PySem.W.exmOne K (.ref (He.ga K "DuplicateName")) (.ref (He.ga K "DuplicateName")) = some true
  xm_TooMany_InvalidAction : PySem.W.exmOne K (.ref (He.ga K "TooMany")) (.ref (He.ga K "InvalidAction")) = some false
  xm_TooMany_InvalidPainter : PySem.W.exmOne K (.ref (He.ga K "TooMany")) (.ref (He.ga K "InvalidPainter")) = some false
  xm_TooMany_DuplicateName : PySem.W.exmOne K (.ref (He.ga K "TooMany")) (.ref (He.ga K "DuplicateName")) = some false
  xm_TooMany_TooMany : PySem.W.exmOne K (.ref (He.ga K "TooMany")) (.ref (He.ga K "TooMany")) = some true
  xm_UnknownName_InvalidAction : PySem.W.exmOne K (.ref (He.ga K "UnknownName")) (.ref (He.ga K "InvalidAction")) = some false
  xm_UnknownName_InvalidPainter : PySem.W.exmOne K (.ref (He.ga K "UnknownName")) (.ref (He.ga K "InvalidPainter")) = some false
  xm_UnknownName_DuplicateName : PySem.W.exmOne K (.ref (He.ga K "UnknownName")) (.ref (He.ga K "DuplicateName")) = some false
  xm_UnknownName_TooMany : PySem.W.exmOne K (.ref (He.ga K "UnknownName")) (.ref (He.ga K "TooMany")) = some false
  xm_UnknownName_UnknownName : PySem.W.exmOne K (.ref (He.ga K "UnknownName")) (.ref (He.ga K "UnknownName")) = some true
  kt_InvalidAction_ValueError : PySem.W.kitOne K (.ref (He.ga K "InvalidAction")) (.type "ValueError") = some true
  kt_InvalidPainter_ValueError : PySem.W.kitOne K (.ref (He.ga K "InvalidPainter")) (.type "ValueError") = some true
  kt_DuplicateName_ValueError : PySem.W.kitOne K (.ref (He.ga K "DuplicateName")) (.type "ValueError") = some true
  kt_TooMany_OverflowError : PySem.W.kitOne K (.ref (He.ga K "TooMany")) (.type "OverflowError") = some true
  kt_UnknownName_KeyError : PySem.W.kitOne K (.ref (He.ga K "UnknownName")) (.type "KeyError") = some true
  g_PARTS : mg "PARTS" = some (.ref (He.ga K "PARTS"))
  dv_PARTS_come : ∃ u, PySem.W.nsIn K (He.ga K "PARTS") "come" = some (some u) ∧ RelV (.int 5) u
  dv_PARTS_leave : ∃ u, PySem.W.nsIn K (He.ga K "PARTS") "leave" = some (some u) ∧ RelV (.int 2) u
  dv_PARTS_move : ∃ u, PySem.W.nsIn K (He.ga K "PARTS") "move" = some (some u) ∧ RelV (.int 4) u
  dv_PARTS_swap : ∃ u, PySem.W.nsIn K (He.ga K "PARTS") "swap" = some (some u) ∧ RelV (.int 3) u
  sysm : ∃ o, K.lookup sysModules = some o
  nor_Fence : PySem.W.findIn K (.ref (He.ga K "Fence")) (PySem.dunderR "sub") = some none
  f_is_integer : FnP_is_integer K
  k_is_integer : PySem.W.keepIn K (.ref (a_is_integer K)) = true
  f_is_between : FnP_is_between K
  k_is_between : PySem.W.keepIn K (.ref (a_is_between K)) = true
  f_is_name : FnP_is_name K
  k_is_name : PySem.W.keepIn K (.ref (a_is_name K)) = true
  f_Painter_init : FnP_Painter_init K
  k_Painter_init : PySem.W.keepIn K (.ref (a_Painter_init K)) = true
  f_Painter_name : FnP_Painter_name K
  k_Painter_name : PySem.W.keepIn K (.ref (a_Painter_name K)) = true
  f_Painter_day : FnP_Painter_day K
  k_Painter_day : PySem.W.keepIn K (.ref (a_Painter_day K)) = true
  f_Painter_post : FnP_Painter_post K
  k_Painter_post : PySem.W.keepIn K (.ref (a_Painter_post K)) = true
  f_Painter_stride : FnP_Painter_stride K
  k_Painter_stride : PySem.W.keepIn K (.ref (a_Painter_stride K)) = true
  f_Fence_init : FnP_Fence_init K
  k_Fence_init : PySem.W.keepIn K (.ref (a_Fence_init K)) = true
  f_Fence_painters : FnP_Fence_painters K
  k_Fence_painters : PySem.W.keepIn K (.ref (a_Fence_painters K)) = true
  f_Fence_need_name : FnP_Fence_need_name K
  k_Fence_need_name : PySem.W.keepIn K (.ref (a_Fence_need_name K)) = true
  f_Fence_len : FnP_Fence_len K
  k_Fence_len : PySem.W.keepIn K (.ref (a_Fence_len K)) = true
  f_Fence_contains : FnP_Fence_contains K
  k_Fence_contains : PySem.W.keepIn K (.ref (a_Fence_contains K)) = true
  f_Fence_getitem : FnP_Fence_getitem K
  k_Fence_getitem : PySem.W.keepIn K (.ref (a_Fence_getitem K)) = true
  f_Fence_add : FnP_Fence_add K
  k_Fence_add : PySem.W.keepIn K (.ref (a_Fence_add K)) = true
  f_Fence_sub : FnP_Fence_sub K
  k_Fence_sub : PySem.W.keepIn K (.ref (a_Fence_sub K)) = true
  f_Fence_without : FnP_Fence_without K
  k_Fence_without : PySem.W.keepIn K (.ref (a_Fence_without K)) = true
  f_need_action : FnP_need_action K
  k_need_action : PySem.W.keepIn K (.ref (a_need_action K)) = true
  f_replaced : FnP_replaced K
  k_replaced : PySem.W.keepIn K (.ref (a_replaced K)) = true
  f_swapped : FnP_swapped K
  k_swapped : PySem.W.keepIn K (.ref (a_swapped K)) = true
  f_after : FnP_after K
  k_after : PySem.W.keepIn K (.ref (a_after K)) = true
  f_Yard_init : FnP_Yard_init K
  k_Yard_init : PySem.W.keepIn K (.ref (a_Yard_init K)) = true
  f_Yard_len : FnP_Yard_len K
  k_Yard_len : PySem.W.keepIn K (.ref (a_Yard_len K)) = true
  f_Yard_steps : FnP_Yard_steps K
  k_Yard_steps : PySem.W.keepIn K (.ref (a_Yard_steps K)) = true
  f_Yard_undoable : FnP_Yard_undoable K
  k_Yard_undoable : PySem.W.keepIn K (.ref (a_Yard_undoable K)) = true
  f_Yard_fence_at : FnP_Yard_fence_at K
  k_Yard_fence_at : PySem.W.keepIn K (.ref (a_Yard_fence_at K)) = true
  f_Yard_allow : FnP_Yard_allow K
  k_Yard_allow : PySem.W.keepIn K (.ref (a_Yard_allow K)) = true
  f_Yard_fence_after : FnP_Yard_fence_after K
  k_Yard_fence_after : PySem.W.keepIn K (.ref (a_Yard_fence_after K)) = true
  f_Yard_act : FnP_Yard_act K
  k_Yard_act : PySem.W.keepIn K (.ref (a_Yard_act K)) = true
  f_Lodd : FnP_Lodd K
  k_Lodd : PySem.W.keepIn K (.ref (a_Lodd K)) = true
  f_Lshows : FnP_Lshows K
  k_Lshows : PySem.W.keepIn K (.ref (a_Lshows K)) = true
  f_Lis_int : FnP_Lis_int K
  k_Lis_int : PySem.W.keepIn K (.ref (a_Lis_int K)) = true
  f_Lis_name : FnP_Lis_name K
  k_Lis_name : PySem.W.keepIn K (.ref (a_Lis_name K)) = true
  f_Lreason : FnP_Lreason K
  k_Lreason : PySem.W.keepIn K (.ref (a_Lreason K)) = true
  f_Labsent : FnP_Labsent K
  k_Labsent : PySem.W.keepIn K (.ref (a_Labsent K)) = true
  f_Lrow_of : FnP_Lrow_of K
  k_Lrow_of : PySem.W.keepIn K (.ref (a_Lrow_of K)) = true
  f_Lact : FnP_Lact K
  k_Lact : PySem.W.keepIn K (.ref (a_Lact K)) = true
  f_Lis_action : FnP_Lis_action K
  k_Lis_action : PySem.W.keepIn K (.ref (a_Lis_action K)) = true
  f_Lis_in : FnP_Lis_in K
  k_Lis_in : PySem.W.keepIn K (.ref (a_Lis_in K)) = true
  f_Lone_step : FnP_Lone_step K
  k_Lone_step : PySem.W.keepIn K (.ref (a_Lone_step K)) = true
  f_Lsteps : FnP_Lsteps K
  k_Lsteps : PySem.W.keepIn K (.ref (a_Lsteps K)) = true
  f_Lis_error : FnP_Lis_error K
  k_Lis_error : PySem.W.keepIn K (.ref (a_Lis_error K)) = true
  f_Ldrawn : FnP_Ldrawn K
  k_Ldrawn : PySem.W.keepIn K (.ref (a_Ldrawn K)) = true
  f_Ltold : FnP_Ltold K
  k_Ltold : PySem.W.keepIn K (.ref (a_Ltold K)) = true
  f_Lpen : FnP_Lpen K
  k_Lpen : PySem.W.keepIn K (.ref (a_Lpen K)) = true
  f_Ldraw : FnP_Ldraw K
  k_Ldraw : PySem.W.keepIn K (.ref (a_Ldraw K)) = true
  f_Lpick : FnP_Lpick K
  k_Lpick : PySem.W.keepIn K (.ref (a_Lpick K)) = true
  f_Laround : FnP_Laround K
  k_Laround : PySem.W.keepIn K (.ref (a_Laround K)) = true
  f_Lnames : FnP_Lnames K
  k_Lnames : PySem.W.keepIn K (.ref (a_Lnames K)) = true
  f_Lbent : FnP_Lbent K
  k_Lbent : PySem.W.keepIn K (.ref (a_Lbent K)) = true
  f_law : FnP_law K
  k_law : PySem.W.keepIn K (.ref (a_law K)) = true
def ckL : List (PySem.W.Frag → Bool) := [
  fun K => Hk.gloB K "is_integer",
  fun K => Hk.gloB K "is_between",
  fun K => Hk.gloB K "is_name",
  fun K => Hk.gloB K "need_action",
  fun K => Hk.gloB K "replaced",
  fun K => Hk.gloB K "swapped",
  fun K => Hk.gloB K "after",
  fun K => Hk.gloB K "_law_odd",
  fun K => Hk.gloB K "_law_shows",
  fun K => Hk.gloB K "_law_is_int",
  fun K => Hk.gloB K "_law_is_name",
  fun K => Hk.gloB K "_law_reason",
  fun K => Hk.gloB K "_law_absent",
  fun K => Hk.gloB K "_law_row_of",
  fun K => Hk.gloB K "_law_act",
  fun K => Hk.gloB K "_law_is_action",
  fun K => Hk.gloB K "_law_is_in",
  fun K => Hk.gloB K "_law_one_step",
  fun K => Hk.gloB K "_law_steps",
  fun K => Hk.gloB K "_law_is_error",
  fun K => Hk.gloB K "_law_drawn",
  fun K => Hk.gloB K "_law_told",
  fun K => Hk.gloB K "_law_pen",
  fun K => Hk.gloB K "_law_draw",
  fun K => Hk.gloB K "_law_pick",
  fun K => Hk.gloB K "_law_around",
  fun K => Hk.gloB K "_law_names",
  fun K => Hk.gloB K "_law_bent",
  fun K => Hk.gloB K "law",
  fun K => Hk.aliB K "is_name_names" "is_name",
  fun K => Hk.gloB K "Painter",
  fun K => Hk.clsB K "Painter",
  fun K => Hk.mkrB K "Painter",
  fun K => Hk.insB K "Painter",
  fun K => Hk.gloB K "Fence",
  fun K => Hk.clsB K "Fence",
  fun K => Hk.mkrB K "Fence",
  fun K => Hk.insB K "Fence",
  fun K => Hk.gloB K "Yard",
  fun K => Hk.clsB K "Yard",
  fun K => Hk.mkrB K "Yard",
  fun K => Hk.insB K "Yard",
  fun K => Hk.ownB K "Fence" "__contains__",
  fun K => Hk.ownB K "Fence" "__getitem__",
  fun K => Hk.ownB K "Fence" "__add__",
  fun K => Hk.ownB K "Fence" "__sub__",
  fun K => Hk.ownB K "Fence" "__len__",
  fun K => Hk.ownB K "Painter" "__add__",
  fun K => Hk.ownB K "Yard" "__len__",
  fun K => Hk.addB K "Fence" "Painter",
  fun K => Hk.noatB K "Painter" "parts",
  fun K => Hk.noatB K "Fence" "listed",
  fun K => Hk.noatB K "Fence" "places",
  fun K => Hk.noatB K "Yard" "done",
  fun K => Hk.noatB K "Yard" "waiting",
  fun K => Hk.conB K (He.ga K "Painter") "MAX_DAY" 1000000000000000000000000000000,
  fun K => Hk.conB K (He.ga K "Painter") "MAX_POST" 1000000000000000000000000000000,
  fun K => Hk.conB K (He.ga K "Painter") "MAX_STRIDE" 1000000000000000000,
  fun K => Hk.propB K (He.ga K "Painter") "name",
  fun K => Hk.propB K (He.ga K "Painter") "day",
  fun K => Hk.propB K (He.ga K "Painter") "post",
  fun K => Hk.propB K (He.ga K "Painter") "stride",
  fun K => Hk.propB K (He.ga K "Fence") "painters",
  fun K => Hk.propB K (He.ga K "Yard") "steps",
  fun K => Hk.propB K (He.ga K "Yard") "undoable",
  fun K => Hk.methB K "Fence" "need_name",
  fun K => Hk.methB K "Fence" "without",
  fun K => Hk.methB K "Yard" "fence_at",
  fun K => Hk.methB K "Yard" "allow",
  fun K => Hk.methB K "Yard" "fence_after",
  fun K => Hk.methB K "Yard" "act",
  fun K => Hk.freeB K "isinstance",
  fun K => Hk.freeB K "int",
  fun K => Hk.freeB K "bool",
  fun K => Hk.freeB K "str",
  fun K => Hk.freeB K "len",
  fun K => Hk.freeB K "all",
  fun K => Hk.freeB K "enumerate",
  fun K => Hk.freeB K "tuple",
  fun K => Hk.freeB K "range",
  fun K => Hk.freeB K "list",
  fun K => Hk.freeB K "abs",
  fun K => Hk.freeB K "min",
  fun K => Hk.freeB K "repr",
  fun K => Hk.freeB K "ValueError",
  fun K => Hk.freeB K "OverflowError",
  fun K => Hk.freeB K "KeyError",
  fun K => Hk.intB K "MAX_PAINTERS" 40,
  fun K => Hk.intB K "MAX_NAME" 8,
  fun K => Hk.intB K "MAX_DIGITS" 80,
  fun K => Hk.strB K "LETTERS" "abcdefghijklmnopqrstuvwxyz",
  fun K => Hk.strB K "DIGITS" "0123456789",
  fun K => Hk.oxB mainFile dE_InvalidAction K,
  fun K => Hk.excCB "InvalidAction" K,
  fun K => Hk.gloB K "InvalidAction",
  fun K => Hk.oxB mainFile dE_InvalidPainter K,
  fun K => Hk.excCB "InvalidPainter" K,
  fun K => Hk.gloB K "InvalidPainter",
  fun K => Hk.oxB mainFile dE_DuplicateName K,
  fun K => Hk.excCB "DuplicateName" K,
  fun K => Hk.gloB K "DuplicateName",
  fun K => Hk.oxB mainFile dE_TooMany K,
  fun K => Hk.excCB "TooMany" K,
  fun K => Hk.gloB K "TooMany",
  fun K => Hk.oxB mainFile dE_UnknownName K,
  fun K => Hk.excCB "UnknownName" K,
  fun K => Hk.gloB K "UnknownName",
  fun K => Hk.exmB "InvalidAction" "InvalidAction" true K,
  fun K => Hk.exmB "InvalidPainter" "InvalidAction" false K,
  fun K => Hk.exmB "InvalidPainter" "InvalidPainter" true K,
  fun K => Hk.exmB "DuplicateName" "InvalidAction" false K,
  fun K => Hk.exmB "DuplicateName" "InvalidPainter" false K,
  fun K => Hk.exmB "DuplicateName" "DuplicateName" true K,
  fun K => Hk.exmB "TooMany" "InvalidAction" false K,
  fun K => Hk.exmB "TooMany" "InvalidPainter" false K,
  fun K => Hk.exmB "TooMany" "DuplicateName" false K,
  fun K => Hk.exmB "TooMany" "TooMany" true K,
  fun K => Hk.exmB "UnknownName" "InvalidAction" false K,
  fun K => Hk.exmB "UnknownName" "InvalidPainter" false K,
  fun K => Hk.exmB "UnknownName" "DuplicateName" false K,
  fun K => Hk.exmB "UnknownName" "TooMany" false K,
  fun K => Hk.exmB "UnknownName" "UnknownName" true K,
  fun K => Hk.kitB "InvalidAction" "ValueError" true K,
  fun K => Hk.kitB "InvalidPainter" "ValueError" true K,
  fun K => Hk.kitB "DuplicateName" "ValueError" true K,
  fun K => Hk.kitB "TooMany" "OverflowError" true K,
  fun K => Hk.kitB "UnknownName" "KeyError" true K,
  fun K => Hk.gloB K "PARTS",
  fun K => Hk.dvalB "PARTS" "come" 5 K,
  fun K => Hk.dvalB "PARTS" "leave" 2 K,
  fun K => Hk.dvalB "PARTS" "move" 4 K,
  fun K => Hk.dvalB "PARTS" "swap" 3 K,
  fun K => Hk.sysB K,
  fun K => Hk.norB K "Fence"]
def ck (K : PySem.W.Frag) : Bool := ckL.all fun f => f K
theorem ck_at {K : PySem.W.Frag} (h : ck K = true) (i : Nat) {f : PySem.W.Frag → Bool} (e : ckL[i]? = some f := by rfl) : f K = true := List.all_eq_true.mp h f (List.mem_of_getElem? e)
theorem tx_of {K : PySem.W.Frag} {h : Heap} {mg : Str → Option Value} (X : K.In h) (G : h.Ns mainGlobals mg) (c : Hk.SaysT ck fnL esL tfL K h) : Tx K mg where
  g_is_integer := Hk.glo_of X G (ck_at c.1.ck_ 0)
  g_is_between := Hk.glo_of X G (ck_at c.1.ck_ 1)
  g_is_name := Hk.glo_of X G (ck_at c.1.ck_ 2)
  g_need_action := Hk.glo_of X G (ck_at c.1.ck_ 3)
  g_replaced := Hk.glo_of X G (ck_at c.1.ck_ 4)
  g_swapped := Hk.glo_of X G (ck_at c.1.ck_ 5)
  g_after := Hk.glo_of X G (ck_at c.1.ck_ 6)
  g__law_odd := Hk.glo_of X G (ck_at c.1.ck_ 7)
  g__law_shows := Hk.glo_of X G (ck_at c.1.ck_ 8)
  g__law_is_int := Hk.glo_of X G (ck_at c.1.ck_ 9)
  g__law_is_name := Hk.glo_of X G (ck_at c.1.ck_ 10)
  g__law_reason := Hk.glo_of X G (ck_at c.1.ck_ 11)
  g__law_absent := Hk.glo_of X G (ck_at c.1.ck_ 12)
  g__law_row_of := Hk.glo_of X G (ck_at c.1.ck_ 13)
  g__law_act := Hk.glo_of X G (ck_at c.1.ck_ 14)
  g__law_is_action := Hk.glo_of X G (ck_at c.1.ck_ 15)
  g__law_is_in := Hk.glo_of X G (ck_at c.1.ck_ 16)
  g__law_one_step := Hk.glo_of X G (ck_at c.1.ck_ 17)
  g__law_steps := Hk.glo_of X G (ck_at c.1.ck_ 18)
  g__law_is_error := Hk.glo_of X G (ck_at c.1.ck_ 19)
  g__law_drawn := Hk.glo_of X G (ck_at c.1.ck_ 20)
  g__law_told := Hk.glo_of X G (ck_at c.1.ck_ 21)
  g__law_pen := Hk.glo_of X G (ck_at c.1.ck_ 22)
  g__law_draw := Hk.glo_of X G (ck_at c.1.ck_ 23)
  g__law_pick := Hk.glo_of X G (ck_at c.1.ck_ 24)
  g__law_around := Hk.glo_of X G (ck_at c.1.ck_ 25)
  g__law_names := Hk.glo_of X G (ck_at c.1.ck_ 26)
  g__law_bent := Hk.glo_of X G (ck_at c.1.ck_ 27)
  g_law := Hk.glo_of X G (ck_at c.1.ck_ 28)
  g_is_name_names := Hk.ali_of X G (ck_at c.1.ck_ 29)
  g_Painter := Hk.glo_of X G (ck_at c.1.ck_ 30)
  cl_Painter := He.cls_ok (ck_at c.1.ck_ 31)
  m_Painter := He.mkr_ok (ck_at c.1.ck_ 32)
  ii_Painter := Hk.ins_of (ck_at c.1.ck_ 33)
  g_Fence := Hk.glo_of X G (ck_at c.1.ck_ 34)
  cl_Fence := He.cls_ok (ck_at c.1.ck_ 35)
  m_Fence := He.mkr_ok (ck_at c.1.ck_ 36)
  ii_Fence := Hk.ins_of (ck_at c.1.ck_ 37)
  g_Yard := Hk.glo_of X G (ck_at c.1.ck_ 38)
  cl_Yard := He.cls_ok (ck_at c.1.ck_ 39)
  m_Yard := He.mkr_ok (ck_at c.1.ck_ 40)
  ii_Yard := Hk.ins_of (ck_at c.1.ck_ 41)
  ow_Fence_contains := Hk.own_of (ck_at c.1.ck_ 42)
  ow_Fence_getitem := Hk.own_of (ck_at c.1.ck_ 43)
  ow_Fence_add := Hk.own_of (ck_at c.1.ck_ 44)
  ow_Fence_sub := Hk.own_of (ck_at c.1.ck_ 45)
  ow_Fence_len := Hk.own_of (ck_at c.1.ck_ 46)
  ow_Painter_add := Hk.own_of (ck_at c.1.ck_ 47)
  ow_Yard_len := Hk.own_of (ck_at c.1.ck_ 48)
  ad_Fence_Painter := Hk.add_of (ck_at c.1.ck_ 49)
  no_Painter_parts := He.noat_ok (ck_at c.1.ck_ 50)
  no_Fence_listed := He.noat_ok (ck_at c.1.ck_ 51)
  no_Fence_places := He.noat_ok (ck_at c.1.ck_ 52)
  no_Yard_done := He.noat_ok (ck_at c.1.ck_ 53)
  no_Yard_waiting := He.noat_ok (ck_at c.1.ck_ 54)
  co_Painter_MAX_DAY := Hk.con_of (ck_at c.1.ck_ 55)
  co_Painter_MAX_POST := Hk.con_of (ck_at c.1.ck_ 56)
  co_Painter_MAX_STRIDE := Hk.con_of (ck_at c.1.ck_ 57)
  pr_Painter_name := Hk.prop_of (ck_at c.1.ck_ 58)
  pr_Painter_day := Hk.prop_of (ck_at c.1.ck_ 59)
  pr_Painter_post := Hk.prop_of (ck_at c.1.ck_ 60)
  pr_Painter_stride := Hk.prop_of (ck_at c.1.ck_ 61)
  pr_Fence_painters := Hk.prop_of (ck_at c.1.ck_ 62)
  pr_Yard_steps := Hk.prop_of (ck_at c.1.ck_ 63)
  pr_Yard_undoable := Hk.prop_of (ck_at c.1.ck_ 64)
  me_Fence_need_name := He.meth_ok (ck_at c.1.ck_ 65)
  me_Fence_without := He.meth_ok (ck_at c.1.ck_ 66)
  me_Yard_fence_at := He.meth_ok (ck_at c.1.ck_ 67)
  me_Yard_allow := He.meth_ok (ck_at c.1.ck_ 68)
  me_Yard_fence_after := He.meth_ok (ck_at c.1.ck_ 69)
  me_Yard_act := He.meth_ok (ck_at c.1.ck_ 70)
  n_isinstance := Hk.free_of X G (ck_at c.1.ck_ 71)
  n_int := Hk.free_of X G (ck_at c.1.ck_ 72)
  n_bool := Hk.free_of X G (ck_at c.1.ck_ 73)
  n_str := Hk.free_of X G (ck_at c.1.ck_ 74)
  n_len := Hk.free_of X G (ck_at c.1.ck_ 75)
  n_all := Hk.free_of X G (ck_at c.1.ck_ 76)
  n_enumerate := Hk.free_of X G (ck_at c.1.ck_ 77)
  n_tuple := Hk.free_of X G (ck_at c.1.ck_ 78)
  n_range := Hk.free_of X G (ck_at c.1.ck_ 79)
  n_list := Hk.free_of X G (ck_at c.1.ck_ 80)
  n_abs := Hk.free_of X G (ck_at c.1.ck_ 81)
  n_min := Hk.free_of X G (ck_at c.1.ck_ 82)
  n_repr := Hk.free_of X G (ck_at c.1.ck_ 83)
  n_ValueError := Hk.free_of X G (ck_at c.1.ck_ 84)
  n_OverflowError := Hk.free_of X G (ck_at c.1.ck_ 85)
  n_KeyError := Hk.free_of X G (ck_at c.1.ck_ 86)
  c_MAX_PAINTERS := Hk.int_of X G (ck_at c.1.ck_ 87)
  c_MAX_NAME := Hk.int_of X G (ck_at c.1.ck_ 88)
  c_MAX_DIGITS := Hk.int_of X G (ck_at c.1.ck_ 89)
  c_LETTERS := Hk.str_of X G (ck_at c.1.ck_ 90)
  c_DIGITS := Hk.str_of X G (ck_at c.1.ck_ 91)
  x_InvalidAction := Hk.ox_of (P := PP) (mf := mainFile) (d := dE_InvalidAction) (ck_at c.1.ck_ 92) (c.err 0) it_InvalidAction (fun _ _ _ _ _ _ _ _ _ => rfl) rfl (by decide +kernel)
  ec_InvalidAction := Hk.excC_of (ck_at c.1.ck_ 93)
  g_InvalidAction := Hk.glo_of X G (ck_at c.1.ck_ 94)
  x_InvalidPainter := Hk.ox_of (P := PP) (mf := mainFile) (d := dE_InvalidPainter) (ck_at c.1.ck_ 95) (c.err 1) it_InvalidPainter (fun _ _ _ _ _ _ _ _ _ => rfl) rfl (by decide +kernel)
  ec_InvalidPainter := Hk.excC_of (ck_at c.1.ck_ 96)
  g_InvalidPainter := Hk.glo_of X G (ck_at c.1.ck_ 97)
  x_DuplicateName := Hk.ox_of (P := PP) (mf := mainFile) (d := dE_DuplicateName) (ck_at c.1.ck_ 98) (c.err 2) it_DuplicateName (fun _ _ _ _ _ _ _ _ _ => rfl) rfl (by decide +kernel)
  ec_DuplicateName := Hk.excC_of (ck_at c.1.ck_ 99)
  g_DuplicateName := Hk.glo_of X G (ck_at c.1.ck_ 100)
  x_TooMany := Hk.ox_of (P := PP) (mf := mainFile) (d := dE_TooMany) (ck_at c.1.ck_ 101) (c.err 3) it_TooMany (fun _ _ _ _ _ _ _ _ _ => rfl) rfl (by decide +kernel)
  ec_TooMany := Hk.excC_of (ck_at c.1.ck_ 102)
  g_TooMany := Hk.glo_of X G (ck_at c.1.ck_ 103)
  x_UnknownName := Hk.ox_of (P := PP) (mf := mainFile) (d := dE_UnknownName) (ck_at c.1.ck_ 104) (c.err 4) it_UnknownName (fun _ _ _ _ _ _ _ _ _ => rfl) rfl (by decide +kernel)
  ec_UnknownName := Hk.excC_of (ck_at c.1.ck_ 105)
  g_UnknownName := Hk.glo_of X G (ck_at c.1.ck_ 106)
  xm_InvalidAction_InvalidAction := Hk.exm_of (ck_at c.1.ck_ 107)
  xm_InvalidPainter_InvalidAction := Hk.exm_of (ck_at c.1.ck_ 108)
  xm_InvalidPainter_InvalidPainter := Hk.exm_of (ck_at c.1.ck_ 109)
  xm_DuplicateName_InvalidAction := Hk.exm_of (ck_at c.1.ck_ 110)
  xm_DuplicateName_InvalidPainter := Hk.exm_of (ck_at c.1.ck_ 111)
  xm_DuplicateName_DuplicateName := Hk.exm_of (ck_at c.1.ck_ 112)
  xm_TooMany_InvalidAction := Hk.exm_of (ck_at c.1.ck_ 113)
  xm_TooMany_InvalidPainter := Hk.exm_of (ck_at c.1.ck_ 114)
  xm_TooMany_DuplicateName := Hk.exm_of (ck_at c.1.ck_ 115)
  xm_TooMany_TooMany := Hk.exm_of (ck_at c.1.ck_ 116)
  xm_UnknownName_InvalidAction := Hk.exm_of (ck_at c.1.ck_ 117)
  xm_UnknownName_InvalidPainter := Hk.exm_of (ck_at c.1.ck_ 118)
  xm_UnknownName_DuplicateName := Hk.exm_of (ck_at c.1.ck_ 119)
  xm_UnknownName_TooMany := Hk.exm_of (ck_at c.1.ck_ 120)
  xm_UnknownName_UnknownName := Hk.exm_of (ck_at c.1.ck_ 121)
  kt_InvalidAction_ValueError := Hk.kit_of' (ck_at c.1.ck_ 122)
  kt_InvalidPainter_ValueError := Hk.kit_of' (ck_at c.1.ck_ 123)
  kt_DuplicateName_ValueError := Hk.kit_of' (ck_at c.1.ck_ 124)
  kt_TooMany_OverflowError := Hk.kit_of' (ck_at c.1.ck_ 125)
  kt_UnknownName_KeyError := Hk.kit_of' (ck_at c.1.ck_ 126)
  g_PARTS := Hk.glo_of X G (ck_at c.1.ck_ 127)
  dv_PARTS_come := Hk.dval_of (ck_at c.1.ck_ 128)
  dv_PARTS_leave := Hk.dval_of (ck_at c.1.ck_ 129)
  dv_PARTS_move := Hk.dval_of (ck_at c.1.ck_ 130)
  dv_PARTS_swap := Hk.dval_of (ck_at c.1.ck_ 131)
  sysm := Hk.sys_of (ck_at c.1.ck_ 132)
  nor_Fence := Hk.nor_of (ck_at c.1.ck_ 133)
  f_is_integer := c.1.def_ 0
  k_is_integer := (c.1.def_ 0).elim fun _ F => F.kp
  f_is_between := c.1.def_ 1
  k_is_between := (c.1.def_ 1).elim fun _ F => F.kp
  f_is_name := c.1.def_ 2
  k_is_name := (c.1.def_ 2).elim fun _ F => F.kp
  f_Painter_init := c.1.def_ 3
  k_Painter_init := (c.1.def_ 3).elim fun _ F => F.kp
  f_Painter_name := c.1.def_ 4
  k_Painter_name := (c.1.def_ 4).elim fun _ F => F.kp
  f_Painter_day := c.1.def_ 5
  k_Painter_day := (c.1.def_ 5).elim fun _ F => F.kp
  f_Painter_post := c.1.def_ 6
  k_Painter_post := (c.1.def_ 6).elim fun _ F => F.kp
  f_Painter_stride := c.1.def_ 7
  k_Painter_stride := (c.1.def_ 7).elim fun _ F => F.kp
  f_Fence_init := c.1.def_ 8
  k_Fence_init := (c.1.def_ 8).elim fun _ F => F.kp
  f_Fence_painters := c.1.def_ 9
  k_Fence_painters := (c.1.def_ 9).elim fun _ F => F.kp
  f_Fence_need_name := c.1.def_ 10
  k_Fence_need_name := (c.1.def_ 10).elim fun _ F => F.kp
  f_Fence_len := c.1.def_ 11
  k_Fence_len := (c.1.def_ 11).elim fun _ F => F.kp
  f_Fence_contains := c.1.def_ 12
  k_Fence_contains := (c.1.def_ 12).elim fun _ F => F.kp
  f_Fence_getitem := c.1.def_ 13
  k_Fence_getitem := (c.1.def_ 13).elim fun _ F => F.kp
  f_Fence_add := c.1.def_ 14
  k_Fence_add := (c.1.def_ 14).elim fun _ F => F.kp
  f_Fence_sub := c.1.def_ 15
  k_Fence_sub := (c.1.def_ 15).elim fun _ F => F.kp
  f_Fence_without := c.1.def_ 16
  k_Fence_without := (c.1.def_ 16).elim fun _ F => F.kp
  f_need_action := c.1.def_ 17
  k_need_action := (c.1.def_ 17).elim fun _ F => F.kp
  f_replaced := c.1.def_ 18
  k_replaced := (c.1.def_ 18).elim fun _ F => F.kp
  f_swapped := c.1.def_ 19
  k_swapped := (c.1.def_ 19).elim fun _ F => F.kp
  f_after := c.1.def_ 20
  k_after := (c.1.def_ 20).elim fun _ F => F.kp
  f_Yard_init := c.1.def_ 21
  k_Yard_init := (c.1.def_ 21).elim fun _ F => F.kp
  f_Yard_len := c.1.def_ 22
  k_Yard_len := (c.1.def_ 22).elim fun _ F => F.kp
  f_Yard_steps := c.1.def_ 23
  k_Yard_steps := (c.1.def_ 23).elim fun _ F => F.kp
  f_Yard_undoable := c.1.def_ 24
  k_Yard_undoable := (c.1.def_ 24).elim fun _ F => F.kp
  f_Yard_fence_at := c.1.def_ 25
  k_Yard_fence_at := (c.1.def_ 25).elim fun _ F => F.kp
  f_Yard_allow := c.1.def_ 26
  k_Yard_allow := (c.1.def_ 26).elim fun _ F => F.kp
  f_Yard_fence_after := c.1.def_ 27
  k_Yard_fence_after := (c.1.def_ 27).elim fun _ F => F.kp
  f_Yard_act := c.1.def_ 28
  k_Yard_act := (c.1.def_ 28).elim fun _ F => F.kp
  f_Lodd := c.1.def_ 29
  k_Lodd := (c.1.def_ 29).elim fun _ F => F.kp
  f_Lshows := c.1.def_ 30
  k_Lshows := (c.1.def_ 30).elim fun _ F => F.kp
  f_Lis_int := c.1.def_ 31
  k_Lis_int := (c.1.def_ 31).elim fun _ F => F.kp
  f_Lis_name := c.1.def_ 32
  k_Lis_name := (c.1.def_ 32).elim fun _ F => F.kp
  f_Lreason := c.1.def_ 33
  k_Lreason := (c.1.def_ 33).elim fun _ F => F.kp
  f_Labsent := c.1.def_ 34
  k_Labsent := (c.1.def_ 34).elim fun _ F => F.kp
  f_Lrow_of := c.1.def_ 35
  k_Lrow_of := (c.1.def_ 35).elim fun _ F => F.kp
  f_Lact := c.1.def_ 36
  k_Lact := (c.1.def_ 36).elim fun _ F => F.kp
  f_Lis_action := c.1.def_ 37
  k_Lis_action := (c.1.def_ 37).elim fun _ F => F.kp
  f_Lis_in := c.1.def_ 38
  k_Lis_in := (c.1.def_ 38).elim fun _ F => F.kp
  f_Lone_step := c.1.def_ 39
  k_Lone_step := (c.1.def_ 39).elim fun _ F => F.kp
  f_Lsteps := c.1.def_ 40
  k_Lsteps := (c.1.def_ 40).elim fun _ F => F.kp
  f_Lis_error := c.1.def_ 41
  k_Lis_error := (c.1.def_ 41).elim fun _ F => F.kp
  f_Ldrawn := c.1.def_ 42
  k_Ldrawn := (c.1.def_ 42).elim fun _ F => F.kp
  f_Ltold := c.1.def_ 43
  k_Ltold := (c.1.def_ 43).elim fun _ F => F.kp
  f_Lpen := c.1.def_ 44
  k_Lpen := (c.1.def_ 44).elim fun _ F => F.kp
  f_Ldraw := c.1.def_ 45
  k_Ldraw := (c.1.def_ 45).elim fun _ F => F.kp
  f_Lpick := c.1.def_ 46
  k_Lpick := (c.1.def_ 46).elim fun _ F => F.kp
  f_Laround := c.1.def_ 47
  k_Laround := (c.1.def_ 47).elim fun _ F => F.kp
  f_Lnames := c.1.def_ 48
  k_Lnames := (c.1.def_ 48).elim fun _ F => F.kp
  f_Lbent := c.1.def_ 49
  k_Lbent := (c.1.def_ 49).elim fun _ F => F.kp
  f_law := c.1.def_ 50
  k_law := (c.1.def_ 50).elim fun _ F => F.kp
def loose0 : List PySem.Str := ["_wall", "InvalidPainter", "InvalidFence", "DuplicateName", "InvalidAction", "Blocked", "ParseError", "UnknownName", "TooMany", "NothingToUndo", "NothingToRedo", "InvalidVersion", "MAX_PAINTERS", "MAX_NAME", "MAX_DIGITS", "is_integer", "is_between", "LETTERS", "is_name", "is_name_names", "DIGITS", "integer_in", "painter_line", "painter_parts", "Painter", "Fence", "PARTS", "need_action", "replaced", "swapped"]
def loose1 : List PySem.Str := ["after", "Yard", "_law_odd", "_law_shows", "_law_is_int", "_law_is_name", "_law_reason", "_law_absent", "_law_row_of", "_law_act", "_law_is_action", "_law_is_in", "_law_one_step", "_law_steps", "_law_is_error", "_law_drawn", "_law_told", "_law_pen", "_law_draw", "_law_pick", "_law_around", "_law_names", "_law_bent"]
def loose2 : List PySem.Str := []
def loose3 : List PySem.Str := []
def looseL : List PySem.Str := loose0 ++ (loose1 ++ (loose2 ++ loose3))
abbrev R : PySem.W.OpenRow := PySem.W.OpenLaw.row PySem.Challenge.rw_paintposts_k76_actions_that_are_refused
abbrev hk : PySem.W.Hook := Hk.hookX (Hk.asM 6) ck fnL esL tfL dsL
def ob (s : PySem.W.SharedT) : Hk.AlW := Hk.obsXG (Hk.asM 6) ck fnL esL tfL dsL (HandSHeadRun.getT s)
theorem ob_eq (s : PySem.W.SharedT) : ob s = hk.obs s.abs := Hk.obsXG_eq (HandSHeadRun.getT_eq s)
def lawIx : Nat := 61
theorem runF (w : World) : HandSHeadRun.RunEq R (PySem.W.view R.prog [61]) hk ob 20000 looseL (w.withFollow "special-get-raises" false) := by
  intro os
  kernel_rfl
theorem runT (w : World) : HandSHeadRun.RunEq R (PySem.W.view R.prog [61]) hk ob 20000 looseL (w.withFollow "special-get-raises" true) := by
  intro os
  kernel_rfl
theorem run (w : World) : HandSHeadRun.RunEq R (PySem.W.view R.prog [61]) hk ob 20000 looseL w := by
  have z := World.withFollow_self w "special-get-raises"
  cases e : w.params.followText "special-get-raises" with
  | false => rw [e] at z; rw [← z]; exact runF w
  | true => rw [e] at z; rw [← z]; exact runT w
end Tx

section
set_option maxRecDepth 100000
set_option maxHeartbeats 4000000
open PySem L2 My
local macro_rules | `(tactic| walk_at "go1") => `(tactic| first
  | with_reducible refine r_seq ?_
  | with_reducible refine r_asg ?_
  | with_reducible refine r_gname ?_
  | with_reducible refine r_ifS ?_
  | with_reducible refine r_match ?_
  | with_reducible refine r_next ?_
  | with_reducible refine r_ret ?_
  | with_reducible refine r_drop ?_
  | with_reducible refine r_par ?_
  | ((with_reducible show tVar _ _ _ _); refine r_var rfl ?_)
  | with_reducible refine r_c ?_
  | with_reducible refine r_op ?_
  | with_reducible refine r_un ?_
  | with_reducible refine r_cb ?_
  | with_reducible refine r_callR ?_
  | with_reducible refine r_nil ?_
  | with_reducible refine r_cons ?_
  | with_reducible refine r_tup ?_
  | with_reducible refine r_lst ?_
  | with_reducible refine r_dget ?_
  | with_reducible refine r_test ?_
  | with_reducible refine r_tB ?_
  | with_reducible refine r_not ?_
  | with_reducible refine r_notV ?_
  | with_reducible refine r_and ?_
  | with_reducible refine r_or ?_
  | with_reducible refine r_andV ?_
  | with_reducible refine r_orV ?_
  | with_reducible refine r_if ?_
  | with_reducible refine r_sl ?_
  | with_reducible refine r_part ?_
  | with_reducible refine r_nopart ?_
  | with_reducible refine r_bm ?_
  | with_reducible refine r_bm0 ?_
  | with_reducible refine r_m0 ?_
  | with_reducible refine r_m1 ?_
  | with_reducible refine r_fld ?_
  | with_reducible refine r_propR ?_
  | with_reducible refine r_methR ?_
  | with_reducible refine r_makeR ?_
  | with_reducible refine r_cmeth ?_
  | with_reducible refine r_star ?_
  | with_reducible refine r_cmethW ?_
  | with_reducible refine r_revS ?_
  | with_reducible refine r_nsgn ?_
  | ((with_reducible show rMulT _ _ _ _); refine r_mulT (by decide) (by decide) (by decide) (by decide) ?_)
  | with_reducible refine Ow.r_tryB ?_
  | with_reducible refine Ow.r_tryL ?_
  | with_reducible refine r_callRW ?_
  | with_reducible refine r_makeS1W ?_
  | with_reducible refine r_mkOx ?_
  | with_reducible refine r_mk1 ?_
  | with_reducible refine r_chain ?_
  | with_reducible refine r_fldS ?_
  | with_reducible refine r_dput ?_
  | with_reducible refine r_gsub ?_
  | ((with_reducible show ∃ _ _, V.ref _ = V.ref _ ∧ DGet _ _ _ _ ∧ _); refine r_dgetV (v := ?_) ?_ ?_; rotate_left; focus (first | exact PenD.rest ‹PenD _ _ _ _ _ _› | exact PenD.begun ‹PenD _ _ _ _ _ _› | exact PenD.cells ‹PenD _ _ _ _ _ _›))
  | with_reducible refine r_for ?_
  | with_reducible refine r_lc ?_
  | with_reducible refine r_rng1 ?_
  | with_reducible refine r_rng2 ?_
  | with_reducible refine r_enumA ?_
  | with_reducible refine r_yes ?_
  | with_reducible refine r_pp0 ?_
  | with_reducible refine r_ppC ?_
  | with_reducible refine r_dc ?_
  | with_reducible refine r_con ?_
  | with_reducible refine r_js0 ?_
  | with_reducible refine r_jsT ?_
  | with_reducible refine r_fmt ?_
  | with_reducible refine r_sgn ?_
  | with_reducible refine r_callS ?_
  | with_reducible refine r_makeS1 ?_
  | with_reducible refine r_gnil ?_
  | with_reducible refine r_gcons ?_
  | with_reducible refine r_I0 ?_
  | with_reducible refine r_U ?_
  | with_reducible refine r_addI ?_
  | with_reducible refine r_eqI ?_
  | with_reducible refine r_neI ?_
  | with_reducible refine r_eqS ?_
  | with_reducible refine r_neS ?_
  | with_reducible refine r_intI ?_
  | with_reducible refine r_strS ?_
  | with_reducible refine r_bl ?_
  | with_reducible refine r_int1 ?_
  | with_reducible refine r_two ?_
  | with_reducible refine r_ints1 ?_
  | with_reducible refine r_ints2 ?_
  | with_reducible refine r_str1 ?_
  | with_reducible refine r_iteT ?_
  | with_reducible refine r_iteF ?_
  | with_reducible refine r_iteNT ?_
  | with_reducible refine r_iteNF ?_
  | ((with_reducible show rI _ _ _ _ _ _); refine r_I ?_ ?_; focus (first | (show (0 : Int) < _; omega) | (show CPow _ _; exact ⟨by decide, by decide, by decide⟩) | (refine (Or.inl ⟨?_, ?_⟩ : CMul _ _) <;> omega) | (refine (Or.inr ⟨?_, ?_⟩ : CMul _ _) <;> omega) | (show CDivW _ _; exact wide_div (b := 64) (by decide) (by decide) (by decide) (by decide))))
  | ((with_reducible show rMulU (V.int _) (V.int _) _ _); refine r_mulI ?_ ?_; focus (first | (refine Or.inl ⟨?_, ?_⟩ <;> omega) | (refine Or.inr ⟨?_, ?_⟩ <;> omega)))
  | ((with_reducible show rLenU _ [V.ref _] _ _); refine r_lenL (ys := ?_) ?_ ?_; rotate_left; focus (first | assumption | exact SqL.of ‹_›))
  | ((with_reducible show rLenU _ [V.ref _] _ _); refine r_lenT (ys := ?_) ?_ ?_; rotate_left; focus (first | assumption | exact SqT.of ‹_›)))
local macro_rules | `(tactic| walk_at "go") => `(tactic| repeat walk_at "go1")

set_option maxRecDepth 100000
set_option maxHeartbeats 4000000
namespace Tx
open PySem PySem.Spec PyProof.Rows L2 My
section
variable {P : Program} {w : World} {K : PySem.W.Frag} {mg : Str → Option Value} {base : Heap}
/-! ### _law_draw -/
def Bd (j : Nat) : Int := 60000000 * 10000000 ^ j
theorem Bd_s (j : Nat) : Bd (j + 1) = 10000000 * Bd j := by
  unfold Bd
  rw [Int.pow_succ]
  omega
theorem Bd_1 (j : Nat) : 60000000 ≤ Bd j := by
  induction j with
  | zero => decide
  | succ j ih =>
    rw [Bd_s]
    omega
/-- behind it: at most c more cells are begun -/
def Drawn (z : PenI) (H : Hp) (n c : Nat) (many : Int) (Q : VK) : Prop := ∀ v n' H', 0 ≤ v → v < many → n' ≤ n + c → Kp H H' → Pen H' z n' → Q (.int v) H'
def spDrawN : Nat → Sp
  | 0 => fun _ _ _ _ => False
  | j + 1 => fun vs H Q _ => ∃ z many n, vs = [.ref (PenI.a z), .int many] ∧ Pen H z n ∧ 1 ≤ many ∧ many ≤ Bd j ∧ many ≤ 10 ^ 60 ∧ n + (j + 1) ≤ 10 ^ 17 + 5 ∧ Drawn z H n (j + 1) many Q
theorem dbound {m : Int} (h : m ≤ 10 ^ 60) (h0 : 1 ≤ m) : m.natAbs < 2 ^ 200 := by
  have h2 : (10 : Int) ^ 60 < 2 ^ 200 := by decide
  omega
theorem ok_drawN (T : Tx K mg) : ∀ j : Nat, FnR P w K mg base (L2.CX P w) j (a_Ldraw K) (spDrawN j)
  | 0 => fun _ _ _ _ _ _ _ _ _ _ _ h => h.elim
  | j + 1 => by
    have F_Ldraw : FnR P w K mg base (L2.CX P w) j (a_Ldraw K) (spDrawN j) := ok_drawN T j
    refine fnR_of T.f_Ldraw sc_Ldraw (fun _ _ _ _ _ _ us hl => match us, hl with | [_, _], _ => rfl) (fun vs H Q E h => ?_) fun A outer s H vs Q E cdv hr h => ?_
    · obtain ⟨z, many, n, rfl, _⟩ := h
      rfl
    · obtain ⟨⟨a, c, ns⟩, many, n, rfl, ⟨b, r, hp, hb0, hbn, hr0⟩, hm1, hm2, hm3, hn, k⟩ := h
      dsimp only at hp
      refine ⟨_, (pss_cons (ps_if (pt_cmpR op_gt (pe_dget (hu_of hr) (pv 0) pe_str (fun _ _ => rfl)) pe_int (nomark _))
 (pss_cons (ps_set (i := 2) sc_Ldraw.nd rfl (by first | exact Or.inl rfl | exact Or.inr rfl) (pe_op op_mod (pe_callTy call_intU rfl T.n_int (by decide +kernel) (pa_cons (pe_dget (hu_of hr) (pv 0) pe_str (fun _ _ => rfl)) pa_nil)) (pv 1)))
 (pss_cons (ps_dput (hu_of hr) (pv 0) pe_str (pe_op op_fdivW (pe_dget (hu_of hr) (pv 0) pe_str (fun _ _ => rfl)) (pv 1)) rfl)
 (pss_one (ps_ret (pv 2)))))
 pss_nil)
 (pss_cons (ps_set (i := 3) sc_Ldraw.nd rfl (by first | exact Or.inl rfl | exact Or.inr rfl) (pe_dget (hu_of hr) (pv 0) pe_str (fun _ _ => rfl)))
 (pss_cons (ps_dput (hu_of hr) (pv 0) pe_str (pe_op (op_addUK (K := K) rfl) (pv 3) pe_int) rfl)
 (pss_cons (ps_set (i := 4) sc_Ldraw.nd rfl (by first | exact Or.inl rfl | exact Or.inr rfl) (pe_op (op_addUK (K := K) rfl) (pe_op op_mulU pe_int (pv 3)) pe_int))
 (C8.pss_cut (ps_if (pt_cmpR (op_neUK (K := K) rfl hr.units) (pe_dget (hu_of hr) (pv 0) pe_str (fun _ _ => rfl)) (pe_lst pa_nil) (nomark _))
 (pss_one (ps_set (i := 4) sc_Ldraw.nd rfl (by first | exact Or.inl rfl | exact Or.inr rfl) (pe_ix (ix_seqK (K := K) rfl) (pe_dget (hu_of hr) (pv 0) pe_str (fun _ _ => rfl)) (pe_op op_mod (pe_callTy call_intU rfl T.n_int (by decide +kernel) (pa_cons (pv 3) pa_nil)) (pe_callB (call_lenUK (K := K) rfl) rfl T.n_len (by decide +kernel) (pa_cons (pe_dget (hu_of hr) (pv 0) pe_str (fun _ _ => rfl)) pa_nil))) (fun _ _ => rfl))))
 pss_nil)
 (C8.pss_cut (ps_if (PW.pt (pw_and (pt_cmpR op_lt (pv 3) (pe_callB (call_lenUK (K := K) rfl) rfl T.n_len (by decide +kernel) (pa_cons (pe_dget (hu_of hr) (pv 0) pe_str (fun _ _ => rfl)) pa_nil)) (nomark _)) (pw_and1 (pt_cmpR op_ge (pe_callB call_abs rfl T.n_abs (by decide +kernel) (pa_cons (pv 4) pa_nil)) (pe_op op_pow pe_int pe_int) (nomark _)))))
 (pss_cons (ps_dput (hu_of hr) (pv 0) pe_str (pe_op op_fdivW (pe_op op_sub (pe_callB call_abs rfl T.n_abs (by decide +kernel) (pa_cons (pv 4) pa_nil)) (pe_op op_pow pe_int pe_int)) (pv 1)) rfl)
 (pss_one (ps_ret (pe_op op_mod (pe_op op_sub (pe_callB call_abs rfl T.n_abs (by decide +kernel) (pa_cons (pv 4) pa_nil)) (pe_op op_pow pe_int pe_int)) (pv 1)))))
 pss_nil)
 (pss_cons (ps_set (i := 5) sc_Ldraw.nd rfl (by first | exact Or.inl rfl | exact Or.inr rfl) (pe_op op_mod (pe_callTy call_intU rfl T.n_int (by decide +kernel) (pa_cons (pe_op (op_addUK (K := K) rfl) (pe_op (op_addUK (K := K) rfl) (pe_op op_mulU (pe_op op_mod (pe_callTy call_intU rfl T.n_int (by decide +kernel) (pa_cons (pv 4) pa_nil)) pe_int) pe_int) (pe_op op_mulU (pe_op op_mulU pe_int (pv 3)) (pv 3))) pe_int) pa_nil)) pe_int))
 (pss_cons (ps_set (i := 5) sc_Ldraw.nd rfl (by first | exact Or.inl rfl | exact Or.inr rfl) (pe_op op_mod (pe_callTy call_intU rfl T.n_int (by decide +kernel) (pa_cons (pe_op (op_addUK (K := K) rfl) (pe_op (op_addUK (K := K) rfl) (pe_op (op_addUK (K := K) rfl) (pe_op op_mulU (pv 5) (pv 5)) (pe_op op_mulU pe_int (pv 5))) (pe_op op_mulU pe_int (pv 3))) pe_int) pa_nil)) pe_int))
 (pss_cons (ps_set (i := 5) sc_Ldraw.nd rfl (by first | exact Or.inl rfl | exact Or.inr rfl) (pe_op op_fdivW (pe_op op_mod (pe_callTy call_intU rfl T.n_int (by decide +kernel) (pa_cons (pe_op op_mulU (pv 5) (pe_op (op_addUK (K := K) rfl) (pv 5) pe_int)) pa_nil)) pe_int) pe_int))
 (C8.pss_cut (ps_if (pt_cmpR op_gt (pv 1) pe_int (nomark _))
 (pss_one (ps_set (i := 5) sc_Ldraw.nd rfl (by first | exact Or.inl rfl | exact Or.inr rfl) (pe_op (op_addUK (K := K) rfl) (pe_op op_mod (pe_callTy call_intU rfl T.n_int (by decide +kernel) (pa_cons (pv 5) pa_nil)) pe_int) (pe_op op_mulU pe_int (pe_callR F_Ldraw (hr.mono (by first | decide | omega)) T.k_Ldraw rfl T.g__law_draw passL (pa_cons (pv 0) (pa_cons (pe_op (op_addUK (K := K) rfl) (pe_op op_fdivW (pv 1) pe_int) pe_int) pa_nil)))))))
 pss_nil)
 (pss_one (ps_ret (pe_op op_mod (pe_callTy call_intU rfl T.n_int (by decide +kernel) (pa_cons (pv 5) pa_nil)) (pv 1)))))))))))))), ?_⟩
      try dsimp only [cxOf]
      walk_at "go"
      refine r_iteD (fun hr1 => ?_) fun hr1 => ?_
      · walk_at "go"
        refine r_I (wide_div (b := 200) (by omega) (dbound hm3 hm1) (by decide) (by decide)) ?_
        walk_at "go"
        refine r_dputV (hp.putRest _) ?_
        walk_at "go"
        exact k _ n _ (Int.emod_nonneg _ (by omega)) (Int.emod_lt_of_pos _ (by omega)) (by omega) (hp.kp _ _) ⟨b, _, hp.upd _ _, hb0, hbn, Int.ediv_nonneg hr0 (by omega)⟩
      · walk_at "go"
        refine r_dputV (hp.putBegun _) ?_
        have hp1 := hp.upd (b + 1) r
        have kp1 := hp.kp (b + 1) r
        generalize upd H a (HO.dK (penKV c (b + 1) r)) = H1 at hp1 kp1
        walk_at "go"
        refine r_cut (fun σ' H' => ∃ cell : Int, σ' = [some (.ref a), some (.int many), none, some (.int b), some (.int cell), none] ∧ Kp H H' ∧ PenD H' a c ns (b + 1) r) ?_ ?_
        · walk_at "go"
          refine ⟨by decide, fun q hq => ?_⟩
          have hp2 : PenD (upd H1 q (.lst [])) a c ns (b + 1) r := Kp.penD hp1 hq
          have kp2 := kp1.then (o := .lst []) hq
          have hq2 : (upd H1 q (.lst [])) q = some (.lst []) := upd_same
          generalize upd H1 q (.lst []) = H2 at hp2 kp2 hq2
          refine r_neL0 (SqL.of hp2.c) (SqL.of hq2) ?_
          walk_at "go"
          refine r_iteD (fun hne => ?_) fun hne => ?_
          · walk_at "go"
            refine r_lenL (SqL.of hp2.c) ?_
            have hl : 0 < (((ns.map V.int).length : Nat) : Int) := by
              rw [List.length_map]
              have := List.length_pos_iff.mpr hne
              omega
            walk_at "go"
            obtain ⟨v, hv, hm⟩ := atI_mod (xs := ns.map V.int) (i := b) (by simpa using hne)
            obtain ⟨cell, _, rfl⟩ := List.mem_map.mp hm
            refine r_ixL (SqL.of hp2.c) hv ?_
            walk_at "go"
            exact ⟨_, rfl, kp2, hp2⟩
          · walk_at "go"
            exact ⟨_, rfl, kp2, hp2⟩
        · rintro σ' H' ⟨cell, rfl, kp2, hp2⟩
          have fin : ∀ mixed : Int, ∀ n' : Nat, ∀ H'' : Hp, n' ≤ n + (j + 1) → Kp H H'' → Pen H'' ⟨a, c, ns⟩ n' → Q (.int (mixed % many)) H'' := fun mixed n' H'' h1 h2 h3 =>
            k _ n' _ (Int.emod_nonneg _ (by omega)) (Int.emod_lt_of_pos _ (by omega)) h1 h2 h3
          refine r_cut (fun σ' H3 => σ' = [some (.ref a), some (.int many), none, some (.int b), some (.int cell), none] ∧ H3 = H') ?_ ?_
          · walk_at "go"
            refine r_lenL (SqL.of hp2.c) ?_
            walk_at "go"
            refine r_iteD (fun h1 => ?_) fun h1 => ?_
            · walk_at "go"
              refine r_iteD (fun h2 => ?_) fun h2 => ?_
              · walk_at "go"
                refine r_I (wide_div (b := 200) (by omega) (dbound hm3 hm1) (by decide) (by decide)) ?_
                walk_at "go"
                refine r_dputV (hp2.putRest _) ?_
                walk_at "go"
                refine k _ (n + 1) _ (Int.emod_nonneg _ (by omega)) (Int.emod_lt_of_pos _ (by omega)) (by omega) (kp2.trans (hp2.kp _ _)) ⟨_, _, hp2.upd _ _, by omega, by omega, Int.ediv_nonneg ?_ (by omega)⟩
                generalize (if cell < 0 then -cell else cell) = cc at h2 ⊢
                omega
              · walk_at "go"
                exact ⟨rfl, rfl⟩
            · walk_at "go"
              exact ⟨rfl, rfl⟩
          · rintro _ _ ⟨rfl, rfl⟩
            walk_at "go"
            refine r_cut (fun σ' H3 => ∃ mixed n', σ' = [some (.ref a), some (.int many), none, some (.int b), some (.int cell), some (.int mixed)] ∧ Kp H H3 ∧ Pen H3 ⟨a, c, ns⟩ n' ∧ n' ≤ n + (j + 1)) ?_ ?_
            · walk_at "go"
              refine r_iteD (fun h1 => ?_) fun h1 => ?_
              · walk_at "go"
                cases j with
                | zero => exact absurd hm2 (by unfold Bd; omega)
                | succ j =>
                  have hb := Bd_s j
                  have hb1 := Bd_1 j
                  refine ⟨⟨a, c, ns⟩, _, n + 1, rfl, ⟨_, _, hp2, by omega, by omega, by omega⟩, by omega, by omega, by omega, by omega, fun v n' H4 h0 h1 h2 h3 h4 => ?_⟩
                  walk_at "go"
                  exact ⟨_, n', rfl, kp2.trans h3, h4, by omega⟩
              · walk_at "go"
                exact ⟨_, n + 1, rfl, kp2, ⟨_, _, hp2, by omega, by omega, by omega⟩, by omega⟩
            · rintro σ' H3 ⟨mixed, n', rfl, k3, p3, hn'⟩
              walk_at "go"
              exact fin _ n' _ hn' k3 p3
/-- _law_draw(pen, many): any number from 0 on below many -/
def spDraw : Sp := fun vs H Q _ => ∃ z many n, vs = [.ref (PenI.a z), .int many] ∧ Pen H z n ∧ 1 ≤ many ∧ many ≤ 10 ^ 34 ∧ n ≤ 10 ^ 17 ∧ Drawn z H n 5 many Q
theorem ok_draw (T : Tx K mg) : FnR P w K mg base (L2.CX P w) 5 (a_Ldraw K) spDraw := (ok_drawN T 5).imp fun vs H Q E h => by
  obtain ⟨z, many, n, e, hp, h1, h2, h3, k⟩ := h
  have hb : Bd 4 = 600000000000000000000000000000000000 := by decide
  exact ⟨z, many, n, e, hp, h1, by rw [hb]; omega, by omega, by show n + 5 ≤ _; omega, k⟩
end
end Tx

set_option maxRecDepth 100000
set_option maxHeartbeats 4000000
namespace Tx
open PySem PySem.Spec PyProof.Rows L2 My
section
variable {P : Program} {w : World} {K : PySem.W.Frag} {mg : Str → Option Value} {base : Heap}
theorem r_draw {z : PenI} {H : Hp} {n : Nat} {many : Int} {Q : VK} {E : XK} (hp : Pen H z n) (h1 : 1 ≤ many) (h2 : many ≤ 10 ^ 34) (h3 : n ≤ 10 ^ 17) (k : ∀ v n' H', 0 ≤ v → v < many → n' ≤ n + 5 → Kp H H' → Pen H' z n' → Q (.int v) H') :
    spDraw [.ref z.a, .int many] H Q E := ⟨z, many, n, rfl, hp, h1, h2, h3, k⟩
def spPick (K : PySem.W.Frag) : Sp := fun vs H Q _ => ∃ z n x, vs = [.ref (PenI.a z), x] ∧ Pen H z n ∧ n ≤ 10 ^ 17 ∧
  ((∃ p xs, x = .ref p ∧ SqL K H p xs ∧ xs ≠ [] ∧ xs.length ≤ 1000 ∧ Aft z H n 5 (fun v _ => v ∈ xs) Q) ∨ ∃ s : Str, x = .str s ∧ 0 < s.length ∧ s.length ≤ 1000 ∧ Aft z H n 5 (fun v _ => ∃ c, c ∈ s.cps.toList ∧ v = .str ⟨#[c]⟩) Q)
theorem ok_pick (T : Tx K mg) : FnR P w K mg base (L2.CX P w) 6 (a_Lpick K) (spPick K) := by
  have F_Ldraw := ok_draw (P := P) (w := w) (base := base) T
  refine fnR_of T.f_Lpick sc_Lpick (fun _ _ _ _ _ _ us hl => match us, hl with | [_, _], _ => rfl) (fun vs H Q E h => ?_) fun A outer s H vs Q E cdv hr h => ?_
  · obtain ⟨z, n, x, rfl, _⟩ := h
    rfl
  · obtain ⟨z, n, x, rfl, hp, hn, h⟩ := h
    refine ⟨_, (pss_one (ps_ret (pe_ix (ix_seqK (K := K) rfl) (pv 1) (pe_callR F_Ldraw (hr.mono (by first | decide | omega)) T.k_Ldraw rfl T.g__law_draw passL (pa_cons (pv 0) (pa_cons (pe_callB (call_lenUK (K := K) rfl) rfl T.n_len (by decide +kernel) (pa_cons (pv 1) pa_nil)) pa_nil))) (fun _ _ => rfl)))), ?_⟩
    try dsimp only [cxOf]
    walk_at "go"
    rcases h with ⟨p, xs, rfl, hl, h0, h1, k⟩ | ⟨s, rfl, h0, h1, k⟩
    · refine r_lenL hl ?_
      walk_at "go"
      have := List.length_pos_iff.mpr h0
      refine r_draw hp (by omega) (by omega) hn fun v n' H' v0 v1 hn' kp hp' => ?_
      obtain ⟨u, hu, _, hm⟩ := atI_in (xs := xs) v0 v1
      walk_at "go"
      exact r_ixL (kp.rdL hl) hu (k _ _ _ hm hn' kp hp')
    · refine r_lenS (by show _ ≤ 16777216; omega) ?_
      walk_at "go"
      refine r_draw hp (by omega) (by omega) hn fun v n' H' v0 v1 hn' kp hp' => ?_
      obtain ⟨u, hu, _, hm⟩ := atI_in (xs := s.cps.toList) v0 v1
      walk_at "go"
      exact r_ixS (by show _ ≤ 16777216; omega) hu (k _ _ _ ⟨u, hm, rfl⟩ hn' kp hp')
theorem r_pickL {z : PenI} {H : Hp} {n : Nat} {p : Addr} {xs : List V} {Q : VK} {E : XK} (hp : Pen H z n) (hl : SqL K H p xs) (h0 : xs ≠ []) (h1 : xs.length ≤ 1000) (hn : n ≤ 10 ^ 17) (k : ∀ v n' H', v ∈ xs → n' ≤ n + 5 → Kp H H' → Pen H' z n' → Q v H') :
    spPick K [.ref z.a, .ref p] H Q E := ⟨z, n, _, rfl, hp, hn, .inl ⟨p, xs, rfl, hl, h0, h1, k⟩⟩
theorem r_pickS {z : PenI} {H : Hp} {n : Nat} {s : Str} {Q : VK} {E : XK} (hp : Pen H z n) (h0 : 0 < s.length) (h1 : s.length ≤ 1000) (hn : n ≤ 10 ^ 17) (k : ∀ c n' H', c ∈ s.cps.toList → n' ≤ n + 5 → Kp H H' → Pen H' z n' → Q (.str ⟨#[c]⟩) H') :
    spPick K [.ref z.a, .str s] H Q E := ⟨z, n, _, rfl, hp, hn, .inr ⟨s, rfl, h0, h1, fun v n' H' ⟨c, hc, e⟩ h2 h3 h4 => by
      subst e
      exact k c n' H' hc h2 h3 h4⟩⟩
/-! ### _law_around -/
def spAround : Sp := fun vs H Q _ => ∃ z n most, vs = [.ref (PenI.a z), .int most] ∧ Pen H z n ∧ n ≤ 10 ^ 17 ∧ 0 ≤ most ∧ most ≤ 10 ^ 33 ∧ Aft z H n 5 (fun v _ => ∃ i, v = .int i ∧ -most ≤ i ∧ i ≤ most) Q
theorem ok_around (T : Tx K mg) : FnR P w K mg base (L2.CX P w) 6 (a_Laround K) spAround := by
  have F_Ldraw := ok_draw (P := P) (w := w) (base := base) T
  refine fnR_of T.f_Laround sc_Laround (fun _ _ _ _ _ _ us hl => match us, hl with | [_, _], _ => rfl) (fun vs H Q E h => ?_) fun A outer s H vs Q E cdv hr h => ?_
  · obtain ⟨z, n, x, rfl, _⟩ := h
    rfl
  · obtain ⟨z, n, most, rfl, hp, hn, m0, m1, k⟩ := h
    refine ⟨_, (pss_one (ps_ret (pe_op op_sub (pe_callR F_Ldraw (hr.mono (by first | decide | omega)) T.k_Ldraw rfl T.g__law_draw passL (pa_cons (pv 0) (pa_cons (pe_op (op_addUK (K := K) rfl) (pe_op op_mulU pe_int (pv 1)) pe_int) pa_nil))) (pv 1)))), ?_⟩
    try dsimp only [cxOf]
    walk_at "go"
    refine r_draw hp (by omega) (by omega) hn fun v n' H' v0 v1 hn' kp hp' => ?_
    walk_at "go"
    exact k _ _ _ ⟨_, rfl, by omega, by omega⟩ hn' kp hp'
theorem r_around {z : PenI} {H : Hp} {n : Nat} {most : Int} {Q : VK} {E : XK} (hp : Pen H z n) (h1 : 0 ≤ most) (h2 : most ≤ 10 ^ 33) (h3 : n ≤ 10 ^ 17) (k : ∀ i n' H', -most ≤ i → i ≤ most → n' ≤ n + 5 → Kp H H' → Pen H' z n' → Q (.int i) H') :
    spAround [.ref z.a, .int most] H Q E := ⟨z, n, most, rfl, hp, h3, h1, h2, fun v n' H' ⟨i, e, a, b⟩ c d f => by
      subst e
      exact k i n' H' a b c d f⟩
end
end Tx

set_option maxRecDepth 100000
set_option maxHeartbeats 4000000
namespace Tx
open PySem PySem.Spec PyProof.Rows L2 My
section
variable {P : Program} {w : World} {K : PySem.W.Frag} {mg : Str → Option Value} {base : Heap}
def NamesR (H0 : Hp) (many : Nat) (v : V) (H : Hp) : Prop := ∃ p names, v = .ref p ∧ H0 p = none ∧ H p = some (.lst (names.map V.str)) ∧ NamesOk names many
def spNames : Sp := fun vs H Q _ => ∃ z n, ∃ many : Nat, vs = [.ref (PenI.a z), .int many] ∧ Pen H z n ∧ n + 1000 ≤ 10 ^ 17 ∧ many ≤ 52 ∧ Aft z H n 400 (NamesR H many) Q
theorem stepsV : ∀ {v : V}, v ∈ stepsL.map V.int → ∃ i, v = .int i ∧ i ∈ stepsL := fun h => by
  obtain ⟨i, hi, rfl⟩ := List.mem_map.mp h
  exact ⟨i, rfl, hi⟩
theorem ok_names (T : Tx K mg) : FnR P w K mg base (L2.CX P w) 7 (a_Lnames K) spNames := by
  have F_Ldraw := ok_draw (P := P) (w := w) (base := base) T
  have F_Lpick := ok_pick (P := P) (w := w) (base := base) T
  refine fnR_of T.f_Lnames sc_Lnames (fun _ _ _ _ _ _ us hl => match us, hl with | [_, _], _ => rfl) (fun vs H Q E h => ?_) fun A outer s H vs Q E cdv hr h => ?_
  · obtain ⟨z, n, f, rfl, _⟩ := h
    rfl
  · obtain ⟨z, n, many, rfl, hp, hn, hm, k⟩ := h
    refine ⟨_, (pss_cons (ps_set (i := 2) sc_Lnames.nd rfl (by first | exact Or.inl rfl | exact Or.inr rfl) pe_str)
 (pss_cons (ps_set (i := 3) sc_Lnames.nd rfl (by first | exact Or.inl rfl | exact Or.inr rfl) (pe_join pe_str (pe_lc (own := [("_law_k", 4)]) rfl sc_Lnames.nd (pi_range1 rfl T.n_range (pa_cons (pe_callR F_Ldraw (hr.mono (by first | decide | omega)) T.k_Ldraw rfl T.g__law_draw passL (pa_cons (pv 0) (pa_cons pe_int pa_nil))) pa_nil)) (blkOk_by (own := [("_law_k", 4)]) (N := N_Lnames) (sc := defScope s_Lnames) (by decide +kernel)) (fun _ _ _ _ _ => (pg_name (i := 4) sc_Lnames.nd rfl (by first | exact Or.inl rfl | exact Or.inr rfl))) (fun _ _ _ _ _ => pts_nil) (fun _ _ _ _ _ => (pe_callR F_Lpick (hr.mono (by first | decide | omega)) T.k_Lpick rfl T.g__law_pick passL (pa_cons (pv 0) (pa_cons (pv 2) pa_nil)))))))
 (pss_cons (ps_par (i := 5) (j := 6) (by rfl) sc_Lnames.nd rfl rfl (by decide) rfl rfl (pa_cons (pe_callR F_Ldraw (hr.mono (by first | decide | omega)) T.k_Ldraw rfl T.g__law_draw passL (pa_cons (pv 0) (pa_cons pe_int pa_nil))) (pa_cons (pe_lst pa_nil) pa_nil)) (by rfl))
 (pss_cons (ps_set (i := 7) sc_Lnames.nd rfl (by first | exact Or.inl rfl | exact Or.inr rfl) (pe_callR F_Lpick (hr.mono (by first | decide | omega)) T.k_Lpick rfl T.g__law_pick passL (pa_cons (pv 0) (pa_cons (pe_lst (pa_cons pe_int (pa_cons pe_int (pa_cons pe_int (pa_cons pe_int (pa_cons pe_int (pa_cons pe_int (pa_cons pe_int (pa_cons pe_int (pa_cons pe_int (pa_cons pe_int (pa_cons pe_int (pa_cons pe_int pa_nil))))))))))))) pa_nil))))
 (pss_cons (ps_for (passes_of rfl) rfl (pi_range1 rfl T.n_range (pa_cons (pv 1) pa_nil)) (pg_name (i := 4) sc_Lnames.nd rfl (by first | exact Or.inl rfl | exact Or.inr rfl))
 (pss_cons (ps_set (i := 8) sc_Lnames.nd rfl (by first | exact Or.inl rfl | exact Or.inr rfl) (pe_ix (ix_seqK (K := K) rfl) (pv 2) (pe_op op_mod (pe_callTy call_intU rfl T.n_int (by decide +kernel) (pa_cons (pe_op (op_addUK (K := K) rfl) (pv 5) (pe_op op_mulU (pv 7) (pv 4))) pa_nil)) pe_int) (fun _ _ => rfl)))
 (C8.pss_cut (ps_set (i := 9) sc_Lnames.nd rfl (by first | exact Or.inl rfl | exact Or.inr rfl) (pe_ifExp (pt_cmpR op_lt (pv 4) pe_int (nomark _)) pe_str (pe_callR F_Lpick (hr.mono (by first | decide | omega)) T.k_Lpick rfl T.g__law_pick passL (pa_cons (pv 0) (pa_cons (pv 2) pa_nil)))))
 (pss_one (ps_expr (pe_bm PySem.F.plainAttrs_list PySem.F.slot_list_append PySem.F.type_list_append mt_append (pv 6) (pa_cons (pe_op (op_addUK (K := K) rfl) (pe_ix (ix_seqK (K := K) rfl) (pe_lst (pa_cons (pe_op (op_addUK (K := K) rfl) (pv 3) (pv 8)) (pa_cons (pe_op (op_addUK (K := K) rfl) (pv 8) (pv 3)) pa_nil))) (pe_op op_mod (pe_callB (call_lenUK (K := K) rfl) rfl T.n_len (by decide +kernel) (pa_cons (pv 3) pa_nil)) pe_int) (fun _ _ => rfl)) (pv 9)) pa_nil)))))))
 (pss_one (ps_ret (pv 6)))))))), ?_⟩
    try dsimp only [cxOf]
    walk_at "go"
    refine r_draw hp (by decide) (by decide) (by omega) fun v1 n1 H1 v10 v11 hn1 kp1 hp1 => ?_
    walk_at "go"
    refine ⟨by omega, by omega, ?_⟩
    intro D hD
    refine lc_rng (n := v1.toNat) rfl (fun i H' => ∃ ss : List Str, ss.length = i ∧ (∀ x ∈ ss, ∃ c, Lt c ∧ x = ⟨#[c]⟩) ∧ Acc z H H' (n1 + 5 * i) D (ss.map V.str)) ⟨[], rfl, fun x hx => (List.not_mem_nil hx).elim, Acc.start kp1 hp1 hD⟩ (fun i H' hi ⟨ss, hl, hss, acc⟩ => ?_) fun H' ⟨ss, hl, hss, acc⟩ => ?_
    · walk_at "go"
      refine ⟨rfl, ?_⟩
      walk_at "go"
      refine r_pickS (s := lettersS) acc.pen (by decide +kernel) (by decide +kernel) (by omega) fun c n2 H2 hc hn2 kp2 hp2 => ?_
      have acc2 := acc.go kp2 hp2
      refine ⟨_, acc2.l, by rw [List.length_map]; show _ < 16777216; omega, ss ++ [⟨#[c]⟩], by simp [hl], fun x hx => ?_, ?_⟩
      · rcases List.mem_append.mp hx with y | y
        · exact hss x y
        · exact ⟨c, letters_mem hc, by simpa using y⟩
      · rw [List.map_append]
        exact (acc2.put _).mono (by omega)
    · walk_at "go"
      refine ⟨_, D, ss, rfl, rfl, .inl (SqL.of acc.l), ?_, ?_⟩
      · rw [ones_sum hss]
        show _ + _ * 0 ≤ 16777216
        omega
      · have hstem : ∃ stem : Str, Txt.join "" ss = stem ∧ stem.length ≤ 6 ∧ ∀ c ∈ cl stem, Lt c := ⟨_, rfl, by rw [(join_ones hss).1]; omega, (join_ones hss).2⟩
        obtain ⟨stem, es, hs1, hs2⟩ := hstem
        rw [es]
        walk_at "go"
        refine r_draw acc.pen (by decide) (by decide) (by omega) fun v3 n3 H3 v30 v31 hn3 kp3 hp3 => ?_
        have kp3' := acc.kp.trans kp3
        walk_at "go"
        refine ⟨by decide, fun p hq => ?_⟩
        have acc4 := Acc.start (xs := []) kp3' hp3 hq
        generalize upd H3 p (.lst []) = H4 at *
        walk_at "go"
        refine ⟨by decide, fun p2 hq2 => ?_⟩
        have acc5 := acc4.newO (o := .lst (stepsL.map V.int)) hq2
        have hl5 : (upd H4 p2 (.lst (stepsL.map V.int))) p2 = some (.lst (stepsL.map V.int)) := upd_same
        have e5 : HO.lst [.int 1, .int 3, .int 5, .int 7, .int 9, .int 11, .int 15, .int 17, .int 19, .int 21, .int 23, .int 25] = .lst (stepsL.map V.int) := rfl
        rw [e5]
        generalize upd H4 p2 (.lst (stepsL.map V.int)) = H5 at *
        walk_at "go"
        refine r_pickL acc5.pen (SqL.of hl5) (by decide) (by decide) (by omega) fun v6 n6 H6 hv6 hn6 kp6 hp6 => ?_
        have acc6 := acc5.go kp6 hp6
        obtain ⟨step, rfl, hstep⟩ := stepsV hv6
        walk_at "go"
        refine ⟨by omega, by omega, ?_⟩
        refine for_rng (n := many) (by simp) (fun i σ' H' => ∃ o4 o8 o9, ∃ names : List Str, σ' = [some (.ref z.a), some (.int many), some (.str lettersS), some (.str stem), o4, some (.int v3), some (.ref p), some (.int step), o8, o9] ∧
          names.length = i ∧ NmRow stem v3 step names ∧ Acc z H H' (n6 + 5 * i) p (names.map V.str)) ⟨_, _, _, [], rfl, rfl, fun j x hj => by simp at hj, acc6⟩ (fun i σ' H' hi ⟨o4, o8, o9, names, e, hl, hrow, acc⟩ => ?_) fun σ' H' ⟨o4, o8, o9, names, e, hl, hrow, acc⟩ => ?_
        · subst e
          walk_at "go"
          have hm0 := Int.emod_nonneg (v3 + step * i) (show (26 : Int) ≠ 0 by decide)
          have hm1 := Int.emod_lt_of_pos (v3 + step * i) (show (0 : Int) < 26 by decide)
          refine r_ixS (by decide +kernel) (letters_at hm0 hm1) ?_
          have hownlt := ownAt_lt v3 step i
          have eown : 97 + ((v3 + step * i) % 26).toNat = ownAt v3 step i := rfl
          rw [eown]
          walk_at "go"
          refine r_cut (fun σ' H7 => ∃ (tail : Str) (n7 : Nat), σ' = [some (.ref z.a), some (.int many), some (.str lettersS), some (.str stem), some (.int i), some (.int v3), some (.ref p), some (.int step), some (.str ⟨#[ownAt v3 step i]⟩), some (.str tail)] ∧
            TailOk i (cl tail) ∧ tail.length ≤ 1 ∧ n7 ≤ n6 + 5 * i + 5 ∧ Acc z H H7 n7 p (names.map V.str)) ?_ ?_
          · walk_at "go"
            refine r_iteD (fun h1 => ?_) fun h1 => ?_
            · walk_at "go"
              exact ⟨_, _, rfl, ⟨fun _ => rfl, fun h => absurd h (by omega)⟩, by decide, by omega, acc⟩
            · walk_at "go"
              refine r_pickS (s := lettersS) acc.pen (by decide +kernel) (by decide +kernel) (by omega) fun c n2 H2 hc hn2 kp2 hp2 => ?_
              walk_at "go"
              exact ⟨_, _, rfl, ⟨fun h => absurd h (by omega), fun _ => ⟨c, letters_mem hc, rfl⟩⟩, Nat.le_refl 1, by omega, acc.go kp2 hp2⟩
          · rintro σ' H7 ⟨tail, n7, rfl, ht, ht1, hn7, acc7⟩
            walk_at "go"
            refine ⟨ty_list acc7.l, ?_⟩
            walk_at "go"
            refine r_addS (by show _ + 1 ≤ 16777216; omega) ?_
            walk_at "go"
            refine r_addS (by show 1 + _ ≤ 16777216; omega) ?_
            walk_at "go"
            refine ⟨by show 2 ≤ 16777216; decide, fun p2 hq2 => ?_⟩
            walk_at "go"
            refine r_lenS (by show _ ≤ 16777216; omega) ?_
            walk_at "go"
            have acc8 := acc7.newO (o := .lst [.str (stem ++ ⟨#[ownAt v3 step i]⟩), .str (⟨#[ownAt v3 step i]⟩ ++ stem)]) hq2
            have hx : ∃ y : Str, atI [V.str (stem ++ ⟨#[ownAt v3 step i]⟩), V.str (⟨#[ownAt v3 step i]⟩ ++ stem)] ((stem.length : Int) % 2) = some (.str y) ∧ cl y = nmL (cl stem) (ownAt v3 step i) := by
              unfold nmL
              rw [cl_len]
              rcases Nat.mod_two_eq_zero_or_one stem.length with h | h
              · refine ⟨stem ++ ⟨#[ownAt v3 step i]⟩, ?_, by rw [if_pos h, cl_app, cl_one]⟩
                have e : (stem.length : Int) % 2 = ((0 : Nat) : Int) := by omega
                rw [e]
                exact atI_nat rfl
              · refine ⟨⟨#[ownAt v3 step i]⟩ ++ stem, ?_, by rw [if_neg (by omega), cl_app, cl_one]; rfl⟩
                have e : (stem.length : Int) % 2 = ((1 : Nat) : Int) := by omega
                rw [e]
                exact atI_nat rfl
            obtain ⟨y, hy1, hy2⟩ := hx
            have hyl : y.length ≤ 7 := by
              rw [← cl_len, hy2, nmL_len, cl_len]
              omega
            refine r_ixL (SqL.of upd_same) hy1 ?_
            walk_at "go"
            refine r_addS (by show _ ≤ 16777216; omega) ?_
            walk_at "go"
            refine r_append acc8.l (by rw [List.length_map]; show _ < 16777216; omega) ?_
            have acc9 := acc8.put (names.map V.str ++ [.str (y ++ tail)])
            generalize upd (upd H7 p2 _) p _ = H9 at *
            walk_at "go"
            refine ⟨_, _, _, names ++ [y ++ tail], rfl, by simp [hl], hrow.snoc (t := cl tail) (by rw [cl_app, hl, hy2]) (by rw [hl]; exact ht), ?_⟩
            rw [List.map_append]
            exact acc9.mono (by omega)
        · subst e
          walk_at "go"
          exact k _ _ _ ⟨p, names, rfl, acc.new, acc.l, by rw [← hl]; exact names_ok (by omega) hs1 hs2 hstep hrow⟩ (by omega) acc.kp acc.pen
theorem r_names {z : PenI} {H : Hp} {n many : Nat} {i : Int} {Q : VK} {E : XK} (hi : i = many) (hp : Pen H z n) (h1 : n + 1000 ≤ 10 ^ 17) (h2 : many ≤ 52) (k : ∀ p names n' H', H p = none → H' p = some (.lst (names.map V.str)) → NamesOk names many → n' ≤ n + 400 → Kp H H' → Pen H' z n' → Q (.ref p) H') :
    spNames [.ref z.a, .int i] H Q E := ⟨z, n, many, by rw [hi], hp, h1, h2, fun v n' H' ⟨p, names, e, a, b, c⟩ d f g => by
      subst e
      exact k p names n' H' a b c d f g⟩
end
end Tx

set_option maxRecDepth 100000
set_option maxHeartbeats 4000000
namespace Tx
open PySem PySem.Spec PyProof.Rows L2 My
section
variable {P : Program} {w : World} {K : PySem.W.Frag} {mg : Str → Option Value} {base : Heap}
/-! ### is_integer, is_between, is_name -/
def Kit (K : PySem.W.Frag) (H : Hp) (v : V) (T : String) (b : Bool) : Prop := ∃ t, TyX K H v t ∧ PySem.W.kitOne K t (.type T) = some b
theorem kit_int {H : Hp} {i : Int} : Kit K H (.int i) "int" true ∧ Kit K H (.int i) "bool" false := ⟨⟨_, .base (.int i), by rfl⟩, ⟨_, .base (.int i), by rfl⟩⟩
theorem kit_str {H : Hp} {s : Str} : Kit K H (.str s) "str" true ∧ Kit K H (.str s) "int" false := ⟨⟨_, .base (.str s), by rfl⟩, ⟨_, .base (.str s), by rfl⟩⟩
theorem r_isi {H : Hp} {v : V} {T : String} {b : Bool} {Q : VK} (h : Kit K H v T b) (q : Q (.bl b) H) : rIsi K [v, .ty T] H Q := by
  obtain ⟨t, h1, h2⟩ := h
  exact ⟨v, .ty T, t, .type T, b, rfl, .ty T, h1, h2, q⟩
def spIsInt (K : PySem.W.Frag) : Sp := fun vs H Q _ => ∃ v b1 b2, vs = [v] ∧ Kit K H v "int" b1 ∧ (b1 = true → Kit K H v "bool" b2) ∧ Q (.bl (b1 && !b2)) H
theorem ok_isint (T : Tx K mg) : FnR P w K mg base (L2.CX P w) 1 (a_is_integer K) (spIsInt K) := by
  refine fnR_of T.f_is_integer sc_is_integer (fun _ _ _ _ _ _ us hl => match us, hl with | [_], _ => rfl) (fun vs H Q E h => ?_) fun A outer s H vs Q E cdv hr h => ?_
  · obtain ⟨v, b1, b2, rfl, _⟩ := h
    rfl
  · obtain ⟨v, b1, b2, rfl, h1, h2, k⟩ := h
    refine ⟨_, (pss_one (ps_ret (pe_and (pe_callB call_isi rfl T.n_isinstance (by decide +kernel) (pa_cons (pv 0) (pa_cons (pe_bltn (v := .ty "int") rfl T.n_int (by decide +kernel) rfl) pa_nil))) (pe_one (pe_not (pe_callB call_isi rfl T.n_isinstance (by decide +kernel) (pa_cons (pv 0) (pa_cons (pe_bltn (v := .ty "bool") rfl T.n_bool (by decide +kernel) rfl) pa_nil)))))))), ?_⟩
    try dsimp only [cxOf]
    walk_at "go"
    refine r_isi h1 ⟨_, rfl, ?_⟩
    cases b1 with
    | false => exact r_iteF k
    | true =>
      refine r_iteT ?_
      walk_at "go"
      refine r_isi (h2 rfl) ?_
      walk_at "go"
      exact k
def spBetween (K : PySem.W.Frag) : Sp := fun vs H Q _ => (∃ i l h : Int, vs = [.int i, .int l, .int h] ∧ Q (.bl (decide (l ≤ i) && decide (i ≤ h))) H) ∨
  ∃ v l h b1 b2, vs = [v, l, h] ∧ Kit K H v "int" b1 ∧ (b1 = true → Kit K H v "bool" b2) ∧ (b1 && !b2) = false ∧ Q (.bl false) H
theorem ok_between (T : Tx K mg) : FnR P w K mg base (L2.CX P w) 2 (a_is_between K) (spBetween K) := by
  have F_is_integer := ok_isint (P := P) (w := w) (base := base) T
  refine fnR_of T.f_is_between sc_is_between (fun _ _ _ _ _ _ us hl => match us, hl with | [_, _, _], _ => rfl) (fun vs H Q E h => ?_) fun A outer s H vs Q E cdv hr h => ?_
  · rcases h with ⟨i, l, h, rfl, _⟩ | ⟨v, l, h, b1, b2, rfl, _⟩ <;> rfl
  · refine ⟨_, (pss_one (ps_ret (pe_and (pe_callR F_is_integer (hr.mono (by first | decide | omega)) T.k_is_integer rfl T.g_is_integer passL (pa_cons (pv 0) pa_nil)) (pe_one (pe_chain op_le op_le (pv 1) (pv 0) (pv 2)))))), ?_⟩
    try dsimp only [cxOf]
    rcases h with ⟨i, l, h, rfl, k⟩ | ⟨v, l, h, b1, b2, rfl, h1, h2, h3, k⟩
    · walk_at "go"
      refine ⟨_, true, false, rfl, kit_int.1, fun _ => kit_int.2, ⟨_, rfl, r_iteT ?_⟩⟩
      walk_at "go"
      refine r_iteD (fun h1 => ?_) fun h1 => ?_
      · walk_at "go"
        rw [decide_eq_true h1, Bool.true_and] at k
        exact k
      · walk_at "go"
        rw [decide_eq_false h1, Bool.false_and] at k
        exact k
    · walk_at "go"
      refine ⟨_, b1, b2, rfl, h1, h2, ⟨_, rfl, ?_⟩⟩
      rw [h3]
      exact r_iteF k
/-- whether all signs of a text lie in another -/
theorem all_bls {l : List Nat} {f : Nat → Bool} : (l.map f).all id = l.all f := by
  induction l with
  | nil => rfl
  | cons c r ih => rw [List.map_cons, List.all_cons, List.all_cons, ih]; rfl
def spIsName (K : PySem.W.Frag) : Sp := fun vs H Q _ => (∃ s : Str, vs = [.str s] ∧ s.length ≤ sizeLine ∧ ∀ H', Gr H H' → Q (.bl (nmB s)) H') ∨ ∃ v, vs = [v] ∧ Kit K H v "str" false ∧ Q (.bl false) H
theorem ok_isname (T : Tx K mg) : FnR P w K mg base (L2.CX P w) 1 (a_is_name K) (spIsName K) := by
  refine fnR_of T.f_is_name sc_is_name (fun _ _ _ _ _ _ us hl => match us, hl with | [_], _ => rfl) (fun vs H Q E h => ?_) fun A outer s H vs Q E cdv hr h => ?_
  · rcases h with ⟨s, rfl, _⟩ | ⟨v, rfl, _⟩ <;> rfl
  · refine ⟨_, (pss_cons (ps_if (PW.pt (pw_or (pt_not (pt_val (pe_callB call_isi rfl T.n_isinstance (by decide +kernel) (pa_cons (pv 0) (pa_cons (pe_bltn (v := .ty "str") rfl T.n_str (by decide +kernel) rfl) pa_nil))))) (pw_or1 (pt_not (pt_chain op_le op_le pe_int (pe_callB (call_lenUK (K := K) rfl) rfl T.n_len (by decide +kernel) (pa_cons (pv 0) pa_nil)) (C8.pe_gc rfl T.c_MAX_NAME))))))
 (pss_one (ps_ret pe_bl))
 pss_nil)
 (pss_one (ps_ret (pe_callB (cr_all rfl) rfl T.n_all (by decide +kernel) (pa_cons (pe_lc (own := [("letter", 1)]) rfl sc_is_name.nd (pi_anyK (K := K) rfl (pv 0)) (blkOk_by (own := [("letter", 1)]) (N := N_is_name) (sc := defScope s_is_name) (by decide +kernel)) (fun _ _ _ _ _ => (pg_name (i := 1) sc_is_name.nd rfl (by first | exact Or.inl rfl | exact Or.inr rfl))) (fun _ _ _ _ _ => pts_nil) (fun _ _ _ _ _ => (pe_cmpR op_sgn (pv 1) (C8.pe_gc rfl T.c_LETTERS) (by rfl)))) pa_nil))))), ?_⟩
    try dsimp only [cxOf]
    rcases h with ⟨s, rfl, hl, k⟩ | ⟨v, rfl, h1, k⟩
    · walk_at "go"
      refine r_isi kit_str.1 ⟨_, rfl, ?_⟩
      refine r_iteF ?_
      walk_at "go"
      refine r_lenS hl ?_
      walk_at "go"
      refine r_iteD (fun h1 => ?_) fun h1 => ?_
      · walk_at "go"
        refine r_iteN (fun h2 => ?_) fun h2 => ?_
        · walk_at "go"
          have e : nmB s = false := by
            unfold nmB
            rw [decide_eq_false (show ¬ s.length ≤ 8 by omega)]
            simp
          rw [e] at k
          exact k _ (Gr.refl _)
        · walk_at "go"
          refine r_iS ?_
          walk_at "go"
          refine ⟨_, rfl, fun D hD => ?_⟩
          refine lc_txt (fun i H' => Gr H H' ∧ H' D = some (.lst ((s.cps.toList.take i).map fun c => V.bl (decide (c ∈ lettersS.cps.toList))))) ⟨Gr.new hD, upd_same⟩ (fun i c H' hc ⟨g, hd⟩ => ?_) fun H' ⟨g, hd⟩ => ?_
          · walk_at "go"
            refine ⟨rfl, ?_⟩
            walk_at "go"
            refine ⟨_, hd, by rw [List.length_map, List.length_take]; show _ < 16777216; have e9 : s.cps.toList.length = s.length := cl_len s; omega, g.mut hD, ?_⟩
            rw [upd_same, List.take_add_one, hc]
            simp
          · walk_at "go"
            refine ⟨D, (cl s).map fun c => decide (c ∈ lettersS.cps.toList), rfl, SqL.of (by rw [hd, List.map_map, List.take_of_length_le (show s.cps.toList.length ≤ s.length from Nat.le_of_eq (cl_len s))]; rfl), ?_⟩
            rw [all_bls]
            have e : nmB s = (cl s).all fun c => decide (c ∈ lettersS.cps.toList) := by
              unfold nmB
              rw [decide_eq_true (show 1 ≤ s.length by omega), decide_eq_true (show s.length ≤ 8 by omega)]
              rfl
            rw [← e]
            exact k _ g
      · walk_at "go"
        have e : nmB s = false := by
          unfold nmB
          rw [decide_eq_false (show ¬ 1 ≤ s.length by omega)]
          rfl
        rw [e] at k
        exact k _ (Gr.refl _)
    · walk_at "go"
      refine r_isi h1 ⟨_, rfl, ?_⟩
      refine r_iteT ?_
      walk_at "go"
      exact k
end
end Tx

set_option maxRecDepth 100000
set_option maxHeartbeats 4000000
namespace Tx
open PySem PySem.Spec PyProof.Rows L2 My
section
variable {P : Program} {w : World} {K : PySem.W.Frag} {mg : Str → Option Value} {base : Heap}
/-! ### values of any kind -/
/-- a value of a known kind: None, a bool, an int, a text, a list, a tuple, a dict -/
def Kn (K : PySem.W.Frag) (H : Hp) : V → Prop
  | .non => True
  | .bl _ => True
  | .int _ => True
  | .str s => s.length ≤ sizeLine
  | .ref a => ∃ T, TyX K H (.ref a) (.type T) ∧ (T = "list" ∨ T = "tuple" ∨ T = "dict")
  | _ => False
theorem kit_oth {T S : String} (h : T = "list" ∨ T = "tuple" ∨ T = "dict") (hS : S = "str" ∨ S = "int" ∨ S = "bool") : PySem.W.kitOne K (.type T) (.type S) = some false := by
  rcases h with rfl | rfl | rfl <;> rcases hS with rfl | rfl | rfl <;> rfl
def isS : V → Bool
  | .str _ => true
  | _ => false
theorem Kn.kitS {H : Hp} : ∀ {v : V}, Kn K H v → Kit K H v "str" (isS v)
  | .non, _ => ⟨_, .base .non, rfl⟩
  | .bl b, _ => ⟨_, .base (.bl b), rfl⟩
  | .int i, _ => ⟨_, .base (.int i), rfl⟩
  | .str s, _ => ⟨_, .base (.str s), rfl⟩
  | .ref a, ⟨T, h1, h2⟩ => ⟨_, h1, kit_oth h2 (.inl rfl)⟩
def isI : V → Bool
  | .int _ => true
  | _ => false
theorem Kn.kitI {H : Hp} : ∀ {v : V}, Kn K H v → ∃ b1 b2, Kit K H v "int" b1 ∧ (b1 = true → Kit K H v "bool" b2) ∧ (b1 && !b2) = isI v
  | .non, _ => ⟨false, false, ⟨_, .base .non, rfl⟩, fun z => (nomatch z), rfl⟩
  | .bl b, _ => ⟨true, true, ⟨_, .base (.bl b), rfl⟩, fun _ => ⟨_, .base (.bl b), rfl⟩, rfl⟩
  | .int i, _ => ⟨true, false, ⟨_, .base (.int i), rfl⟩, fun _ => ⟨_, .base (.int i), rfl⟩, rfl⟩
  | .str s, _ => ⟨false, false, ⟨_, .base (.str s), rfl⟩, fun z => (nomatch z), rfl⟩
  | .ref a, ⟨T, h1, h2⟩ => ⟨false, false, ⟨_, h1, kit_oth h2 (.inr (.inl rfl))⟩, fun z => (nomatch z), rfl⟩
theorem tyX_ext {H H' : Hp} {v : V} {t : Value} (h : TyX K H v t) (e : Ext H H') : TyX K H' v t := by
  cases h with
  | base b => cases b with
    | non => exact .base .non
    | bl b => exact .base (.bl b)
    | int i => exact .base (.int i)
    | str s => exact .base (.str s)
    | flt s => exact .base (.flt s)
    | lst h => exact .base (.lst (e _ _ h))
    | frz h => exact .base (.frz (e _ _ h))
    | tup h => exact .base (.tup (e _ _ h))
    | dK h => exact .base (.dK (e _ _ h))
    | dT h => exact .base (.dT (e _ _ h))
    | ins h c a b d m => exact .base (.ins (e _ _ h) c a b d m)
  | byt b => exact .byt b
  | set h => exact .set (e _ _ h)
  | kList h c => exact .kList h c
  | kTuple h c => exact .kTuple h c
  | kDict h c => exact .kDict h c
  | fTuple h => exact .fTuple (e _ _ h)
  | fDict h => exact .fDict (e _ _ h)
theorem Kn.ext {H H' : Hp} (e : Ext H H') : ∀ {v : V}, Kn K H v → Kn K H' v
  | .non, _ => trivial
  | .bl _, _ => trivial
  | .int _, _ => trivial
  | .str _, h => h
  | .ref _, ⟨T, h1, h2⟩ => ⟨T, tyX_ext h1 e, h2⟩
def nmV : V → Bool
  | .str s => nmB s
  | _ => false
def btw (lo hi : Int) : V → Bool
  | .int i => decide (lo ≤ i) && decide (i ≤ hi)
  | _ => false
theorem sp_name {v : V} {H : Hp} {Q : VK} {E : XK} (h : Kn K H v) (k : ∀ H', Gr H H' → Q (.bl (nmV v)) H') : spIsName K [v] H Q E := by
  cases v with
  | str s => exact .inl ⟨s, rfl, h, k⟩
  | _ => exact .inr ⟨_, rfl, h.kitS, k _ (Gr.refl _)⟩
theorem sp_btw {v : V} {lo hi : Int} {H : Hp} {Q : VK} {E : XK} (h : Kn K H v) (k : Q (.bl (btw lo hi v)) H) : spBetween K [v, .int lo, .int hi] H Q E := by
  cases v with
  | int i => exact .inl ⟨i, lo, hi, rfl, k⟩
  | _ =>
    obtain ⟨b1, b2, h1, h2, h3⟩ := h.kitI
    exact .inr ⟨_, _, _, b1, b2, rfl, h1, h2, h3, k⟩
/-! ### Painter -/
abbrev CP (K : PySem.W.Frag) : Addr := He.ga K "Painter"
abbrev xIP (K : PySem.W.Frag) : Value := .ref (He.ga K "InvalidPainter")
abbrev xDN (K : PySem.W.Frag) : Value := .ref (He.ga K "DuplicateName")
abbrev xUN (K : PySem.W.Frag) : Value := .ref (He.ga K "UnknownName")
abbrev xIA (K : PySem.W.Frag) : Value := .ref (He.ga K "InvalidAction")
abbrev xTM (K : PySem.W.Frag) : Value := .ref (He.ga K "TooMany")
def PAt (K : PySem.W.Frag) (H : Hp) (a : Addr) (r : Rw) : Prop := ∃ dx t, H a = some (.ins (CP K) dx [("parts", .ref t)]) ∧ H t = some (.tup (rowV r)) ∧ IsNm r.nm ∧ NumOk r
theorem PAt.ext {H H' : Hp} {a : Addr} {r : Rw} (h : PAt K H a r) (e : Ext H H') : PAt K H' a r := by
  obtain ⟨dx, t, h1, h2, h3⟩ := h
  exact ⟨dx, t, e _ _ h1, e _ _ h2, h3⟩
/-- an error with its field is raised; nothing else has changed -/
def Err (E : XK) (c : Value) (f : Str) (v : V) (H : Hp) : Prop := ∀ d H1, Gr H H1 → H d = none → H1 d = some (.xd [(f, v)]) → E c (some d) H1
theorem Err.go {E : XK} {c : Value} {f : Str} {v : V} {H H1 : Hp} (e : Err E c f v H) (g : Gr H H1) {d : Addr} (hd : H1 d = none) : E c (some d) (upd H1 d (.xd [(f, v)])) := e d _ (g.then hd) (g.f _ hd) upd_same
theorem Err.gr {E : XK} {c : Value} {f : Str} {v : V} {H H1 : Hp} (e : Err E c f v H) (g : Gr H H1) : Err E c f v H1 := fun d H2 g2 hd h => e d H2 (g.trans g2) (g.f _ hd) h
/-- why four values make no painter -/
def why (v1 v2 v3 v4 : V) : Option Str :=
  if nmV v1 = true then if btw 0 (10 ^ 30) v2 = true then if btw (-(10 ^ 30)) (10 ^ 30) v3 = true then if btw (-(10 ^ 18)) (10 ^ 18) v4 = true ∧ v4 ≠ .int 0 then none else some "stride" else some "post" else some "day" else some "name"
theorem why_none {v1 v2 v3 v4 : V} (h : why v1 v2 v3 v4 = none) : ∃ r, [v1, v2, v3, v4] = rowV r ∧ IsNm r.nm ∧ NumOk r := by
  unfold why at h
  split at h
  · rename_i h1
    split at h
    · rename_i h2
      split at h
      · rename_i h3
        split at h
        · rename_i h4
          obtain ⟨h4, h5⟩ := h4
          cases v1 <;> try (cases h1)
          cases v2 <;> try (cases h2)
          cases v3 <;> try (cases h3)
          cases v4 <;> try (cases h4)
          rename_i s i j k
          unfold btw at h2 h3 h4
          simp only [Bool.and_eq_true, decide_eq_true_eq] at h2 h3 h4
          exact ⟨⟨s, i, j, k⟩, rfl, nmB_iff.mp h1, h2.1, h2.2, h3.1, h3.2, h4.1, h4.2, fun z => h5 (by rw [show k = 0 from z])⟩
        · cases h
      · cases h
    · cases h
  · cases h
theorem why_row {r : Rw} (h : IsNm r.nm) (hn : NumOk r) : why (.str r.nm) (.int r.day) (.int r.post) (.int r.pace) = none := by
  obtain ⟨a1, a2, a3, a4, a5, a6, a7⟩ := hn
  unfold why nmV btw
  rw [if_pos (nmB_iff.mpr h), if_pos (by simp only [Bool.and_eq_true, decide_eq_true_eq]; exact ⟨a1, a2⟩), if_pos (by simp only [Bool.and_eq_true, decide_eq_true_eq]; exact ⟨a3, a4⟩), if_pos ⟨by simp only [Bool.and_eq_true, decide_eq_true_eq]; exact ⟨a5, a6⟩, fun z => a7 (V.int.inj z)⟩]
def spPInit (K : PySem.W.Frag) : Sp := fun vs H Q E => ∃ x v1 v2 v3 v4 dx, vs = [.ref x, v1, v2, v3, v4] ∧ H x = some (.ins (CP K) dx []) ∧ (Kn K H v1 ∧ Kn K H v2 ∧ Kn K H v3 ∧ Kn K H v4) ∧
  (∀ r, [v1, v2, v3, v4] = rowV r → IsNm r.nm → NumOk r → ∀ t H1, Gr H H1 → H t = none → H1 t = some (.tup (rowV r)) → Q .non (upd H1 x (.ins (CP K) dx [("parts", .ref t)]))) ∧
  (∀ y, why v1 v2 v3 v4 = some y → Err E (xIP K) "reason" (.str y) H)
theorem ok_pinit (T : Tx K mg) : FnR PP w K mg base (CXn PP w) 3 (a_Painter_init K) (spPInit K) := by
  have F_is_between := ok_between (P := PP) (w := w) (base := base) T
  have F_is_name := ok_isname (P := PP) (w := w) (base := base) T
  refine fnR_of T.f_Painter_init sc_Painter_init (fun _ _ _ _ _ _ us hl => match us, hl with | [_, _, _, _, _], _ => rfl) (fun vs H Q E h => ?_) fun A outer s H vs Q E cdv hr h => ?_
  · obtain ⟨x, v1, v2, v3, v4, dx, rfl, _⟩ := h
    rfl
  · obtain ⟨x, v1, v2, v3, v4, dx, rfl, hx, ⟨n1, n2, n3, n4⟩, k, kE⟩ := h
    refine ⟨_, (pss_cons (ps_if (pt_not (pt_val (pe_callR F_is_name (hr.mono (by first | decide | omega)) T.k_is_name rfl T.g_is_name_names passL (pa_cons (pv 1) pa_nil))))
 (pss_one (Oc.ps_raise Oc.zn_mk rfl (Oc.takes_of Oc.zn_ok rfl rfl rfl rfl) (Ow.pmk_ox Ox.chain_VE T.x_InvalidPainter (by have z := Ow.room1 hr; exact z) T.g_InvalidPainter (pa_cons pe_str pa_nil) rfl)))
 pss_nil)
 (pss_cons (ps_if (pt_not (pt_val (pe_callR F_is_between (hr.mono (by first | decide | omega)) T.k_is_between rfl T.g_is_between passL (pa_cons (pv 2) (pa_cons pe_int (pa_cons (pe_con (pv 0) rfl) pa_nil))))))
 (pss_one (Oc.ps_raise Oc.zn_mk rfl (Oc.takes_of Oc.zn_ok rfl rfl rfl rfl) (Ow.pmk_ox Ox.chain_VE T.x_InvalidPainter (by have z := Ow.room1 hr; exact z) T.g_InvalidPainter (pa_cons pe_str pa_nil) rfl)))
 pss_nil)
 (pss_cons (ps_if (pt_not (pt_val (pe_callR F_is_between (hr.mono (by first | decide | omega)) T.k_is_between rfl T.g_is_between passL (pa_cons (pv 3) (pa_cons (pe_un un_neg (pe_con (pv 0) rfl)) (pa_cons (pe_con (pv 0) rfl) pa_nil))))))
 (pss_one (Oc.ps_raise Oc.zn_mk rfl (Oc.takes_of Oc.zn_ok rfl rfl rfl rfl) (Ow.pmk_ox Ox.chain_VE T.x_InvalidPainter (by have z := Ow.room1 hr; exact z) T.g_InvalidPainter (pa_cons pe_str pa_nil) rfl)))
 pss_nil)
 (pss_cons (ps_if (PW.pt (pw_or (pt_not (pt_val (pe_callR F_is_between (hr.mono (by first | decide | omega)) T.k_is_between rfl T.g_is_between passL (pa_cons (pv 4) (pa_cons (pe_un un_neg (pe_con (pv 0) rfl)) (pa_cons (pe_con (pv 0) rfl) pa_nil)))))) (pw_or1 (pt_cmpR (op_eqUK (K := K) rfl hr.units) (pv 4) pe_int (nomark _)))))
 (pss_one (Oc.ps_raise Oc.zn_mk rfl (Oc.takes_of Oc.zn_ok rfl rfl rfl rfl) (Ow.pmk_ox Ox.chain_VE T.x_InvalidPainter (by have z := Ow.room1 hr; exact z) T.g_InvalidPainter (pa_cons pe_str pa_nil) rfl)))
 pss_nil)
 (pss_one (ps_fld (pv 0) (pe_tup (pa_cons (pv 1) (pa_cons (pv 2) (pa_cons (pv 3) (pa_cons (pv 4) pa_nil))))) rfl)))))), ?_⟩
    try dsimp only [cxOf]
    walk_at "go"
    refine sp_name n1 fun H1 g1 => ⟨_, rfl, ?_⟩
    unfold why at kE
    cases c1 : nmV v1 with
    | false =>
      rw [if_neg (by rw [c1]; decide)] at kE
      walk_at "go"
      exact fun d hd => (kE _ rfl).go g1 hd
    | true =>
    rw [if_pos c1] at kE
    walk_at "go"
    have hx1 := g1.e _ _ hx
    refine r_conV hx1 T.cl_Painter T.co_Painter_MAX_DAY rfl ?_
    walk_at "go"
    refine sp_btw (n2.ext g1.e) ⟨_, rfl, ?_⟩
    rw [show (1000000000000000000000000000000 : Int) = 10 ^ 30 by decide]
    cases c2 : btw 0 (10 ^ 30) v2 with
    | false =>
      rw [if_neg (by rw [c2]; decide)] at kE
      walk_at "go"
      exact fun d hd => (kE _ rfl).go g1 hd
    | true =>
    rw [if_pos c2] at kE
    walk_at "go"
    refine r_conV hx1 T.cl_Painter T.co_Painter_MAX_POST rfl ?_
    walk_at "go"
    refine r_conV hx1 T.cl_Painter T.co_Painter_MAX_POST rfl ?_
    walk_at "go"
    refine sp_btw (n3.ext g1.e) ⟨_, rfl, ?_⟩
    rw [show (1000000000000000000000000000000 : Int) = 10 ^ 30 by decide]
    cases c3 : btw (-(10 ^ 30)) (10 ^ 30) v3 with
    | false =>
      rw [if_neg (by rw [c3]; decide)] at kE
      walk_at "go"
      exact fun d hd => (kE _ rfl).go g1 hd
    | true =>
    rw [if_pos c3] at kE
    walk_at "go"
    refine r_conV hx1 T.cl_Painter T.co_Painter_MAX_STRIDE rfl ?_
    walk_at "go"
    refine r_conV hx1 T.cl_Painter T.co_Painter_MAX_STRIDE rfl ?_
    walk_at "go"
    refine sp_btw (n4.ext g1.e) ⟨_, rfl, ?_⟩
    rw [show (1000000000000000000 : Int) = 10 ^ 18 by decide]
    cases c4 : btw (-(10 ^ 18)) (10 ^ 18) v4 with
    | false =>
      rw [if_neg (by rw [c4]; exact fun z => Bool.false_ne_true z.1)] at kE
      walk_at "go"
      exact fun d hd => (kE _ rfl).go g1 hd
    | true =>
    walk_at "go"
    obtain ⟨i, rfl⟩ : ∃ i, v4 = .int i := by
      cases v4 <;> try (cases c4)
      exact ⟨_, rfl⟩
    refine r_eqI ⟨_, rfl, ?_⟩
    refine r_iteD (fun h0 => ?_) fun h0 => ?_
    · rw [if_neg (fun z => z.2 (by rw [h0]))] at kE
      walk_at "go"
      exact fun d hd => (kE _ rfl).go g1 hd
    walk_at "go"
    refine ⟨by show 4 ≤ 16777216; decide, fun t ht => ?_⟩
    obtain ⟨r, e, hn, hk⟩ := why_none (v1 := v1) (v2 := v2) (v3 := v3) (v4 := .int i) (by unfold why; rw [if_pos c1, if_pos c2, if_pos c3, if_pos ⟨c4, fun z => h0 (V.int.inj z)⟩])
    walk_at "go"
    have hx2 := (Gr.new (o := .tup [v1, v2, v3, .int i]) ht).e _ _ hx1
    refine ⟨x, _, _, _, rfl, hx2, T.cl_Painter, T.no_Painter_parts, by decide, ?_⟩
    exact k r e hn hk t _ (g1.then ht) (g1.f _ ht) (by rw [← e]; exact upd_same)
/-! the properties -/
def spPP (K : PySem.W.Frag) (f : Rw → V) : Sp := fun vs H Q _ => ∃ a r, vs = [.ref a] ∧ PAt K H a r ∧ Q (f r) H
theorem ok_name (T : Tx K mg) : FnR P w K mg base (L2.CX P w) 1 (a_Painter_name K) (spPP K fun r => .str r.nm) := by
  refine fnR_of T.f_Painter_name sc_Painter_name (fun _ _ _ _ _ _ us hl => match us, hl with | [_], _ => rfl) (fun vs H Q E h => ?_) fun A outer s H vs Q E cdv hr h => ?_
  · obtain ⟨a, r, rfl, _⟩ := h
    rfl
  · obtain ⟨a, r, rfl, ⟨dx, t, h1, h2, _⟩, k⟩ := h
    refine ⟨_, (pss_one (ps_ret (pe_ix (ix_seqK (K := K) rfl) (pe_fld (pv 0) rfl) pe_int (fun _ _ => rfl)))), ?_⟩
    try dsimp only [cxOf]
    walk_at "go"
    refine r_fldV h1 T.cl_Painter T.no_Painter_parts rfl ?_
    walk_at "go"
    exact r_ixT (SqT.of h2) (atI_nat (j := 0) rfl) k
theorem ok_day (T : Tx K mg) : FnR P w K mg base (L2.CX P w) 1 (a_Painter_day K) (spPP K fun r => .int r.day) := by
  refine fnR_of T.f_Painter_day sc_Painter_day (fun _ _ _ _ _ _ us hl => match us, hl with | [_], _ => rfl) (fun vs H Q E h => ?_) fun A outer s H vs Q E cdv hr h => ?_
  · obtain ⟨a, r, rfl, _⟩ := h
    rfl
  · obtain ⟨a, r, rfl, ⟨dx, t, h1, h2, _⟩, k⟩ := h
    refine ⟨_, (pss_one (ps_ret (pe_ix (ix_seqK (K := K) rfl) (pe_fld (pv 0) rfl) pe_int (fun _ _ => rfl)))), ?_⟩
    try dsimp only [cxOf]
    walk_at "go"
    refine r_fldV h1 T.cl_Painter T.no_Painter_parts rfl ?_
    walk_at "go"
    exact r_ixT (SqT.of h2) (atI_nat (j := 1) rfl) k
theorem ok_post (T : Tx K mg) : FnR P w K mg base (L2.CX P w) 1 (a_Painter_post K) (spPP K fun r => .int r.post) := by
  refine fnR_of T.f_Painter_post sc_Painter_post (fun _ _ _ _ _ _ us hl => match us, hl with | [_], _ => rfl) (fun vs H Q E h => ?_) fun A outer s H vs Q E cdv hr h => ?_
  · obtain ⟨a, r, rfl, _⟩ := h
    rfl
  · obtain ⟨a, r, rfl, ⟨dx, t, h1, h2, _⟩, k⟩ := h
    refine ⟨_, (pss_one (ps_ret (pe_ix (ix_seqK (K := K) rfl) (pe_fld (pv 0) rfl) pe_int (fun _ _ => rfl)))), ?_⟩
    try dsimp only [cxOf]
    walk_at "go"
    refine r_fldV h1 T.cl_Painter T.no_Painter_parts rfl ?_
    walk_at "go"
    exact r_ixT (SqT.of h2) (atI_nat (j := 2) rfl) k
theorem ok_stride (T : Tx K mg) : FnR P w K mg base (L2.CX P w) 1 (a_Painter_stride K) (spPP K fun r => .int r.pace) := by
  refine fnR_of T.f_Painter_stride sc_Painter_stride (fun _ _ _ _ _ _ us hl => match us, hl with | [_], _ => rfl) (fun vs H Q E h => ?_) fun A outer s H vs Q E cdv hr h => ?_
  · obtain ⟨a, r, rfl, _⟩ := h
    rfl
  · obtain ⟨a, r, rfl, ⟨dx, t, h1, h2, _⟩, k⟩ := h
    refine ⟨_, (pss_one (ps_ret (pe_ix (ix_seqK (K := K) rfl) (pe_fld (pv 0) rfl) pe_int (fun _ _ => rfl)))), ?_⟩
    try dsimp only [cxOf]
    walk_at "go"
    refine r_fldV h1 T.cl_Painter T.no_Painter_parts rfl ?_
    walk_at "go"
    exact r_ixT (SqT.of h2) (atI_nat (j := 3) rfl) k
end
end Tx

set_option maxRecDepth 100000
set_option maxHeartbeats 4000000
namespace Tx
open PySem PySem.Spec PyProof.Rows L2 My
section
variable {P : Program} {w : World} {K : PySem.W.Frag} {mg : Str → Option Value} {base : Heap}
/-! ### Fence -/
abbrev CF (K : PySem.W.Frag) : Addr := He.ga K "Fence"
/-- painters at the values vs -/
def PsAt (K : PySem.W.Frag) (H : Hp) : List V → List Rw → Prop
  | [], [] => True
  | v :: vs, r :: rs => (∃ a, v = .ref a ∧ PAt K H a r) ∧ PsAt K H vs rs
  | _, _ => False
theorem PsAt.ext {H H' : Hp} (e : Ext H H') : ∀ {vs : List V} {rs : List Rw}, PsAt K H vs rs → PsAt K H' vs rs
  | [], [], _ => trivial
  | _ :: _, _ :: _, ⟨⟨a, e1, e2⟩, h⟩ => ⟨⟨a, e1, e2.ext e⟩, PsAt.ext e h⟩
theorem PsAt.len {H : Hp} : ∀ {vs : List V} {rs : List Rw}, PsAt K H vs rs → vs.length = rs.length
  | [], [], _ => rfl
  | _ :: _, _ :: _, ⟨_, h⟩ => congrArg (· + 1) (PsAt.len h)
theorem PsAt.snoc {H : Hp} {a : Addr} {r : Rw} (e : PAt K H a r) : ∀ {vs : List V} {rs : List Rw}, PsAt K H vs rs → PsAt K H (vs ++ [.ref a]) (rs ++ [r])
  | [], [], _ => ⟨⟨a, rfl, e⟩, trivial⟩
  | _ :: _, _ :: _, ⟨h1, h⟩ => ⟨h1, PsAt.snoc e h⟩
theorem PsAt.at {H : Hp} {v : V} : ∀ {vs : List V} {rs : List Rw} {i : Nat}, PsAt K H vs rs → vs[i]? = some v → ∃ a r, rs[i]? = some r ∧ v = .ref a ∧ PAt K H a r
  | [], [], _, _, h => by simp at h
  | u :: vs, r :: rs, 0, ⟨⟨a, e1, e2⟩, h⟩, hm => by
    have : u = v := by simpa using hm
    subst this
    exact ⟨a, r, rfl, e1, e2⟩
  | u :: vs, r :: rs, i + 1, ⟨_, h⟩, hm => by simpa using PsAt.at (vs := vs) (rs := rs) (i := i) h (by simpa using hm)
/-- the dict of places -/
def plKV (i : Nat) : List Str → List (Key × V)
  | [] => []
  | n :: r => (.inr n, .int i) :: plKV (i + 1) r
theorem plKV_len : ∀ {k : Nat} {l : List Str}, (plKV k l).length = l.length
  | _, [] => rfl
  | k, n :: r => congrArg (· + 1) (plKV_len (k := k + 1) (l := r))
theorem plKV_snoc {nm : Str} : ∀ {k : Nat} {l : List Str}, plKV k (l ++ [nm]) = plKV k l ++ [(.inr nm, .int ((k + l.length : Nat) : Int))]
  | _, [] => rfl
  | k, n :: r => by
    show (Sum.inr n, V.int k) :: plKV (k + 1) (r ++ [nm]) = (Sum.inr n, V.int k) :: (plKV (k + 1) r ++ _)
    rw [plKV_snoc (k := k + 1) (l := r), List.length_cons]
    have e : k + 1 + r.length = k + (r.length + 1) := by omega
    rw [e]
theorem plKV_key : ∀ {k : Nat} {l : List Str} {kv : Key × V}, kv ∈ plKV k l → ∃ n ∈ l, kv.1 = .inr n
  | _, [], _, h => (List.not_mem_nil h).elim
  | k, n :: r, kv, h => by
    rcases List.mem_cons.mp h with rfl | h
    · exact ⟨n, List.mem_cons_self, rfl⟩
    · obtain ⟨m, h1, h2⟩ := plKV_key h
      exact ⟨m, List.mem_cons_of_mem _ h1, h2⟩
theorem putK_new {kvs : List (Key × V)} {k : Key} {v : V} (h : ∀ kv ∈ kvs, kv.1 ≠ k) : putK kvs k v = kvs ++ [(k, v)] := by
  unfold putK
  rw [if_neg]
  rw [List.any_eq_true]
  rintro ⟨kv, h1, h2⟩
  exact h kv h1 (of_decide_eq_true h2)
theorem pl_put {names : List Str} {nm : Str} {i : Nat} (hn : names.Nodup) (h : names[i]? = some nm) : putK (plKV 0 (names.take i)) (.inr nm) (.int i) = plKV 0 (names.take (i + 1)) := by
  obtain ⟨hi1, hi2⟩ := List.getElem?_eq_some_iff.mp h
  rw [putK_new fun kv hkv e => ?_, List.take_add_one, h]
  · show _ = plKV 0 (names.take i ++ [nm])
    rw [plKV_snoc, List.length_take, Nat.min_eq_left (by omega), Nat.zero_add]
  · obtain ⟨m, hm, e2⟩ := plKV_key hkv
    rw [e2] at e
    have e3 : m = nm := Sum.inr.inj e
    subst e3
    obtain ⟨j, hj⟩ := List.mem_iff_getElem?.mp hm
    have hji : j < i := by
      have := (List.getElem?_eq_some_iff.mp hj).1
      rw [List.length_take] at this
      omega
    rw [List.getElem?_take_of_lt hji] at hj
    obtain ⟨hj1, hj2⟩ := List.getElem?_eq_some_iff.mp hj
    exact (List.pairwise_iff_getElem.mp (List.nodup_iff_pairwise_ne.mp hn)) j i hj1 hi1 hji (hj2.trans hi2.symm)
def FAt (K : PySem.W.Frag) (H : Hp) (a : Addr) (rs : List Rw) : Prop := ∃ dx t d vs, H a = some (.ins (CF K) dx [("listed", .ref t), ("places", .ref d)]) ∧ SqT K H t vs ∧ PsAt K H vs rs ∧ H d = some (.dK (plKV 0 (rs.map Rw.nm))) ∧ RowsOk rs
theorem FAt.ext {H H' : Hp} {a : Addr} {rs : List Rw} (h : FAt K H a rs) (e : Ext H H') : FAt K H' a rs := by
  obtain ⟨dx, t, d, vs, h1, h2, h3, h4, h5⟩ := h
  exact ⟨dx, t, d, vs, e _ _ h1, h2.ext e, h3.ext e, e _ _ h4, h5⟩
theorem plKV_val {nm : Str} : ∀ {k : Nat} {l : List Str} {j : Nat}, l.Nodup → l[j]? = some nm → valV (plKV k l) (.inr nm) = some (.int ((k + j : Nat) : Int))
  | _, [], _, _, h => by simp at h
  | k, n :: r, 0, hd, h => by
    have : n = nm := by simpa using h
    subst this
    show valV ((Sum.inr n, V.int k) :: plKV (k + 1) r) (.inr n) = _
    unfold valV
    simp
  | k, n :: r, j + 1, hd, h => by
    have h' : r[j]? = some nm := by simpa using h
    have hne : n ≠ nm := fun e => by
      rw [e] at hd
      exact (List.nodup_cons.mp hd).1 (List.mem_of_getElem? h')
    have ih := plKV_val (k := k + 1) (l := r) (j := j) (List.nodup_cons.mp hd).2 h'
    have e2 : k + 1 + j = k + (j + 1) := by omega
    rw [e2] at ih
    rw [← ih]
    show valV ((Sum.inr n, V.int k) :: plKV (k + 1) r) (.inr nm) = _
    unfold valV
    simp [hne]
def dupFrom : List Str → List Str → Option Str
  | _, [] => none
  | pre, n :: r => if n ∈ pre then some n else dupFrom (pre ++ [n]) r
def dup (l : List Str) : Option Str := dupFrom [] l
theorem dupFrom_none : ∀ {l pre : List Str}, dupFrom pre l = none → pre.Nodup → (pre ++ l).Nodup
  | [], pre, _, h => by rw [List.append_nil]; exact h
  | n :: r, pre, e, h => by
    have e : (if n ∈ pre then some n else dupFrom (pre ++ [n]) r) = none := e
    by_cases c : n ∈ pre
    · rw [if_pos c] at e
      cases e
    · rw [if_neg c] at e
      have z := dupFrom_none e (by
        rw [List.nodup_append]
        exact ⟨h, by simp, fun a ha b hb q => c (by rw [List.mem_singleton.mp hb] at q; exact q ▸ ha)⟩)
      rw [List.append_assoc] at z
      exact z
theorem dup_none {l : List Str} (h : dup l = none) : l.Nodup := dupFrom_none (pre := []) h List.nodup_nil
theorem dupFrom_nodup : ∀ {l pre : List Str}, (pre ++ l).Nodup → dupFrom pre l = none
  | [], _, _ => rfl
  | n :: r, pre, h => by
    show (if n ∈ pre then some n else dupFrom (pre ++ [n]) r) = none
    rw [if_neg (fun c => (List.nodup_append.mp h).2.2 n c n List.mem_cons_self rfl)]
    exact dupFrom_nodup (by rw [List.append_assoc]; exact h)
theorem dup_nodup {l : List Str} (h : l.Nodup) : dup l = none := dupFrom_nodup (pre := []) h
theorem dup_at {l : List Str} {i : Nat} {nm : Str} (h : dupFrom (l.take i) (l.drop i) = dup l) (e : l[i]? = some nm) : (nm ∈ l.take i → dup l = some nm) ∧ (nm ∉ l.take i → dupFrom (l.take (i + 1)) (l.drop (i + 1)) = dup l) := by
  obtain ⟨hi, ei⟩ := List.getElem?_eq_some_iff.mp e
  rw [List.drop_eq_getElem_cons hi, ei] at h
  have h : (if nm ∈ l.take i then some nm else dupFrom (l.take i ++ [nm]) (l.drop (i + 1))) = dup l := h
  refine ⟨fun c => ?_, fun c => ?_⟩
  · rw [if_pos c] at h
    exact h.symm
  · rw [if_neg c] at h
    rw [List.take_add_one, e]
    exact h
theorem dup_end {l : List Str} (h : dupFrom (l.take l.length) (l.drop l.length) = dup l) : dup l = none := by
  rw [List.drop_length] at h
  exact h.symm
theorem PAt.put {H : Hp} {p a : Addr} {xs ys : List V} {r : Rw} (e : H p = some (.lst xs)) (h : PAt K H a r) : PAt K (upd H p (.lst ys)) a r := by
  obtain ⟨dx, t, h1, h2, h3⟩ := h
  exact ⟨dx, t, by rw [upd_ne (ne_of h1 e (by intro z; cases z))]; exact h1, by rw [upd_ne (ne_of h2 e (by intro z; cases z))]; exact h2, h3⟩
theorem PsAt.put {H : Hp} {p : Addr} {xs ys : List V} (e : H p = some (.lst xs)) : ∀ {vs : List V} {rs : List Rw}, PsAt K H vs rs → PsAt K (upd H p (.lst ys)) vs rs
  | [], [], _ => trivial
  | _ :: _, _ :: _, ⟨⟨a, e1, e2⟩, h⟩ => ⟨⟨a, e1, PAt.put e e2⟩, PsAt.put e h⟩
/-! ### Fence.__init__ -/
theorem inV_str {nm : Str} {l : List Str} : inV (.str nm) (l.map V.str) = decide (nm ∈ l) := by
  unfold inV
  rw [List.any_map]
  by_cases h : nm ∈ l
  · rw [decide_eq_true h, List.any_eq_true]
    exact ⟨nm, h, by show (nm == nm) = true; simp⟩
  · rw [decide_eq_false h, List.any_eq_false]
    intro y hy z
    have z : (y == nm) = true := z
    exact h (beq_iff_eq.mp z ▸ hy)
theorem PsAt.ok {H : Hp} : ∀ {vs : List V} {rs : List Rw}, PsAt K H vs rs → ∀ r ∈ rs, IsNm r.nm ∧ NumOk r
  | [], [], _, _, h => (List.not_mem_nil h).elim
  | _ :: _, r :: _, ⟨⟨a, _, dx, t, _, _, h3, h4⟩, h⟩, q, hq => by
    rcases List.mem_cons.mp hq with rfl | hq
    · exact ⟨h3, h4⟩
    · exact PsAt.ok h q hq
def spFInit (K : PySem.W.Frag) : Sp := fun vs H Q E => ∃ x dx t ps rs, vs = [.ref x, .ref t] ∧ H x = some (.ins (CF K) dx []) ∧ SqT K H t ps ∧ ps.length < sizeLine ∧ PsAt K H ps rs ∧
  (RowsOk rs → ∀ d H1, Gr H H1 → H d = none → H1 d = some (.dK (plKV 0 (rs.map Rw.nm))) → Q .non (upd H1 x (.ins (CF K) dx [("listed", .ref t), ("places", .ref d)]))) ∧
  (∀ n, dup (rs.map Rw.nm) = some n → Err E (xDN K) "value" (.str n) H) ∧ (dup (rs.map Rw.nm) = none → 40 < rs.length → Err E (xTM K) "limit" (.int 40) H)
theorem ok_finit (T : Tx K mg) : FnR PP w K mg base (CXn PP w) 3 (a_Fence_init K) (fun vs H Q E => ∃ ws rest, vs = ws ++ rest ∧ ws.length = 1 ∧ rest.length ≤ sizeLine ∧ ∀ p, H p = none → spFInit K (ws ++ [V.ref p]) (upd H p (.tup rest)) Q E) := by
  have F_Painter_name := ok_name (P := PP) (w := w) (base := base) T
  refine fnX_star (ps := ["self"]) cxUpZ T.f_Fence_init sc_Fence_init (fun kV doc pm an cdv ct us rest hl => match us, rest, hl with | [_], [], _ => rfl | [_], _ :: _, _ => rfl) fun A outer s H vs Q E cdv hr h => ?_
  obtain ⟨x, dx, t, ps, rs, rfl, hx, ht, hpl, hps, k, kD, kM⟩ := h
  have hrl : rs.length < 16777216 := hps.len ▸ hpl
  have hpl : ps.length < 16777216 := hpl
  refine ⟨_, (C8.pss_cut (ps_for (passes_of rfl) rfl (pi_enumA rfl T.n_enumerate (pa_cons (pv 1) pa_nil)) (pg_tupK (K := K) (n := 2) rfl rfl (pgs_cons (pg_name (i := 2) sc_Fence_init.nd rfl (by first | exact Or.inl rfl | exact Or.inr rfl)) (pgs_cons (pg_name (i := 3) sc_Fence_init.nd rfl (by first | exact Or.inl rfl | exact Or.inr rfl)) pgs_nil)))
 (pss_one (ps_if (pt_not (pt_val (pe_callB call_isi rfl T.n_isinstance (by decide +kernel) (pa_cons (pv 3) (pa_cons (pe_glob (v := .ref (He.ga K "Painter")) rfl T.g_Painter rfl) pa_nil)))))
 (pss_one ps_never)
 pss_nil)))
 (C8.pss_cut (ps_setLc (i := 4) (own := [("painter", 3)]) rfl sc_Fence_init.nd rfl rfl (sw_true rfl rfl rfl (by decide +kernel)) (pi_anyK (K := K) rfl (pv 1)) (blkOk_by (own := [("painter", 3)]) (N := N_Fence_init) (sc := defScope s_Fence_init) (by decide +kernel)) (fun _ _ _ _ _ => (pg_name (i := 3) sc_Fence_init.nd rfl (by first | exact Or.inl rfl | exact Or.inr rfl))) (fun _ _ _ _ _ => pts_nil) (fun _ _ _ _ _ => (pe_propR (pv 3) T.cl_Painter T.pr_Painter_name F_Painter_name (hr.mono (by first | decide | omega)) passL)))
 (C8.pss_cut (ps_for (passes_of rfl) rfl (pi_enumA rfl T.n_enumerate (pa_cons (pv 4) pa_nil)) (pg_tupK (K := K) (n := 2) rfl rfl (pgs_cons (pg_name (i := 2) sc_Fence_init.nd rfl (by first | exact Or.inl rfl | exact Or.inr rfl)) (pgs_cons (pg_name (i := 5) sc_Fence_init.nd rfl (by first | exact Or.inl rfl | exact Or.inr rfl)) pgs_nil)))
 (pss_one (ps_if (pt_cmpR (op_inK (K := K) rfl) (pv 5) (pe_slice (sl_anyK (K := K) rfl) (pv 4) po_none (po_some (pv 2))) (by rfl))
 (pss_one (Oc.ps_raise Oc.zn_mk rfl (Oc.takes_of Oc.zn_ok rfl rfl rfl rfl) (Ow.pmk_ox Ox.chain_VE T.x_DuplicateName (by have z := Ow.room1 hr; exact z) T.g_DuplicateName (pa_cons (pv 5) pa_nil) rfl)))
 pss_nil)))
 (C8.pss_cut (ps_if (pt_cmpR op_gt (pe_callB (call_lenUK (K := K) rfl) rfl T.n_len (by decide +kernel) (pa_cons (pv 1) pa_nil)) (C8.pe_gc rfl T.c_MAX_PAINTERS) (nomark _))
 (pss_one (Oc.ps_raise Oc.zn_mk rfl (Oc.takes_of Oc.zn_ok rfl rfl rfl rfl) (Ow.pmk_ox Ox.chain_OE T.x_TooMany (by have z := Ow.room1 hr; exact z) T.g_TooMany (pa_cons (C8.pe_gc rfl T.c_MAX_PAINTERS) pa_nil) rfl)))
 pss_nil)
 (C8.pss_cut (ps_fld (pv 0) (pv 1) rfl)
 (pss_one (ps_fld (pv 0) (pe_dc (own := [("index", 2), ("name", 5)]) rfl sc_Fence_init.nd (pi_enumA rfl T.n_enumerate (pa_cons (pv 4) pa_nil)) (blkOk_by (own := [("index", 2), ("name", 5)]) (N := N_Fence_init) (sc := defScope s_Fence_init) (by decide +kernel)) (fun _ _ _ _ _ => (pg_tupK (K := K) (n := 2) rfl rfl (pgs_cons (pg_name (i := 2) sc_Fence_init.nd rfl (by first | exact Or.inl rfl | exact Or.inr rfl)) (pgs_cons (pg_name (i := 5) sc_Fence_init.nd rfl (by first | exact Or.inl rfl | exact Or.inr rfl)) pgs_nil)))) (fun _ _ _ _ _ => pts_nil) (fun _ _ _ _ _ => (pv 5)) (fun _ _ _ _ _ => (pv 2))) rfl))))))), ?_⟩
  try dsimp only [cxOf]
  -- every one is a painter
  refine r_cut (fun σ' H' => ∃ o2 o3, σ' = [some (.ref x), some (.ref t), o2, o3, none, none] ∧ Gr H H') ?_ ?_
  · walk_at "go"
    refine ⟨t, ps, rfl, .inr ⟨ht, ?_⟩⟩
    refine for_enumT (fun i σ' H' => ∃ o2 o3, σ' = [some (.ref x), some (.ref t), o2, o3, none, none] ∧ Gr H H') ⟨_, _, rfl, Gr.refl _⟩ (fun i σ' H' hi ⟨_, _, _, g⟩ => ht.ext g.e) (fun i v σ' H' T1 hv ⟨o2, o3, e, g⟩ hT => ?_) fun σ' H' h => h
    subst e
    obtain ⟨a, r, hr1, rfl, dy, u, h1, h2⟩ := hps.at hv
    have g1 := g.then (o := .tup [.int (i : Nat), .ref a]) hT
    refine r_gtup upd_same rfl ?_
    walk_at "go"
    refine ⟨_, _, _, _, _, rfl, .own _, .base (.ins (g1.e _ _ h1) T.cl_Painter T.ii_Painter.ha T.ii_Painter.hn T.ii_Painter.htk T.ii_Painter.hm), T.ii_Painter.me, ⟨_, rfl, r_iteF ?_⟩⟩
    walk_at "go"
    exact ⟨_, _, rfl, g1⟩
  rintro σ1 H1 ⟨o2, o3, rfl, g1⟩
  -- the names
  refine r_cut (fun σ' H' => ∃ q, σ' = [some (.ref x), some (.ref t), o2, o3, some (.ref q), none] ∧ Gr H H' ∧ H' q = some (.lst ((rs.map Rw.nm).map V.str))) ?_ ?_
  · walk_at "go"
    refine r_iT ?_
    walk_at "go"
    refine ⟨_, rfl, ⟨_, ht.ext g1.e⟩, fun D hD => ?_⟩
    refine lc_tup (xs := ps) (fun i H' => Gr H1 H' ∧ H' D = some (.lst (((rs.map Rw.nm).take i).map V.str))) ⟨Gr.new hD, upd_same⟩ (fun i H' hi ⟨g, _⟩ => (ht.ext g1.e).ext g.e) (fun i v H' hv ⟨g, hd⟩ => ?_) fun H' ⟨g, hd⟩ => ?_
    · obtain ⟨a, r, hr1, rfl, hp⟩ := hps.at hv
      have hp' := hp.ext (g1.trans g).e
      obtain ⟨dy, u, h1, _⟩ := id hp'
      walk_at "go"
      refine ⟨rfl, ?_⟩
      walk_at "go"
      refine ⟨a, dy, _, rfl, h1, a, r, rfl, hp', _, hd, by rw [List.length_map, List.length_take, List.length_map]; show _ < 16777216; omega, g.mut hD, ?_⟩
      rw [upd_same, List.take_add_one, List.getElem?_map, hr1]
      simp
    · walk_at "go"
      exact ⟨D, rfl, g1.trans g, by rw [hd, List.take_of_length_le (by rw [List.length_map, hps.len]; exact Nat.le_refl _)]⟩
  rintro σ2 H2 ⟨q, rfl, g2, hq⟩
  -- none twice
  refine r_cut (fun σ' H' => ∃ o2 o5, σ' = [some (.ref x), some (.ref t), o2, o3, some (.ref q), o5] ∧ Gr H2 H' ∧ dup (rs.map Rw.nm) = none) ?_ ?_
  · walk_at "go"
    refine ⟨q, _, rfl, .inl ⟨SqL.of hq, ?_⟩⟩
    refine for_enumL (fun i σ' H' => ∃ o2 o5, σ' = [some (.ref x), some (.ref t), o2, o3, some (.ref q), o5] ∧ Gr H2 H' ∧ dupFrom ((rs.map Rw.nm).take i) ((rs.map Rw.nm).drop i) = dup (rs.map Rw.nm)) ⟨_, _, rfl, Gr.refl _, by rw [List.take_zero, List.drop_zero]; rfl⟩ (fun i σ' H' hi ⟨_, _, _, g, _⟩ => (SqL.of hq).ext g.e) (fun i v σ' H' T1 hv ⟨o2, o5, e, g, hdup⟩ hT => ?_) fun σ' H' ⟨o2, o5, e, g, hdup⟩ => ⟨o2, o5, e, g, dup_end (by rw [List.length_map] at hdup; exact hdup)⟩
    subst e
    rw [List.getElem?_map] at hv
    obtain ⟨nm, hnm, rfl⟩ := Option.map_eq_some_iff.mp hv
    have g3 := g.then (o := .tup [.int (i : Nat), .str nm]) hT
    refine r_gtup upd_same rfl ?_
    walk_at "go"
    refine r_slL ((SqL.of hq).ext g3.e) fun q4 hq4 => ?_
    walk_at "go"
    have hcut : cutV ((rs.map Rw.nm).map V.str) none (some (i : Int)) = ((rs.map Rw.nm).take i).map V.str := by
      unfold cutV
      have e0 : HT.sIx ((rs.map Rw.nm).map V.str).length 0 none = 0 := rfl
      rw [e0, HT.sIx_nat, List.drop_zero, Nat.sub_zero, ← List.map_take]
      congr 1
      have := (List.getElem?_eq_some_iff.mp hnm).1
      rw [Nat.min_eq_left (by rw [List.length_map]; omega)]
    refine ⟨q4, _, rfl, .inl (SqL.of upd_same), rfl, ?_, ?_⟩
    · rw [hcut, List.all_map, List.all_eq_true]
      exact fun _ _ => rfl
    · rw [hcut, inV_str]
      have g4 := g3.then (o := .lst (((rs.map Rw.nm).take i).map V.str)) hq4
      refine ⟨_, rfl, r_iteD (fun hin => ?_) fun hin => ?_⟩
      · walk_at "go"
        exact fun d hd => (kD nm ((dup_at hdup hnm).1 hin)).go (g2.trans g4) hd
      · walk_at "go"
        exact ⟨_, _, rfl, g4, (dup_at hdup hnm).2 hin⟩
  rintro σ3 H3 ⟨o2, o5, rfl, g3, hdn⟩
  have g3' := g2.trans g3
  refine r_cut (fun σ' H' => σ' = [some (.ref x), some (.ref t), o2, o3, some (.ref q), o5] ∧ H3 = H' ∧ rs.length ≤ 40) ?_ ?_
  · walk_at "go"
    refine r_lenT (ht.ext g3'.e) ?_
    walk_at "go"
    rw [hps.len]
    refine r_iteD (fun h => ?_) fun h => ?_
    · walk_at "go"
      exact fun d hd => (kM hdn (by omega)).go g3' hd
    walk_at "go"
    exact ⟨rfl, rfl, by omega⟩
  rintro σ4 H4 ⟨rfl, rfl, hmax⟩
  have hnod := dup_none hdn
  have hrs : RowsOk rs := ⟨fun r hr => (hps.ok r hr).2, hnod, fun r hr => (hps.ok r hr).1, hmax⟩
  have hx3 := g3'.e _ _ hx
  refine r_cut (fun σ' H' => σ' = [some (.ref x), some (.ref t), o2, o3, some (.ref q), o5] ∧ H' = upd H3 x (.ins (CF K) dx [("listed", .ref t)])) ?_ ?_
  · walk_at "go"
    exact ⟨x, _, _, _, rfl, hx3, T.cl_Fence, T.no_Fence_listed, by decide, rfl, rfl⟩
  rintro σ5 H5 ⟨rfl, rfl⟩
  have hqx : q ≠ x := ne_of (g3.e _ _ hq) hx3 (by intro z; cases z)
  have hq5 : (upd H3 x (.ins (CF K) dx [("listed", .ref t)])) q = some (.lst ((rs.map Rw.nm).map V.str)) := by rw [upd_ne hqx]; exact g3.e _ _ hq
  walk_at "go"
  refine ⟨q, _, rfl, .inl ⟨SqL.of hq5, fun D hD => ?_⟩⟩
  refine dc_enumL (fun i H' => Gr (upd H3 x (.ins (CF K) dx [("listed", .ref t)])) H' ∧ H' D = some (.dK (plKV 0 ((rs.map Rw.nm).take i)))) ⟨Gr.new hD, upd_same⟩ (fun i H' hi ⟨g, _⟩ => (SqL.of hq5).ext g.e) (fun i v H' T1 hv ⟨g, hd⟩ hT => ?_) fun H' ⟨g, hd⟩ => ?_
  · rw [List.getElem?_map] at hv
    obtain ⟨nm, hnm, rfl⟩ := Option.map_eq_some_iff.mp hv
    have g4 := g.then (o := .tup [.int (i : Nat), .str nm]) hT
    have hTD : D ≠ T1 := ne_of_none hd hT
    refine r_gtup upd_same rfl ?_
    walk_at "go"
    refine ⟨rfl, ?_⟩
    walk_at "go"
    refine ⟨_, .inr nm, rfl, by rw [upd_ne hTD]; exact hd, by rw [plKV_len, List.length_take, List.length_map]; show _ < 16777216; omega, g4.mut hD, ?_⟩
    rw [upd_same, pl_put hnod hnm]
  · have gb := g.back hx3
    walk_at "go"
    have hxx := g.e _ _ upd_same
    refine ⟨x, _, _, _, rfl, hxx, T.cl_Fence, T.no_Fence_places, (show 1 < 1000 by decide), ?_⟩
    have hDx : D ≠ x := ne_of hd hxx (by intro z; cases z)
    have k1 := k hrs D _ (g3'.trans gb) (g3'.f _ (by
      by_cases e : D = x
      · exact absurd e hDx
      · rw [upd_ne e] at hD
        exact hD)) (by rw [upd_ne hDx, hd, List.take_of_length_le (by simp)])
    rw [L2.upd_upd] at k1
    exact k1

/-! ### Fence.read -/
/-- Fence( *ps) -/
theorem fence_made {H : Hp} {ps : List V} {rs : List Rw} {Q : Hp → Prop} {E : XK} {x dx : Addr} (hps : PsAt K H ps rs) (hl : ps.length < sizeLine) (hx : H x = none) (hdx : H dx = none) (hne : dx ≠ x) (k : RowsOk rs → ∀ H1, Gr H H1 → FAt K H1 x rs → Q H1)
    (kD : ∀ n, dup (rs.map Rw.nm) = some n → Err E (xDN K) "value" (.str n) H) (kM : dup (rs.map Rw.nm) = none → 40 < rs.length → Err E (xTM K) "limit" (.int 40) H) :
    ∃ ws rest, V.ref x :: ps = ws ++ rest ∧ ws.length = 1 ∧ rest.length ≤ sizeLine ∧ ∀ p, (upd (upd H dx (.own x)) x (.ins (CF K) dx [])) p = none → spFInit K (ws ++ [V.ref p]) (upd (upd (upd H dx (.own x)) x (.ins (CF K) dx [])) p (.tup rest)) (fun v H2 => v = .non ∧ Q H2) E := by
  have hx' : (upd H dx (.own x)) x = none := by rw [upd_ne (Ne.symm hne)]; exact hx
  have g1 : Gr H (upd (upd H dx (.own x)) x (.ins (CF K) dx [])) := (Gr.new hdx).then hx'
  refine ⟨[.ref x], ps, rfl, rfl, Nat.le_of_lt hl, fun t ht => ?_⟩
  have hxt : x ≠ t := ne_of_none (upd_same) ht
  have g2 := g1.then (o := .tup ps) ht
  refine ⟨x, dx, t, ps, rs, rfl, by rw [upd_ne hxt]; exact upd_same, SqT.of upd_same, hl, hps.ext g2.e, fun hok d H1 g hd h1 => ⟨rfl, ?_⟩, fun n hn => (kD n hn).gr g2, fun h0 h1 => (kM h0 h1).gr g2⟩
  have g3 := (g2.trans g).mut (o := .ins (CF K) dx [("listed", .ref t), ("places", .ref d)]) hx
  have hxx := g.e x _ (by rw [upd_ne hxt]; exact upd_same)
  have ht1 := g.e t _ upd_same
  have htx : t ≠ x := Ne.symm hxt
  have hdx2 : d ≠ x := ne_of h1 hxx (by intro z; cases z)
  exact k hok _ g3 ⟨dx, t, d, ps, upd_same, SqT.of (by rw [upd_ne htx]; exact ht1), hps.ext g3.e, by rw [upd_ne hdx2]; exact h1, hok⟩
end
end Tx

set_option maxRecDepth 100000
set_option maxHeartbeats 4000000
namespace Tx
open PySem PySem.Spec PyProof.Rows L2 My
section
variable {P : Program} {w : World} {K : PySem.W.Frag} {mg : Str → Option Value} {base : Heap}
/-! ### what an action makes of rows -/
inductive Kd where
  | painter
  | twice
  | many
  | unknown
  | action
def Kd.cls (K : PySem.W.Frag) : Kd → Value
  | .painter => xIP K
  | .twice => xDN K
  | .many => xTM K
  | .unknown => xUN K
  | .action => xIA K
def Kd.fld : Kd → Str
  | .painter => "reason"
  | .many => "limit"
  | _ => "value"
inductive Res where
  | ok (rs : List Rw)
  | bad (c : Kd) (v : V)
def hasV (rs : List Rw) : V → Bool
  | .str s => decide (s ∈ rs.map Rw.nm)
  | _ => false
def findR (rs : List Rw) : V → Option Rw
  | .str s => rs.find? fun r => decide (r.nm = s)
  | _ => none
def rowOf : V → V → V → V → Rw
  | .str n, .int d, .int p, .int s => ⟨n, d, p, s⟩
  | _, _, _, _ => ⟨"", 0, 0, 0⟩
def swapR (a b r : Rw) : Rw := if r.nm = a.nm then b else if r.nm = b.nm then a else r
def movR (a b r : Rw) : Rw := if r.nm = a.nm then b else r
def addR (rs : List Rw) (r : Rw) : Res := match dup ((rs ++ [r]).map Rw.nm) with
  | some n => .bad .twice (.str n)
  | none => if 40 < (rs ++ [r]).length then .bad .many (.int 40) else .ok (rs ++ [r])
inductive Act where
  | come (v1 v2 v3 v4 : V)
  | leave (v : V)
  | move (v v2 v3 : V)
  | swap (v1 v2 : V)
def Act.vs : Act → List V
  | .come v1 v2 v3 v4 => [.str "come", v1, v2, v3, v4]
  | .leave v => [.str "leave", v]
  | .move v v2 v3 => [.str "move", v, v2, v3]
  | .swap v1 v2 => [.str "swap", v1, v2]
def Act.Kn (K : PySem.W.Frag) (H : Hp) : Act → Prop
  | .come v1 v2 v3 v4 => Tx.Kn K H v1 ∧ Tx.Kn K H v2 ∧ Tx.Kn K H v3 ∧ Tx.Kn K H v4
  | .leave v => Tx.Kn K H v ∧ ∃ s, v = .str s
  | .move v v2 v3 => Tx.Kn K H v ∧ Tx.Kn K H v2 ∧ Tx.Kn K H v3
  | .swap v1 v2 => Tx.Kn K H v1 ∧ Tx.Kn K H v2
theorem Act.Kn.ext {H H' : Hp} (e : Ext H H') : ∀ {a : Act}, a.Kn K H → a.Kn K H'
  | .come _ _ _ _, ⟨h1, h2, h3, h4⟩ => ⟨h1.ext e, h2.ext e, h3.ext e, h4.ext e⟩
  | .leave _, ⟨h, s⟩ => ⟨h.ext e, s⟩
  | .move _ _ _, ⟨h1, h2, h3⟩ => ⟨h1.ext e, h2.ext e, h3.ext e⟩
  | .swap _ _, ⟨h1, h2⟩ => ⟨h1.ext e, h2.ext e⟩
def stepA (rs : List Rw) : Act → Res
  | .come v1 v2 v3 v4 => match why v1 v2 v3 v4 with
    | some y => .bad .painter (.str y)
    | none => addR rs (rowOf v1 v2 v3 v4)
  | .leave v => if hasV rs v = true then .ok (rs.filter fun r => decide (V.str r.nm ≠ v)) else .bad .unknown v
  | .move v v2 v3 => match findR rs v with
    | none => .bad .unknown v
    | some r => match why v v2 v3 (.int r.pace) with
      | some y => .bad .painter (.str y)
      | none => .ok (rs.map (movR r (rowOf v v2 v3 (.int r.pace))))
  | .swap v1 v2 => match findR rs v1 with
    | none => .bad .unknown v1
    | some a => match findR rs v2 with
      | none => .bad .unknown v2
      | some b => if a.nm = b.nm then .bad .twice v1 else .ok (rs.map (swapR a b))
def stepsA : List Rw → List Act → Res
  | rs, [] => .ok rs
  | rs, a :: l => match stepA rs a with
    | .ok q => stepsA q l
    | .bad c v => .bad c v
def ResP (K : PySem.W.Frag) (E : XK) (H : Hp) (Q : VK) : Res → Prop
  | .ok rs => ∀ f H1, Gr H H1 → FAt K H1 f rs → Q (.ref f) H1
  | .bad c v => Err E (c.cls K) c.fld v H
theorem ResP.gr {E : XK} {H H1 : Hp} {Q : VK} (g : Gr H H1) : ∀ {r : Res}, ResP K E H Q r → ResP K E H1 Q r
  | .ok _, h => fun f H2 g2 hf => h f H2 (g.trans g2) hf
  | .bad _ _, h => Err.gr h g
theorem findR_has {rs : List Rw} {v : V} (h : findR rs v = none) : hasV rs v = false := by
  cases v <;> try rfl
  rename_i s
  have h : rs.find? (fun r => decide (r.nm = s)) = none := h
  unfold hasV
  refine decide_eq_false fun hm => ?_
  obtain ⟨r, hr, e⟩ := List.mem_map.mp hm
  have := List.find?_eq_none.mp h r hr
  simp [e] at this
theorem findR_some {rs : List Rw} {v : V} {r : Rw} (h : findR rs v = some r) : v = .str r.nm ∧ r ∈ rs ∧ hasV rs v = true := by
  cases v <;> try (cases h)
  rename_i s
  have h : rs.find? (fun r => decide (r.nm = s)) = some r := h
  have e : r.nm = s := by simpa using List.find?_some h
  have hm := List.mem_of_find?_eq_some h
  subst e
  exact ⟨rfl, hm, decide_eq_true (List.mem_map_of_mem hm)⟩
theorem rows_nm {rs : List Rw} (h : (rs.map Rw.nm).Nodup) {a b : Rw} (ha : a ∈ rs) (hb : b ∈ rs) (e : a.nm = b.nm) : a = b := by
  obtain ⟨i, hi⟩ := List.mem_iff_getElem?.mp ha
  obtain ⟨j, hj⟩ := List.mem_iff_getElem?.mp hb
  have hi' : (rs.map Rw.nm)[i]? = some a.nm := by rw [List.getElem?_map, hi]; rfl
  have hj' : (rs.map Rw.nm)[j]? = some a.nm := by rw [List.getElem?_map, hj, e]; rfl
  obtain ⟨hil, hie⟩ := List.getElem?_eq_some_iff.mp hi'
  obtain ⟨hjl, hje⟩ := List.getElem?_eq_some_iff.mp hj'
  have pw := List.pairwise_iff_getElem.mp (List.nodup_iff_pairwise_ne.mp h)
  have e3 : i = j := by
    rcases Nat.lt_trichotomy i j with q | q | q
    · exact absurd (hie.trans hje.symm) (pw i j hil hjl q)
    · exact q
    · exact absurd (hje.trans hie.symm) (pw j i hjl hil q)
  subst e3
  rw [hi] at hj
  exact Option.some.inj hj
theorem rowOf_row {v1 v2 v3 v4 : V} {r : Rw} (e : [v1, v2, v3, v4] = rowV r) : rowOf v1 v2 v3 v4 = r := by
  have e : [v1, v2, v3, v4] = [.str r.nm, .int r.day, .int r.post, .int r.pace] := e
  simp only [List.cons.injEq] at e
  obtain ⟨rfl, rfl, rfl, rfl, _⟩ := e
  rfl
theorem RowsOk.filter {rs : List Rw} (h : RowsOk rs) (p : Rw → Bool) : RowsOk (rs.filter p) := by
  obtain ⟨h1, h2, h3, h4⟩ := h
  exact ⟨fun r hr => h1 r (List.mem_filter.mp hr).1, h2.sublist (List.Sublist.map _ List.filter_sublist), fun r hr => h3 r (List.mem_filter.mp hr).1, Nat.le_trans (List.length_filter_le _ _) h4⟩
theorem RowsOk.mov {rs : List Rw} (h : RowsOk rs) {a b : Rw} (hn : IsNm b.nm) (hb : NumOk b) (e : b.nm = a.nm) : RowsOk (rs.map (movR a b)) := by
  obtain ⟨h1, h2, h3, h4⟩ := h
  have en : (rs.map (movR a b)).map Rw.nm = rs.map Rw.nm := by
    rw [List.map_map]
    refine List.map_congr_left fun r _ => ?_
    show (movR a b r).nm = r.nm
    unfold movR
    split
    · rename_i q
      rw [e, q]
    · rfl
  refine ⟨fun r hr => ?_, by rw [en]; exact h2, fun r hr => ?_, by rw [List.length_map]; exact h4⟩
  · obtain ⟨x, hx, rfl⟩ := List.mem_map.mp hr
    unfold movR
    split
    · exact hb
    · exact h1 x hx
  · obtain ⟨x, hx, rfl⟩ := List.mem_map.mp hr
    unfold movR
    split
    · exact hn
    · exact h3 x hx
theorem RowsOk.swap {rs : List Rw} (h : RowsOk rs) {a b : Rw} (ha : a ∈ rs) (hb : b ∈ rs) : RowsOk (rs.map (swapR a b)) := by
  obtain ⟨h1, h2, h3, h4⟩ := h
  have en : (rs.map (swapR a b)).map Rw.nm = (rs.map Rw.nm).map fun n => if n = a.nm then b.nm else if n = b.nm then a.nm else n := by
    rw [List.map_map, List.map_map]
    refine List.map_congr_left fun r _ => ?_
    show (swapR a b r).nm = if r.nm = a.nm then b.nm else if r.nm = b.nm then a.nm else r.nm
    unfold swapR
    split
    · rfl
    · split <;> rfl
  refine ⟨fun r hr => ?_, ?_, fun r hr => ?_, by rw [List.length_map]; exact h4⟩
  · obtain ⟨x, hx, rfl⟩ := List.mem_map.mp hr
    unfold swapR
    split
    · exact h1 b hb
    · split
      · exact h1 a ha
      · exact h1 x hx
  · rw [en]
    refine List.Pairwise.map _ (fun x y hxy => ?_) h2
    intro e
    by_cases x1 : x = a.nm
    · by_cases y1 : y = a.nm
      · exact hxy (x1.trans y1.symm)
      · by_cases y2 : y = b.nm
        · simp only [x1, y2, if_true] at e
          split at e
          · rename_i q; exact hxy (by rw [x1, y2, q])
          · exact hxy (by rw [x1, y2]; exact e.symm)
        · simp only [x1, if_true, if_neg y1, if_neg y2] at e
          exact y2 e.symm
    · by_cases x2 : x = b.nm
      · by_cases y1 : y = a.nm
        · simp only [y1, if_true] at e
          rw [if_neg x1, if_pos x2] at e
          exact hxy (by rw [x2, y1]; exact e.symm)
        · by_cases y2 : y = b.nm
          · exact hxy (x2.trans y2.symm)
          · rw [if_neg x1, if_pos x2, if_neg y1, if_neg y2] at e
            exact y1 e.symm
      · rw [if_neg x1, if_neg x2] at e
        by_cases y1 : y = a.nm
        · rw [if_pos y1] at e
          exact x2 e
        · rw [if_neg y1] at e
          by_cases y2 : y = b.nm
          · rw [if_pos y2] at e
            exact x1 e
          · rw [if_neg y2] at e
            exact hxy e
  · obtain ⟨x, hx, rfl⟩ := List.mem_map.mp hr
    unfold swapR
    split
    · exact h3 b hb
    · split
      · exact h3 a ha
      · exact h3 x hx
theorem plKV_no {nm : Str} : ∀ {k : Nat} {l : List Str}, nm ∉ l → valV (plKV k l) (.inr nm) = none
  | _, [], _ => rfl
  | k, n :: r, h => by
    have hne : n ≠ nm := fun e => h (by rw [e]; exact List.mem_cons_self)
    have ih := plKV_no (k := k + 1) (l := r) fun z => h (List.mem_cons_of_mem _ z)
    rw [← ih]
    show valV ((Sum.inr n, V.int k) :: plKV (k + 1) r) (.inr nm) = _
    unfold valV
    simp [hne]
/-! ### Fence: painters, len, in, [] -/
def spFPs (K : PySem.W.Frag) : Sp := fun vs H Q _ => ∃ a rs, vs = [.ref a] ∧ FAt K H a rs ∧ ∀ t ps, SqT K H t ps → PsAt K H ps rs → Q (.ref t) H
theorem ok_fps (T : Tx K mg) : FnR P w K mg base (L2.CX P w) 1 (a_Fence_painters K) (spFPs K) := by
  refine fnR_of T.f_Fence_painters sc_Fence_painters (fun _ _ _ _ _ _ us hl => match us, hl with | [_], _ => rfl) (fun vs H Q E h => ?_) fun A outer s H vs Q E cdv hr h => ?_
  · obtain ⟨a, rs, rfl, _⟩ := h
    rfl
  · obtain ⟨a, rs, rfl, ⟨dx, t, d, ps, h1, h2, h3, h4, h5⟩, k⟩ := h
    refine ⟨_, (pss_one (ps_ret (pe_fld (pv 0) rfl))), ?_⟩
    try dsimp only [cxOf]
    walk_at "go"
    refine r_fldV h1 T.cl_Fence T.no_Fence_listed rfl ?_
    exact k t ps h2 h3
def spFLen (K : PySem.W.Frag) : Sp := fun vs H Q _ => ∃ a rs, vs = [.ref a] ∧ FAt K H a rs ∧ Q (.int rs.length) H
theorem ok_flen (T : Tx K mg) : FnR P w K mg base (L2.CX P w) 1 (He.ma K (CF K) "__len__") (spFLen K) := by
  refine fnR_of T.f_Fence_len sc_Fence_len (fun _ _ _ _ _ _ us hl => match us, hl with | [_], _ => rfl) (fun vs H Q E h => ?_) fun A outer s H vs Q E cdv hr h => ?_
  · obtain ⟨a, rs, rfl, _⟩ := h
    rfl
  · obtain ⟨a, rs, rfl, ⟨dx, t, d, ps, h1, h2, h3, h4, h5⟩, k⟩ := h
    refine ⟨_, (pss_one (ps_ret (pe_callB (call_lenUK (K := K) rfl) rfl T.n_len (by decide +kernel) (pa_cons (pe_fld (pv 0) rfl) pa_nil)))), ?_⟩
    try dsimp only [cxOf]
    walk_at "go"
    refine r_fldV h1 T.cl_Fence T.no_Fence_listed rfl ?_
    walk_at "go"
    rw [h3.len]
    exact k
def spIn (K : PySem.W.Frag) : Sp := fun vs H Q _ => ∃ a rs v, vs = [.ref a, v] ∧ FAt K H a rs ∧ Kn K H v ∧ Q (.bl (hasV rs v)) H
theorem ok_fin (T : Tx K mg) : FnR P w K mg base (L2.CX P w) 1 (He.ma K (CF K) "__contains__") (spIn K) := by
  refine fnR_of T.f_Fence_contains sc_Fence_contains (fun _ _ _ _ _ _ us hl => match us, hl with | [_, _], _ => rfl) (fun vs H Q E h => ?_) fun A outer s H vs Q E cdv hr h => ?_
  · obtain ⟨a, rs, nm, rfl, _⟩ := h
    rfl
  · obtain ⟨a, rs, v, rfl, ⟨dx, t, d, ps, h1, h2, h3, h4, h5⟩, hm, k⟩ := h
    refine ⟨_, (pss_one (ps_ret (pe_and (pe_callB call_isi rfl T.n_isinstance (by decide +kernel) (pa_cons (pv 1) (pa_cons (pe_bltn (v := .ty "str") rfl T.n_str (by decide +kernel) rfl) pa_nil))) (pe_one (pe_cmp (pc_din (hu_of hr) (pv 1) (pe_fld (pv 0) rfl)) (by rfl)))))), ?_⟩
    try dsimp only [cxOf]
    walk_at "go"
    refine r_isi hm.kitS ⟨_, rfl, ?_⟩
    by_cases hs : isS v = true
    · rw [hs]
      obtain ⟨nm, rfl⟩ : ∃ s, v = .str s := by
        cases v <;> try (cases hs)
        exact ⟨_, rfl⟩
      refine r_iteT ?_
      refine ⟨_, rfl, ?_⟩
      walk_at "go"
      refine r_fldV h1 T.cl_Fence T.no_Fence_places rfl ?_
      by_cases hn : nm ∈ rs.map Rw.nm
      · obtain ⟨j, hj⟩ := List.mem_iff_getElem?.mp hn
        have hv := plKV_val (k := 0) h5.2.1 hj
        refine ⟨d, some (.int ((0 + j : Nat) : Int)), rfl, by rw [← hv]; exact DGet.k (k := .inr nm) h4, ?_⟩
        have e : hasV rs (.str nm) = true := decide_eq_true hn
        rw [e] at k
        exact k
      · have hv := plKV_no (k := 0) hn
        refine ⟨d, none, rfl, by rw [← hv]; exact DGet.k (k := .inr nm) h4, ?_⟩
        have e : hasV rs (.str nm) = false := decide_eq_false hn
        rw [e] at k
        exact k
    · have hs : isS v = false := by simpa using hs
      rw [hs]
      refine r_iteF ?_
      have e : hasV rs v = false := by
        cases v <;> first | rfl | (cases hs)
      rw [e] at k
      exact k
def spNeed (K : PySem.W.Frag) : Sp := fun vs H Q E => ∃ a rs v, vs = [.ref a, v] ∧ FAt K H a rs ∧ Kn K H v ∧ (hasV rs v = true → Q .non H) ∧ (hasV rs v = false → Err E (xUN K) "value" v H)
theorem ok_need (T : Tx K mg) : FnR PP w K mg base (CXn PP w) 2 (a_Fence_need_name K) (spNeed K) := by
  have F_Fence_contains := ok_fin (P := PP) (w := w) (base := base) T
  refine fnR_of T.f_Fence_need_name sc_Fence_need_name (fun _ _ _ _ _ _ us hl => match us, hl with | [_, _], _ => rfl) (fun vs H Q E h => ?_) fun A outer s H vs Q E cdv hr h => ?_
  · obtain ⟨a, rs, v, rfl, _⟩ := h
    rfl
  · obtain ⟨a, rs, v, rfl, hf, hm, k, kE⟩ := h
    refine ⟨_, (pss_one (ps_if (pt_cmpR (op_notInOwn T.ow_Fence_contains.f T.ow_Fence_contains.i F_Fence_contains (hr.mono (by first | decide | omega)) passL) (pv 1) (pv 0) (by rfl))
 (pss_one (Oc.ps_raise Oc.zn_mk rfl (Oc.takes_of Oc.zn_ok rfl rfl rfl rfl) (Ow.pmk_ox Ox.chain_KE T.x_UnknownName (by have z := Ow.room1 hr; exact z) T.g_UnknownName (pa_cons (pv 1) pa_nil) rfl)))
 pss_nil)), ?_⟩
    try dsimp only [cxOf]
    walk_at "go"
    obtain ⟨dx, t, d, ps, h1, h2⟩ := id hf
    refine ⟨a, dx, _, rfl, h1, a, rs, v, rfl, hf, hm, _, rfl, ⟨_, rfl, ?_⟩⟩
    cases e : hasV rs v with
    | true =>
      refine r_iteF ?_
      walk_at "go"
      exact k e
    | false =>
      refine r_iteT ?_
      walk_at "go"
      exact fun d hd => (kE e).go (Gr.refl _) hd
def spGet (K : PySem.W.Frag) : Sp := fun vs H Q E => ∃ a rs v, vs = [.ref a, v] ∧ FAt K H a rs ∧ Kn K H v ∧ (∀ r b, findR rs v = some r → PAt K H b r → Q (.ref b) H) ∧ (hasV rs v = false → Err E (xUN K) "value" v H)
theorem find_has {rs : List Rw} {v : V} (h : hasV rs v = true) : ∃ r, findR rs v = some r := by
  cases e : findR rs v with
  | some r => exact ⟨r, rfl⟩
  | none =>
    rw [findR_has e] at h
    cases h
theorem ok_getitem (T : Tx K mg) : FnR PP w K mg base (CXn PP w) 3 (He.ma K (CF K) "__getitem__") (spGet K) := by
  have F_Fence_need_name := ok_need (w := w) (base := base) T
  refine fnR_of T.f_Fence_getitem sc_Fence_getitem (fun _ _ _ _ _ _ us hl => match us, hl with | [_, _], _ => rfl) (fun vs H Q E h => ?_) fun A outer s H vs Q E cdv hr h => ?_
  · obtain ⟨a, rs, r, rfl, _⟩ := h
    rfl
  · obtain ⟨a, rs, v, rfl, hf, hk, k, kE⟩ := h
    refine ⟨_, (pss_cons (ps_expr (pe_methR (pv 0) T.cl_Fence T.me_Fence_need_name F_Fence_need_name (hr.mono (by first | decide | omega)) (passZ (Oc.takes_of Oc.zn_ok rfl rfl rfl rfl)) (pa_cons (pv 1) pa_nil)))
 (pss_one (ps_ret (pe_ix (ix_seqK (K := K) rfl) (pe_fld (pv 0) rfl) (pe_dget (hu_of hr) (pe_fld (pv 0) rfl) (pv 1) (fun _ _ => rfl)) (fun _ _ => rfl))))), ?_⟩
    try dsimp only [cxOf]
    walk_at "go"
    obtain ⟨dx, t, d, ps, h1, h2, h3, h4, h5⟩ := id hf
    refine ⟨a, dx, _, rfl, h1, rfl, ?_⟩
    walk_at "go"
    refine ⟨a, rs, v, rfl, hf, hk, fun hv => ?_, kE⟩
    obtain ⟨r, hr1⟩ := find_has hv
    obtain ⟨rfl, hm, _⟩ := findR_some hr1
    walk_at "go"
    refine r_fldV h1 T.cl_Fence T.no_Fence_listed rfl ?_
    walk_at "go"
    refine r_fldV h1 T.cl_Fence T.no_Fence_places rfl ?_
    walk_at "go"
    obtain ⟨j, hj⟩ := List.mem_iff_getElem?.mp hm
    have hjn : (rs.map Rw.nm)[j]? = some r.nm := by rw [List.getElem?_map, hj]; rfl
    have hv := plKV_val (k := 0) h5.2.1 hjn
    have hjp : j < ps.length := by rw [h3.len]; exact (List.getElem?_eq_some_iff.mp hj).1
    obtain ⟨b, r', hr', hb, hpb⟩ := h3.at (List.getElem?_eq_getElem hjp)
    have er : r' = r := by rw [hj] at hr'; exact (Option.some.inj hr').symm
    subst er
    refine ⟨d, .int ((0 + j : Nat) : Int), rfl, by rw [← hv]; exact DGet.k (k := .inr r'.nm) h4, ?_⟩
    rw [Nat.zero_add]
    exact r_ixT h2 (atI_nat (by rw [List.getElem?_eq_getElem hjp, hb])) (k _ b hr1 hpb)
end
end Tx

set_option maxRecDepth 100000
set_option maxHeartbeats 4000000
namespace My
open PySem PySem.Spec PyProof.Rows L2
theorem r_mrT {z : Str} {t : TS} {l : List (Option Str × TS)} {D : Ends} {σ : L2.St} {H : Hp} (h : t D σ H) : mRun z ((some z, t) :: l) D σ H := by
  show if z = z then t D σ H else mRun z l D σ H
  rw [if_pos rfl]
  exact h
theorem r_mrF {z a : Str} {t : TS} {l : List (Option Str × TS)} {D : Ends} {σ : L2.St} {H : Hp} (ne : z ≠ a) (h : mRun z l D σ H) : mRun z ((some a, t) :: l) D σ H := by
  show if z = a then t D σ H else mRun z l D σ H
  rw [if_neg ne]
  exact h
end My
namespace Tx
open PySem PySem.Spec PyProof.Rows L2 My
section
variable {P : Program} {w : World} {K : PySem.W.Frag} {mg : Str → Option Value} {base : Heap}
/-! ### Fence: +, without, - -/
def FMade (K : PySem.W.Frag) (E : XK) (H : Hp) (Q : VK) (rs : List Rw) : Prop := (RowsOk rs → ∀ f H1, Gr H H1 → FAt K H1 f rs → Q (.ref f) H1) ∧ (∀ n, dup (rs.map Rw.nm) = some n → Err E (xDN K) "value" (.str n) H) ∧ (dup (rs.map Rw.nm) = none → 40 < rs.length → Err E (xTM K) "limit" (.int 40) H)
theorem FMade.of {E : XK} {H : Hp} {Q : VK} {rs : List Rw} (h : RowsOk rs) (k : ∀ f H1, Gr H H1 → FAt K H1 f rs → Q (.ref f) H1) : FMade K E H Q rs :=
  ⟨fun _ => k, fun n hn => (by rw [dup_nodup h.2.1] at hn; cases hn), fun _ hl => absurd h.2.2.2 (by omega)⟩
theorem FMade.add {E : XK} {H : Hp} {Q : VK} {rs : List Rw} {r : Rw} (k : ResP K E H Q (addR rs r)) : FMade K E H Q (rs ++ [r]) := by
  unfold addR at k
  refine ⟨fun h => ?_, fun n hn => ?_, fun hn hl => ?_⟩
  · rw [dup_nodup h.2.1] at k
    rw [if_neg (by have := h.2.2.2; omega)] at k
    exact k
  · rw [hn] at k
    exact k
  · rw [hn] at k
    rw [if_pos hl] at k
    exact k
def spFAdd (K : PySem.W.Frag) : Sp := fun vs H Q E => ∃ a b rs r, vs = [.ref a, .ref b] ∧ FAt K H a rs ∧ PAt K H b r ∧ FMade K E H Q (rs ++ [r])
theorem ok_fadd (T : Tx K mg) : FnR PP w K mg base (CXn PP w) 5 (He.ma K (CF K) "__add__") (spFAdd K) := by
  have F_Fence_init := ok_finit (w := w) (base := base) T
  refine fnR_of T.f_Fence_add sc_Fence_add (fun _ _ _ _ _ _ us hl => match us, hl with | [_, _], _ => rfl) (fun vs H Q E h => ?_) fun A outer s H vs Q E cdv hr h => ?_
  · obtain ⟨a, b, rs, r, rfl, _⟩ := h
    rfl
  · obtain ⟨a, b, rs, r, rfl, ⟨dx, t, d, ps, h1, h2, h3, h4, h5⟩, hb, k, kD, kM⟩ := h
    refine ⟨_, (pss_cons (ps_if (pt_not (pt_val (pe_callB call_isi rfl T.n_isinstance (by decide +kernel) (pa_cons (pv 1) (pa_cons (pe_glob (v := .ref (He.ga K "Painter")) rfl T.g_Painter rfl) pa_nil)))))
 (pss_one ps_never)
 pss_nil)
 (pss_one (ps_ret (pe_makeS2 T.m_Fence F_Fence_init (hr.mono (by first | decide | omega)) rfl T.g_Fence (passZ (Oc.takes_of Oc.zn_ok rfl rfl rfl rfl)) (StX.pa_star (pe_fld (pv 0) rfl) (pa_cons (pv 1) pa_nil)))))), ?_⟩
    try dsimp only [cxOf]
    walk_at "go"
    obtain ⟨dy, u, j1, _⟩ := id hb
    refine ⟨_, _, _, _, _, rfl, .own _, .base (.ins j1 T.cl_Painter T.ii_Painter.ha T.ii_Painter.hn T.ii_Painter.htk T.ii_Painter.hm), T.ii_Painter.me, ⟨_, rfl, r_iteF ?_⟩⟩
    walk_at "go"
    refine r_fldV h1 T.cl_Fence T.no_Fence_listed rfl ?_
    refine ⟨t, _, rfl, .inl h2, ?_⟩
    walk_at "go"
    intro x dx' hx hdx hne
    refine fence_made (h3.snoc hb) (by rw [(h3.snoc hb).len, List.length_append, List.length_singleton]; have := h5.2.2.2; show _ < 16777216; omega) hx hdx hne (fun hok H3 g3 h3 => k hok x H3 g3 h3) kD kM
def spWithout (K : PySem.W.Frag) : Sp := fun vs H Q E => ∃ a t rs s, vs = [.ref a, .ref t] ∧ FAt K H a rs ∧ H t = some (.tup [.str s]) ∧ ∀ f H1, Gr H H1 → FAt K H1 f (rs.filter fun r => decide (V.str r.nm ≠ V.str s)) → Q (.ref f) H1
theorem inV_one {a s : Str} : inV (.str a) [V.str s] = decide (a = s) := by
  have e := inV_str (nm := a) (l := [s])
  have e2 : [V.str s] = [s].map V.str := rfl
  rw [e2, e]
  simp
theorem filter_snoc {α : Type} {p : α → Bool} {l : List α} {i : Nat} {x : α} (h : l[i]? = some x) : (l.take (i + 1)).filter p = (l.take i).filter p ++ (if p x = true then [x] else []) := by
  rw [List.take_add_one, h, List.filter_append]
  congr 1
  show [x].filter p = _
  rw [List.filter_cons, List.filter_nil]
theorem ok_without (T : Tx K mg) : FnR PP w K mg base (CXn PP w) 5 (a_Fence_without K) (spWithout K) := by
  have F_Fence_init := ok_finit (w := w) (base := base) T
  have F_Painter_name := ok_name (P := PP) (w := w) (base := base) T
  refine fnR_of T.f_Fence_without sc_Fence_without (fun _ _ _ _ _ _ us hl => match us, hl with | [_, _], _ => rfl) (fun vs H Q E h => ?_) fun A outer s H vs Q E cdv hr h => ?_
  · obtain ⟨a, b, rs, r, rfl, _⟩ := h
    rfl
  · obtain ⟨a, t, rs, s, rfl, ⟨dx, l, d, ps, h1, h2, h3, h4, h5⟩, ht, k⟩ := h
    refine ⟨_, (pss_cons (ps_setLc (i := 2) (own := [("painter", 3)]) rfl sc_Fence_without.nd rfl rfl (sw_true rfl rfl rfl (by decide +kernel)) (pi_anyK (K := K) rfl (pe_fld (pv 0) rfl)) (blkOk_by (own := [("painter", 3)]) (N := N_Fence_without) (sc := defScope s_Fence_without) (by decide +kernel)) (fun _ _ _ _ _ => (pg_name (i := 3) sc_Fence_without.nd rfl (by first | exact Or.inl rfl | exact Or.inr rfl))) (fun _ _ _ _ _ => (pts_one (pt_cmpR (op_notInK (K := K) rfl) (pe_propR (pv 3) T.cl_Painter T.pr_Painter_name F_Painter_name (hr.mono (by first | decide | omega)) passL) (pv 1) (by rfl)))) (fun _ _ _ _ _ => (pv 3)))
 (pss_one (ps_ret (pe_makeG1 T.m_Fence F_Fence_init (hr.mono (by first | decide | omega)) rfl T.g_Fence (passZ (Oc.takes_of Oc.zn_ok rfl rfl rfl rfl)) (pv 2))))), ?_⟩
    try dsimp only [cxOf]
    walk_at "go"
    refine r_iT ?_
    walk_at "go"
    refine r_fldV h1 T.cl_Fence T.no_Fence_listed rfl ?_
    refine ⟨_, rfl, ⟨_, h2⟩, fun D hD => ?_⟩
    generalize hp : (fun r : Rw => decide (V.str r.nm ≠ V.str s)) = p at k
    have hpl : ps.length ≤ 40 := by rw [h3.len]; exact h5.2.2.2
    refine lc_tup (xs := ps) (fun i H' => Gr H H' ∧ ∃ qs, H' D = some (.lst qs) ∧ qs.length ≤ i ∧ PsAt K H qs ((rs.take i).filter p)) ⟨Gr.new hD, [], upd_same, Nat.le_refl _, by rw [List.take_zero]; trivial⟩ (fun i H' hi ⟨g, _⟩ => h2.ext g.e) (fun i v H' hv ⟨g, qs, hd, hql, hq⟩ => ?_) fun H' ⟨g, qs, hd, hql, hq⟩ => ?_
    · obtain ⟨b, r, hr1, rfl, hp1⟩ := h3.at hv
      obtain ⟨dy, u, j1, _⟩ := id (hp1.ext g.e)
      walk_at "go"
      refine ⟨rfl, ?_⟩
      walk_at "go"
      refine ⟨b, dy, _, rfl, j1, b, r, rfl, hp1.ext g.e, ?_⟩
      walk_at "go"
      refine ⟨t, _, rfl, .inr (SqT.of (g.e _ _ ht)), rfl, rfl, ?_⟩
      rw [inV_one]
      refine ⟨_, rfl, ?_⟩
      have hpr : p r = !decide (r.nm = s) := by
        rw [← hp]
        by_cases e : r.nm = s
        · simp [e]
        · simp [e]
      have hfs := filter_snoc (p := p) hr1
      have hil : i < ps.length := (List.getElem?_eq_some_iff.mp hv).1
      by_cases e : r.nm = s
      · rw [decide_eq_true e]
        refine r_iteF ?_
        rw [decide_eq_true e] at hpr
        rw [hpr] at hfs
        rw [if_neg (by decide), List.append_nil] at hfs
        exact ⟨g, qs, hd, by omega, by rw [hfs]; exact hq⟩
      · rw [decide_eq_false e]
        refine r_iteT ?_
        rw [decide_eq_false e] at hpr
        rw [hpr] at hfs
        rw [if_pos (by rfl)] at hfs
        walk_at "go"
        refine ⟨qs, hd, by show _ < 16777216; omega, g.mut hD, qs ++ [.ref b], upd_same, by rw [List.length_append, List.length_singleton]; omega, by rw [hfs]; exact hq.snoc hp1⟩
    · have hq : PsAt K H qs (rs.filter p) := by
        rw [List.take_of_length_le (by rw [h3.len]; exact Nat.le_refl _)] at hq
        exact hq
      walk_at "go"
      refine ⟨D, qs, rfl, .inr (SqL.of hd), fun x dx' hx hdx hne => ?_⟩
      exact fence_made (hq.ext g.e) (by show _ < 16777216; omega) hx hdx hne (fun hok H3 g3 h3 => k x H3 (g.trans g3) h3) (FMade.of (K := K) (E := E) (H := H') (Q := Q) (RowsOk.filter h5 p) (fun f H3 g3 h3 => k f H3 (g.trans g3) h3)).2.1
        (FMade.of (K := K) (E := E) (H := H') (Q := Q) (RowsOk.filter h5 p) (fun f H3 g3 h3 => k f H3 (g.trans g3) h3)).2.2
def spSub (K : PySem.W.Frag) : Sp := fun vs H Q E => ∃ a rs v, vs = [.ref a, v] ∧ FAt K H a rs ∧ Kn K H v ∧ ResP K E H Q (stepA rs (.leave v))
theorem ok_fsub (T : Tx K mg) : FnR PP w K mg base (CXn PP w) 6 (He.ma K (CF K) "__sub__") (spSub K) := by
  have F_Fence_need_name := ok_need (w := w) (base := base) T
  have F_Fence_without := ok_without (w := w) (base := base) T
  refine fnR_of T.f_Fence_sub sc_Fence_sub (fun _ _ _ _ _ _ us hl => match us, hl with | [_, _], _ => rfl) (fun vs H Q E h => ?_) fun A outer s H vs Q E cdv hr h => ?_
  · obtain ⟨a, rs, v, rfl, _⟩ := h
    rfl
  · obtain ⟨a, rs, v, rfl, hf, hs, k⟩ := h
    refine ⟨_, (pss_cons (ps_expr (pe_methR (pv 0) T.cl_Fence T.me_Fence_need_name F_Fence_need_name (hr.mono (by first | decide | omega)) (passZ (Oc.takes_of Oc.zn_ok rfl rfl rfl rfl)) (pa_cons (pv 1) pa_nil)))
 (pss_one (ps_ret (pe_methR (pv 0) T.cl_Fence T.me_Fence_without F_Fence_without (hr.mono (by first | decide | omega)) (passZ (Oc.takes_of Oc.zn_ok rfl rfl rfl rfl)) (pa_cons (pe_tup (pa_cons (pv 1) pa_nil)) pa_nil))))), ?_⟩
    try dsimp only [cxOf]
    walk_at "go"
    obtain ⟨dx, t, d, ps, h1, h2, h3, h4, h5⟩ := id hf
    refine ⟨a, dx, _, rfl, h1, rfl, ?_⟩
    walk_at "go"
    have k : ResP K E H Q (if hasV rs v = true then .ok (rs.filter fun r => decide (V.str r.nm ≠ v)) else .bad .unknown v) := k
    refine ⟨a, rs, v, rfl, hf, hs, fun hv => ?_, fun hv => ?_⟩
    · rw [if_pos hv] at k
      obtain ⟨s, rfl⟩ : ∃ s, v = .str s := by
        cases v <;> try (cases hv)
        exact ⟨_, rfl⟩
      walk_at "go"
      refine ⟨a, dx, _, rfl, h1, rfl, ?_⟩
      walk_at "go"
      refine ⟨by show 1 ≤ 16777216; decide, fun p hp => ?_⟩
      have g := Gr.new (o := .tup [.str s]) hp
      walk_at "go"
      exact ⟨a, p, rs, s, rfl, hf.ext g.e, upd_same, fun f H1 g1 h1 => k f H1 (g.trans g1) h1⟩
    · rw [if_neg (by rw [hv]; decide)] at k
      exact k
/-! ### replaced, swapped -/
def spRepl (K : PySem.W.Frag) : Sp := fun vs H Q E => ∃ a d rs kvs, ∃ g : Rw → Rw, vs = [.ref a, .ref d] ∧ FAt K H a rs ∧ H d = some (.dK kvs) ∧ (∀ r ∈ rs, (valV kvs (.inr r.nm) = none ∧ g r = r) ∨ ∃ b, valV kvs (.inr r.nm) = some (.ref b) ∧ PAt K H b (g r)) ∧ RowsOk (rs.map g) ∧
  ∀ f H1, Gr H H1 → FAt K H1 f (rs.map g) → Q (.ref f) H1
theorem ok_repl (T : Tx K mg) : FnR PP w K mg base (CXn PP w) 5 (a_replaced K) (spRepl K) := by
  have F_Fence_init := ok_finit (w := w) (base := base) T
  have F_Painter_name := ok_name (P := PP) (w := w) (base := base) T
  have F_Fence_painters := ok_fps (P := PP) (w := w) (base := base) T
  refine fnR_of T.f_replaced sc_replaced (fun _ _ _ _ _ _ us hl => match us, hl with | [_, _], _ => rfl) (fun vs H Q E h => ?_) fun A outer s H vs Q E cdv hr h => ?_
  · obtain ⟨a, d, rs, kvs, g, rfl, _⟩ := h
    rfl
  · obtain ⟨a, d, rs, kvs, g, rfl, hf, hd0, hg, hok, k⟩ := h
    refine ⟨_, (pss_cons (ps_setLc (i := 2) (own := [("painter", 3)]) rfl sc_replaced.nd rfl rfl (sw_true rfl rfl rfl (by decide +kernel)) (pi_anyK (K := K) rfl (pe_propR (pv 0) T.cl_Fence T.pr_Fence_painters F_Fence_painters (hr.mono (by first | decide | omega)) passL)) (blkOk_by (own := [("painter", 3)]) (N := N_replaced) (sc := defScope s_replaced) (by decide +kernel)) (fun _ _ _ _ _ => (pg_name (i := 3) sc_replaced.nd rfl (by first | exact Or.inl rfl | exact Or.inr rfl))) (fun _ _ _ _ _ => pts_nil) (fun _ _ _ _ _ => (pe_dget2 (hu_of hr) (pv 1) (pe_propR (pv 3) T.cl_Painter T.pr_Painter_name F_Painter_name (hr.mono (by first | decide | omega)) passL) (pv 3) ⟨rfl, rfl, rfl, rfl⟩)))
 (pss_one (ps_ret (pe_makeG1 T.m_Fence F_Fence_init (hr.mono (by first | decide | omega)) rfl T.g_Fence (passZ (Oc.takes_of Oc.zn_ok rfl rfl rfl rfl)) (pv 2))))), ?_⟩
    try dsimp only [cxOf]
    walk_at "go"
    refine r_iT ?_
    walk_at "go"
    obtain ⟨dx, l, d2, ps0, h1, h2⟩ := id hf
    refine ⟨a, dx, _, rfl, h1, a, rs, rfl, hf, fun t ps ht hps => ?_⟩
    refine ⟨_, rfl, ⟨_, ht⟩, fun D hD => ?_⟩
    have hpl : ps.length ≤ 40 := by rw [hps.len]; have := hok.2.2.2; rw [List.length_map] at this; exact this
    refine lc_tup (xs := ps) (fun i H' => Gr H H' ∧ ∃ qs, H' D = some (.lst qs) ∧ qs.length = i ∧ PsAt K H qs ((rs.take i).map g)) ⟨Gr.new hD, [], upd_same, rfl, by rw [List.take_zero]; trivial⟩ (fun i H' hi ⟨g, _⟩ => ht.ext g.e) (fun i v H' hv ⟨gr, qs, hd, hql, hq⟩ => ?_) fun H' ⟨gr, qs, hd, hql, hq⟩ => ?_
    · obtain ⟨b, r, hr1, rfl, hp1⟩ := hps.at hv
      obtain ⟨dy, u, j1, _⟩ := id (hp1.ext gr.e)
      have hil : i < ps.length := (List.getElem?_eq_some_iff.mp hv).1
      have hts : (rs.take (i + 1)).map g = (rs.take i).map g ++ [g r] := by
        rw [List.take_add_one, hr1, List.map_append]
        rfl
      walk_at "go"
      refine ⟨rfl, ?_⟩
      walk_at "go"
      refine ⟨_, rfl, _, rfl, .inl ⟨kvs, .inl (gr.e _ _ hd0)⟩, ?_⟩
      walk_at "go"
      refine ⟨b, dy, _, rfl, j1, b, r, rfl, hp1.ext gr.e, ?_⟩
      refine ⟨_, rfl, _, DGet.k (k := .inr r.nm) (gr.e _ _ hd0), ?_⟩
      rcases hg r (List.mem_of_getElem? hr1) with ⟨e1, e2⟩ | ⟨b', e1, e2⟩
      · rw [e1]
        refine ⟨qs, hd, by show _ < 16777216; omega, gr.mut hD, qs ++ [.ref b], upd_same, by rw [List.length_append, List.length_singleton, hql], ?_⟩
        rw [hts, e2]
        exact hq.snoc hp1
      · rw [e1]
        refine ⟨qs, hd, by show _ < 16777216; omega, gr.mut hD, qs ++ [.ref b'], upd_same, by rw [List.length_append, List.length_singleton, hql], ?_⟩
        rw [hts]
        exact hq.snoc e2
    · have hq : PsAt K H qs (rs.map g) := by
        rw [List.take_of_length_le (by rw [hps.len]; exact Nat.le_refl _)] at hq
        exact hq
      walk_at "go"
      refine ⟨D, qs, rfl, .inr (SqL.of hd), fun x dx' hx hdx hne => ?_⟩
      have fm := FMade.of (K := K) (E := E) (H := H') (Q := Q) hok (fun f H3 g3 h3 => k f H3 (gr.trans g3) h3)
      exact fence_made (hq.ext gr.e) (by show _ < 16777216; omega) hx hdx hne (fun hok H3 g3 h3 => k x H3 (gr.trans g3) h3) fm.2.1 fm.2.2
end
end Tx

set_option maxRecDepth 100000
set_option maxHeartbeats 4000000
namespace Tx
open PySem PySem.Spec PyProof.Rows L2 My
section
variable {P : Program} {w : World} {K : PySem.W.Frag} {mg : Str → Option Value} {base : Heap}
theorem PAt.putD {H : Hp} {p a : Addr} {xs ys : List (Key × V)} {r : Rw} (e : H p = some (.dK xs)) (h : PAt K H a r) : PAt K (upd H p (.dK ys)) a r := by
  obtain ⟨dx, t, h1, h2, h3⟩ := h
  exact ⟨dx, t, by rw [upd_ne (ne_of h1 e (by intro z; cases z))]; exact h1, by rw [upd_ne (ne_of h2 e (by intro z; cases z))]; exact h2, h3⟩
def spSwapd (K : PySem.W.Frag) : Sp := fun vs H Q E => ∃ a rs v1 v2, vs = [.ref a, v1, v2] ∧ FAt K H a rs ∧ Kn K H v1 ∧ Kn K H v2 ∧ ResP K E H Q (stepA rs (.swap v1 v2))
theorem ok_swapped (T : Tx K mg) : FnR PP w K mg base (CXn PP w) 6 (a_swapped K) (spSwapd K) := by
  have F_Fence_need_name := ok_need (w := w) (base := base) T
  have F_Fence_getitem := ok_getitem (w := w) (base := base) T
  have F_replaced := ok_repl (w := w) (base := base) T
  refine fnR_of T.f_swapped sc_swapped (fun _ _ _ _ _ _ us hl => match us, hl with | [_, _, _], _ => rfl) (fun vs H Q E h => ?_) fun A outer s H vs Q E cdv hr h => ?_
  · obtain ⟨a, rs, v1, v2, rfl, _⟩ := h
    rfl
  · obtain ⟨a, rs, v1, v2, rfl, hf, k1, k2, k⟩ := h
    refine ⟨_, (pss_cons (ps_expr (pe_methR (pv 0) T.cl_Fence T.me_Fence_need_name F_Fence_need_name (hr.mono (by first | decide | omega)) (passZ (Oc.takes_of Oc.zn_ok rfl rfl rfl rfl)) (pa_cons (pv 1) pa_nil)))
 (pss_cons (ps_expr (pe_methR (pv 0) T.cl_Fence T.me_Fence_need_name F_Fence_need_name (hr.mono (by first | decide | omega)) (passZ (Oc.takes_of Oc.zn_ok rfl rfl rfl rfl)) (pa_cons (pv 2) pa_nil)))
 (pss_cons (ps_if (pt_cmpR (op_eqUK (K := K) rfl hr.units) (pv 1) (pv 2) (nomark _))
 (pss_one (Oc.ps_raise Oc.zn_mk rfl (Oc.takes_of Oc.zn_ok rfl rfl rfl rfl) (Ow.pmk_ox Ox.chain_VE T.x_DuplicateName (by have z := Ow.room1 hr; exact z) T.g_DuplicateName (pa_cons (pv 1) pa_nil) rfl)))
 pss_nil)
 (pss_one (ps_ret (pe_callR F_replaced (hr.mono (by first | decide | omega)) T.k_replaced rfl T.g_replaced (passZ (Oc.takes_of Oc.zn_ok rfl rfl rfl rfl)) (pa_cons (pv 0) (pa_cons (pe_disp (pps_cons (pv 1) (pe_ixOwn T.ow_Fence_getitem.f T.ow_Fence_getitem.i T.ow_Fence_getitem.n F_Fence_getitem (hr.mono (by first | decide | omega)) (passZ (Oc.takes_of Oc.zn_ok rfl rfl rfl rfl)) (pv 0) (pv 2) (fun _ _ _ h => Subscript_ h) (fun _ _ => rfl)) (pps_cons (pv 2) (pe_ixOwn T.ow_Fence_getitem.f T.ow_Fence_getitem.i T.ow_Fence_getitem.n F_Fence_getitem (hr.mono (by first | decide | omega)) (passZ (Oc.takes_of Oc.zn_ok rfl rfl rfl rfl)) (pv 0) (pv 1) (fun _ _ _ h => Subscript_ h) (fun _ _ => rfl)) pps_nil)) (by rfl) (by rfl) (fun z => by cases z) (by decide)) pa_nil)))))))), ?_⟩
    try dsimp only [cxOf]
    walk_at "go"
    obtain ⟨dx, t, d, ps, h1, h2, h3, h4, h5⟩ := id hf
    refine ⟨a, dx, _, rfl, h1, rfl, ?_⟩
    walk_at "go"
    have k : ResP K E H Q (match findR rs v1 with
      | none => .bad .unknown v1
      | some a => match findR rs v2 with
        | none => .bad .unknown v2
        | some b => if a.nm = b.nm then .bad .twice v1 else .ok (rs.map (swapR a b))) := k
    refine ⟨a, rs, v1, rfl, hf, k1, fun hv => ?_, fun hv => ?_⟩
    · obtain ⟨r1, e1⟩ := find_has hv
      rw [e1] at k
      walk_at "go"
      refine ⟨a, dx, _, rfl, h1, rfl, ?_⟩
      walk_at "go"
      refine ⟨a, rs, v2, rfl, hf, k2, fun hv2 => ?_, fun hv2 => ?_⟩
      · obtain ⟨r2, e2⟩ := find_has hv2
        rw [e2] at k
        obtain ⟨rfl, m1, _⟩ := findR_some e1
        obtain ⟨rfl, m2, _⟩ := findR_some e2
        have k : ResP K E H Q (if r1.nm = r2.nm then .bad .twice (.str r1.nm) else .ok (rs.map (swapR r1 r2))) := k
        walk_at "go"
        refine r_iteD (fun hq => ?_) fun hq => ?_
        · rw [if_pos hq] at k
          walk_at "go"
          exact fun d hd => Err.go k (Gr.refl _) hd
        · rw [if_neg hq] at k
          walk_at "go"
          refine r_disp fun p hp => ?_
          have g := Gr.new (o := .dK []) hp
          have hf1 := hf.ext g.e
          walk_at "go"
          refine ⟨a, dx, _, rfl, g.e _ _ h1, a, rs, _, rfl, hf1, k2, fun r b er hb => ?_, fun z => ?_⟩
          · rw [e2] at er
            cases er
            walk_at "go"
            refine ⟨a, dx, _, rfl, g.e _ _ h1, a, rs, _, rfl, hf1, k1, fun r b1 er hb1 => ?_, fun z => ?_⟩
            · rw [e1] at er
              cases er
              walk_at "go"
              refine ⟨upd_same, [(.inr r1.nm, .ref b), (.inr r2.nm, .ref b1)], rfl, (show 2 ≤ 15 by decide), ?_⟩
              have g2 : Gr H (upd (upd H p (.dK [])) p (.dK (mergeK [] [(.inr r1.nm, .ref b), (.inr r2.nm, .ref b1)]))) := g.mut hp
              have hmk : mergeK [] [((.inr r1.nm : Key), V.ref b), (.inr r2.nm, .ref b1)] = [(.inr r1.nm, .ref b), (.inr r2.nm, .ref b1)] := by
                show putK (putK [] _ _) _ _ = _
                rw [putK_new (kvs := []) (fun kv hkv => (List.not_mem_nil hkv).elim)]
                rw [putK_new fun kv hkv e => hq (by
                  rw [List.nil_append, List.mem_singleton] at hkv
                  rw [hkv] at e
                  exact Sum.inr.inj e)]
                rfl
              rw [hmk] at g2 ⊢
              have hb' : PAt K (upd (upd H p (.dK [])) p (.dK [(.inr r1.nm, .ref b), (.inr r2.nm, .ref b1)])) b r2 := PAt.putD upd_same hb
              have hb1' : PAt K (upd (upd H p (.dK [])) p (.dK [(.inr r1.nm, .ref b), (.inr r2.nm, .ref b1)])) b1 r1 := PAt.putD upd_same hb1
              refine ⟨a, p, rs, _, swapR r1 r2, rfl, hf.ext g2.e, upd_same, fun r hr => ?_, RowsOk.swap h5 m1 m2, fun f H1 g3 h3 => k f H1 (g2.trans g3) h3⟩
              unfold swapR
              by_cases q1 : r.nm = r1.nm
              · rw [if_pos q1]
                refine .inr ⟨b, ?_, hb'⟩
                unfold valV
                simp [q1]
              · rw [if_neg q1]
                by_cases q2 : r.nm = r2.nm
                · rw [if_pos q2]
                  refine .inr ⟨b1, ?_, hb1'⟩
                  unfold valV
                  simp [q2, hq]
                · rw [if_neg q2]
                  refine .inl ⟨?_, rfl⟩
                  unfold valV
                  simp [Ne.symm q1, Ne.symm q2]
            · rw [hv] at z
              cases z
          · rw [hv2] at z
            cases z
      · cases e2 : findR rs v2 with
        | some r2 =>
          rw [(findR_some e2).2.2] at hv2
          cases hv2
        | none =>
          rw [e2] at k
          exact k
    · cases e1 : findR rs v1 with
      | some r1 =>
        rw [(findR_some e1).2.2] at hv
        cases hv
      | none =>
        rw [e1] at k
        exact k
end
end Tx

set_option maxRecDepth 100000
set_option maxHeartbeats 4000000
namespace Tx
open PySem PySem.Spec PyProof.Rows L2 My
section
variable {P : Program} {w : World} {K : PySem.W.Frag} {mg : Str → Option Value} {base : Heap}
theorem painter_made {H : Hp} {v1 v2 v3 v4 : V} {Q : Hp → Prop} {E : XK} {x dx : Addr} (hk : Kn K H v1 ∧ Kn K H v2 ∧ Kn K H v3 ∧ Kn K H v4) (hx : H x = none) (hdx : H dx = none) (hne : dx ≠ x)
    (k : why v1 v2 v3 v4 = none → ∀ H1, Gr H H1 → PAt K H1 x (rowOf v1 v2 v3 v4) → Q H1) (kE : ∀ y, why v1 v2 v3 v4 = some y → Err E (xIP K) "reason" (.str y) H) :
    spPInit K [.ref x, v1, v2, v3, v4] (upd (upd H dx (.own x)) x (.ins (CP K) dx [])) (fun v H2 => v = .non ∧ Q H2) E := by
  have hx' : (upd H dx (.own x)) x = none := by rw [upd_ne (Ne.symm hne)]; exact hx
  have g1 : Gr H (upd (upd H dx (.own x)) x (.ins (CP K) dx [])) := (Gr.new hdx).then hx'
  refine ⟨x, v1, v2, v3, v4, dx, rfl, upd_same, ⟨hk.1.ext g1.e, hk.2.1.ext g1.e, hk.2.2.1.ext g1.e, hk.2.2.2.ext g1.e⟩, fun r e hn ho t H1 g ht h1 => ⟨rfl, ?_⟩, fun y hy => (kE y hy).gr g1⟩
  have g2 := (g1.trans g).mut (o := .ins (CP K) dx [("parts", .ref t)]) hx
  have hw : why v1 v2 v3 v4 = none := by
    have e : [v1, v2, v3, v4] = [.str r.nm, .int r.day, .int r.post, .int r.pace] := e
    simp only [List.cons.injEq] at e
    obtain ⟨rfl, rfl, rfl, rfl, _⟩ := e
    exact why_row hn ho
  have hxt : t ≠ x := ne_of h1 (g.e _ _ upd_same) (by intro z; cases z)
  refine k hw _ g2 ?_
  rw [rowOf_row e]
  exact ⟨dx, t, upd_same, by rw [upd_ne hxt]; exact h1, hn, ho⟩
theorem ResP.refd {E : XK} {H : Hp} {Q : VK} : ∀ {r : Res}, ResP K E H Q r → ResP K E H (fun z H' => (∃ p, z = V.ref p) ∧ Q z H') r
  | .ok _, h => fun f H2 g2 hf => ⟨⟨f, rfl⟩, h f H2 g2 hf⟩
  | .bad _ _, h => h
def Act.KnV (K : PySem.W.Frag) (H : Hp) : Act → Prop
  | .leave v => Tx.Kn K H v ∧ ∃ B d, Dq B H v d
  | a => a.Kn K H
def spAfter (K : PySem.W.Frag) : Sp := fun vs H Q E => ∃ a t rs act, vs = [.ref a, .ref t] ∧ FAt K H a rs ∧ H t = some (.tup (Act.vs act)) ∧ act.KnV K H ∧ ResP K E H Q (stepA rs act)
theorem ok_after (T : Tx K mg) : FnR PP w K mg base (CXn PP w) 7 (a_after K) (spAfter K) := by
  have F_Fence_add := ok_fadd (w := w) (base := base) T
  have F_Fence_sub := ok_fsub (w := w) (base := base) T
  have F_Fence_getitem := ok_getitem (w := w) (base := base) T
  have F_Painter_init := ok_pinit (w := w) (base := base) T
  have F_Painter_stride := ok_stride (P := PP) (w := w) (base := base) T
  have F_replaced := ok_repl (w := w) (base := base) T
  have F_swapped := ok_swapped (w := w) (base := base) T
  refine fnR_of T.f_after sc_after (fun _ _ _ _ _ _ us hl => match us, hl with | [_, _], _ => rfl) (fun vs H Q E h => ?_) fun A outer s H vs Q E cdv hr h => ?_
  · obtain ⟨a, t, rs, act, rfl, _⟩ := h
    rfl
  · obtain ⟨a, t, rs, act, rfl, hf, ht, hk, k⟩ := h
    refine ⟨_, (pss_cons (ps_asg (pv 1) (pg_star2 rfl (pg_name (i := 2) sc_after.nd rfl (by first | exact Or.inl rfl | exact Or.inr rfl)) (pg_name (i := 3) sc_after.nd rfl (by first | exact Or.inl rfl | exact Or.inr rfl)) (pg_name (i := 4) sc_after.nd rfl (by first | exact Or.inl rfl | exact Or.inr rfl))))
 (pss_one (ps_match (pv 2) (MCs.val (pss_cons (ps_asg (pv 4) (pg_lstK (K := K) (n := 3) rfl rfl (pgs_cons (pg_name (i := 5) sc_after.nd rfl (by first | exact Or.inl rfl | exact Or.inr rfl)) (pgs_cons (pg_name (i := 6) sc_after.nd rfl (by first | exact Or.inl rfl | exact Or.inr rfl)) (pgs_cons (pg_name (i := 7) sc_after.nd rfl (by first | exact Or.inl rfl | exact Or.inr rfl)) pgs_nil)))))
 (pss_one (ps_ret (pe_op (op_addOwn F_Fence_add T.ow_Fence_add T.ow_Painter_add T.ad_Fence_Painter (hr.mono (by first | decide | omega)) (passZ (Oc.takes_of Oc.zn_ok rfl rfl rfl rfl))) (pv 0) (StX.pe_makeR T.m_Painter F_Painter_init (hr.mono (by first | decide | omega)) rfl T.g_Painter (passZ (Oc.takes_of Oc.zn_ok rfl rfl rfl rfl)) (pa_cons (pv 3) (pa_cons (pv 5) (pa_cons (pv 6) (pa_cons (pv 7) pa_nil))))))))) (MCs.val (pss_one (ps_ret (pe_op (op_subOwnV F_Fence_sub T.ow_Fence_sub T.ad_Fence_Painter.mc T.nor_Fence (hr.mono (by first | decide | omega)) (passZ (Oc.takes_of Oc.zn_ok rfl rfl rfl rfl))) (pv 0) (pv 3)))) (MCs.val (pss_cons (ps_set (i := 8) sc_after.nd rfl (by first | exact Or.inl rfl | exact Or.inr rfl) (pe_ixOwn T.ow_Fence_getitem.f T.ow_Fence_getitem.i T.ow_Fence_getitem.n F_Fence_getitem (hr.mono (by first | decide | omega)) (passZ (Oc.takes_of Oc.zn_ok rfl rfl rfl rfl)) (pv 0) (pv 3) (fun _ _ _ h => Subscript_ h) (fun _ _ => rfl)))
 (pss_cons (ps_asg (pv 4) (pg_lstK (K := K) (n := 2) rfl rfl (pgs_cons (pg_name (i := 5) sc_after.nd rfl (by first | exact Or.inl rfl | exact Or.inr rfl)) (pgs_cons (pg_name (i := 6) sc_after.nd rfl (by first | exact Or.inl rfl | exact Or.inr rfl)) pgs_nil))))
 (pss_one (ps_ret (pe_callR F_replaced (hr.mono (by first | decide | omega)) T.k_replaced rfl T.g_replaced (passZ (Oc.takes_of Oc.zn_ok rfl rfl rfl rfl)) (pa_cons (pv 0) (pa_cons (pe_disp (pps_cons (pv 3) (StX.pe_makeR T.m_Painter F_Painter_init (hr.mono (by first | decide | omega)) rfl T.g_Painter (passZ (Oc.takes_of Oc.zn_ok rfl rfl rfl rfl)) (pa_cons (pv 3) (pa_cons (pv 5) (pa_cons (pv 6) (pa_cons (pe_propR (pv 8) T.cl_Painter T.pr_Painter_stride F_Painter_stride (hr.mono (by first | decide | omega)) passL) pa_nil))))) pps_nil) (by rfl) (by rfl) (fun z => by cases z) (by decide)) pa_nil))))))) (MCs.any (pss_one (ps_ret (pe_callR F_swapped (hr.mono (by first | decide | omega)) T.k_swapped rfl T.g_swapped (passZ (Oc.takes_of Oc.zn_ok rfl rfl rfl rfl)) (pa_cons (pv 0) (pa_cons (pv 3) (pa_cons (pe_ix (ix_seqK (K := K) rfl) (pv 4) pe_int (fun _ _ => rfl)) pa_nil))))))))))))), ?_⟩
    try dsimp only [cxOf]
    walk_at "go"
    cases act with
    | come v1 v2 v3 v4 =>
      refine ⟨_, _, _, _, rfl, SqT.of ht, fun p hp => ?_⟩
      have g := Gr.new (o := .lst [v2, v3, v4]) hp
      walk_at "go"
      refine ⟨_, rfl, r_mrT ?_⟩
      walk_at "go"
      refine r_gLst (SqL.of upd_same) rfl ?_
      walk_at "go"
      have hk' := Act.Kn.ext g.e (a := (.come v1 v2 v3 v4)) hk
      have hf' := hf.ext g.e
      have k := ResP.gr g k
      generalize upd H p (.lst [v2, v3, v4]) = H1 at hf' hk' k ⊢
      intro x dx hx hdx hne
      obtain ⟨dx0, t0, d0, ps0, h1, _⟩ := id hf'
      have k : ResP K E H1 Q (match why v1 v2 v3 v4 with
        | some y => .bad .painter (.str y)
        | none => addR rs (rowOf v1 v2 v3 v4)) := k
      refine painter_made hk' hx hdx hne (fun hw H2 g2 hp2 => ?_) fun y hy => ?_
      · rw [hw] at k
        obtain ⟨dy, u, j1, _⟩ := id hp2
        exact ⟨a, x, dx0, dy, _, _, rfl, rfl, g2.e _ _ h1, j1, a, x, rs, _, rfl, hf'.ext g2.e, hp2, FMade.add (ResP.refd (ResP.gr g2 k))⟩
      · rw [hy] at k
        exact k
    | leave v =>
      obtain ⟨kv, B, dv, hdv⟩ := hk
      refine ⟨_, _, _, _, rfl, SqT.of ht, fun p hp => ?_⟩
      have g := Gr.new (o := .lst []) hp
      walk_at "go"
      refine ⟨_, rfl, r_mrF (by decide +kernel) (r_mrT ?_)⟩
      walk_at "go"
      have hf' := hf.ext g.e
      obtain ⟨dx0, t0, d0, ps0, h1, _⟩ := id hf'
      exact ⟨a, dx0, _, B, dv, rfl, h1, Dq.ke (Ke.gr g) _ _ hdv, a, rs, v, rfl, hf', kv.ext g.e, ResP.refd (ResP.gr g k)⟩
    | move v v2 v3 =>
      refine ⟨_, _, _, _, rfl, SqT.of ht, fun p hp => ?_⟩
      have g := Gr.new (o := .lst [v2, v3]) hp
      walk_at "go"
      refine ⟨_, rfl, r_mrF (by decide +kernel) (r_mrF (by decide +kernel) (r_mrT ?_))⟩
      walk_at "go"
      have hk' := Act.Kn.ext g.e (a := (.move v v2 v3)) hk
      have hf' := hf.ext g.e
      have k := ResP.gr g k
      have hp1 : (upd H p (.lst [v2, v3])) p = some (.lst [v2, v3]) := upd_same
      generalize upd H p (.lst [v2, v3]) = H1 at hf' hk' k hp1 ⊢
      obtain ⟨k1, k2, k3⟩ := hk'
      have k : ResP K E H1 Q (match findR rs v with
        | none => .bad .unknown v
        | some r => match why v v2 v3 (.int r.pace) with
          | some y => .bad .painter (.str y)
          | none => .ok (rs.map (movR r (rowOf v v2 v3 (.int r.pace))))) := k
      obtain ⟨dx0, t0, d0, ps0, h1, _, _, _, hok⟩ := id hf'
      refine ⟨a, dx0, _, rfl, h1, a, rs, v, rfl, hf', k1, fun r b er hb => ?_, fun hv => ?_⟩
      · rw [er] at k
        obtain ⟨rfl, hm, _⟩ := findR_some er
        walk_at "go"
        refine r_gLst (SqL.of hp1) rfl ?_
        walk_at "go"
        refine r_disp fun q hq => ?_
        have g2 := Gr.new (o := .dK []) hq
        walk_at "go"
        obtain ⟨dy, u, j1, _⟩ := id (hb.ext g2.e)
        refine ⟨b, dy, _, rfl, j1, b, r, rfl, hb.ext g2.e, ?_⟩
        have k : ResP K E H1 Q (match why (.str r.nm) v2 v3 (.int r.pace) with
          | some y => .bad .painter (.str y)
          | none => .ok (rs.map (movR r (rowOf (.str r.nm) v2 v3 (.int r.pace))))) := k
        intro x dx hx hdx hne
        refine painter_made ⟨k1.ext g2.e, k2.ext g2.e, k3.ext g2.e, trivial⟩ hx hdx hne (fun hw H2 g3 hp2 => ?_) fun y hy => ?_
        · rw [hw] at k
          obtain ⟨row, er2, en2, eo2⟩ := why_none hw
          have erow := rowOf_row er2
          rw [erow] at k hp2
          have enm : row.nm = r.nm := by
            have e : [V.str r.nm, v2, v3, .int r.pace] = [.str row.nm, .int row.day, .int row.post, .int row.pace] := er2
            simp only [List.cons.injEq, V.str.injEq] at e
            exact e.1.symm
          walk_at "go"
          have hq2 := g3.e _ _ upd_same
          refine ⟨hq2, [(.inr r.nm, .ref x)], rfl, (show 1 ≤ 15 by decide), ?_⟩
          have hmk : mergeK [] [((.inr r.nm : Key), V.ref x)] = [(.inr r.nm, .ref x)] := rfl
          rw [hmk]
          have g4 : Gr H1 (upd H2 q (.dK [(.inr r.nm, .ref x)])) := (g2.trans g3).mut hq
          refine ⟨a, q, rs, _, movR r row, rfl, hf'.ext g4.e, upd_same, fun z hz => ?_, RowsOk.mov hok en2 eo2 enm, fun f H3 g5 h5 => k f H3 (g4.trans g5) h5⟩
          unfold movR
          by_cases e : z.nm = r.nm
          · rw [if_pos e]
            refine .inr ⟨x, ?_, PAt.putD hq2 hp2⟩
            unfold valV
            simp [e]
          · rw [if_neg e]
            refine .inl ⟨?_, rfl⟩
            unfold valV
            simp [Ne.symm e]
        · rw [hy] at k
          exact Err.gr k g2
      · cases e1 : findR rs v with
        | some r1 =>
          rw [(findR_some e1).2.2] at hv
          cases hv
        | none =>
          rw [e1] at k
          exact k
    | swap v1 v2 =>
      refine ⟨_, _, _, _, rfl, SqT.of ht, fun p hp => ?_⟩
      have g := Gr.new (o := .lst [v2]) hp
      walk_at "go"
      refine ⟨_, rfl, r_mrF (by decide +kernel) (r_mrF (by decide +kernel) (r_mrF (by decide +kernel) ?_))⟩
      have hk' := Act.Kn.ext g.e (a := (.swap v1 v2)) hk
      show tRet _ _ _ _
      walk_at "go"
      refine r_ixL (SqL.of upd_same) (atI_nat (j := 0) rfl) ?_
      walk_at "go"
      exact ⟨a, rs, v1, v2, rfl, hf.ext g.e, hk'.1, hk'.2, ResP.gr g k⟩
end
end Tx

set_option maxRecDepth 100000
set_option maxHeartbeats 4000000
namespace Tx
open PySem PySem.Spec PyProof.Rows L2 My LamX
section
variable {P : Program} {w : World} {K : PySem.W.Frag} {mg : Str → Option Value} {base : Heap}
/-! ### what a fence is made of stays -/
def fo (o : HO) : Prop := (∃ xs, o = .tup xs) ∨ (∃ q xs, o = .frz q (.tup xs)) ∨ (∃ C dx u fs, o = .ins C dx (("listed", u) :: fs)) ∨ (∃ C dx u, o = .ins C dx [("parts", u)]) ∨ ∃ k l, o = .dK (plKV k l)
def Fo (H H' : Hp) : Prop := ∀ b o, fo o → H b = some o → H' b = some o
theorem Fo.tup {H H' : Hp} (e : Fo H H') {p : Addr} {xs : List V} (h : H p = some (.tup xs)) : H' p = some (.tup xs) := e _ _ (.inl ⟨xs, rfl⟩) h
theorem Fo.sqT {H H' : Hp} (e : Fo H H') {p : Addr} {xs : List V} (h : SqT K H p xs) : SqT K H' p xs := by
  rcases h with (h | ⟨o, h⟩) | h
  · exact .inl (.inl (e.tup h))
  · exact .inl (.inr ⟨o, e _ _ (.inr (.inl ⟨o, xs, rfl⟩)) h⟩)
  · exact .inr h
theorem Fo.pat {H H' : Hp} (e : Fo H H') {a : Addr} {r : Rw} (h : PAt K H a r) : PAt K H' a r := by
  obtain ⟨dx, t, h1, h2, h3⟩ := h
  exact ⟨dx, t, e _ _ (.inr (.inr (.inr (.inl ⟨_, _, _, rfl⟩)))) h1, e.tup h2, h3⟩
theorem Fo.psat {H H' : Hp} (e : Fo H H') : ∀ {vs : List V} {rs : List Rw}, PsAt K H vs rs → PsAt K H' vs rs
  | [], [], _ => trivial
  | _ :: _, _ :: _, ⟨⟨a, e1, e2⟩, h⟩ => ⟨⟨a, e1, e.pat e2⟩, Fo.psat e h⟩
theorem Fo.fat {H H' : Hp} (e : Fo H H') {a : Addr} {rs : List Rw} (h : FAt K H a rs) : FAt K H' a rs := by
  obtain ⟨dx, t, d, vs, h1, h2, h3, h4, h5⟩ := h
  exact ⟨dx, t, d, vs, e _ _ (.inr (.inr (.inl ⟨_, _, _, _, rfl⟩))) h1, e.sqT h2, e.psat h3, e _ _ (.inr (.inr (.inr (.inr ⟨_, _, rfl⟩)))) h4, h5⟩
theorem fo_np {o : HO} (h : fo o) : penlike o = false := by
  rcases h with ⟨_, rfl⟩ | ⟨_, _, rfl⟩ | ⟨_, _, _, _, rfl⟩ | ⟨_, _, _, rfl⟩ | ⟨k, l, rfl⟩ <;> try rfl
  cases l <;> rfl
theorem fo_nt {o : HO} (h : fo o) : ∀ ps, o ≠ .tbl ps := by
  rcases h with ⟨_, rfl⟩ | ⟨_, _, rfl⟩ | ⟨_, _, _, _, rfl⟩ | ⟨_, _, _, rfl⟩ | ⟨k, l, rfl⟩ <;> exact fun _ z => by cases z
theorem Fo.kp {H H' : Hp} (k : Kp H H') : Fo H H' := fun b o h e => k.k b o (fo_np h) e
theorem Fo.gr {H H' : Hp} (g : Gr H H') : Fo H H' := fun b o _ e => g.e b o e
theorem Fo.exN {H H' : Hp} (e : ExtN H H') : Fo H H' := fun b o h z => e b o z (fo_nt h)
/-! ### yards -/
abbrev CY (K : PySem.W.Frag) : Addr := He.ga K "Yard"
abbrev yF (D W : Addr) : List (Str × V) := [("done", .ref D), ("waiting", .ref W)]
theorem Fo.kx {H H' : Hp} {y D C dx W : Addr} {vs : List V} (hy : H y = some (.ins C dx (yF D W))) (hD : H D = some (.lst vs)) (k : Kx [y, D] H H') : Fo H H' := fun b o h e => by
  refine k.k b o (fun hm => ?_) e
  simp only [List.mem_cons, List.not_mem_nil, or_false] at hm
  rcases hm with rfl | rfl
  · rw [hy] at e
    have e := Option.some.inj e
    subst e
    rcases h with ⟨_, h⟩ | ⟨_, _, h⟩ | ⟨_, _, _, _, h⟩ | ⟨_, _, _, h⟩ | ⟨_, _, h⟩
    · cases h
    · cases h
    · injection h with _ _ h
      injection h with h _
      injection h with h _
      exact absurd h (by decide +kernel)
    · injection h with _ _ h
      injection h with h _
      injection h with h _
      exact absurd h (by decide +kernel)
    · cases h
  · rw [hD] at e
    have e := Option.some.inj e
    subst e
    rcases h with ⟨_, h⟩ | ⟨_, _, h⟩ | ⟨_, _, _, _, h⟩ | ⟨_, _, _, h⟩ | ⟨_, _, h⟩ <;> cases h
abbrev Stp : Type := List V × List Rw
def StAt (K : PySem.W.Frag) (H : Hp) (v : V) (s : Stp) : Prop := ∃ p t f, v = .ref p ∧ H p = some (.tup [.ref t, .ref f]) ∧ H t = some (.tup s.1) ∧ FAt K H f s.2
def StsAt (K : PySem.W.Frag) (H : Hp) : List V → List Stp → Prop
  | [], [] => True
  | v :: vs, s :: l => StAt K H v s ∧ StsAt K H vs l
  | _, _ => False
theorem StAt.fo {H H' : Hp} (e : Fo H H') {v : V} {s : Stp} (h : StAt K H v s) : StAt K H' v s := by
  obtain ⟨p, t, f, h0, h1, h2, h3⟩ := h
  exact ⟨p, t, f, h0, e.tup h1, e.tup h2, e.fat h3⟩
theorem StsAt.fo {H H' : Hp} (e : Fo H H') : ∀ {vs : List V} {l : List Stp}, StsAt K H vs l → StsAt K H' vs l
  | [], [], _ => trivial
  | _ :: _, _ :: _, ⟨h1, h⟩ => ⟨h1.fo e, StsAt.fo e h⟩
theorem StsAt.len {H : Hp} : ∀ {vs : List V} {l : List Stp}, StsAt K H vs l → vs.length = l.length
  | [], [], _ => rfl
  | _ :: _, _ :: _, ⟨_, h⟩ => congrArg (· + 1) (StsAt.len h)
theorem StsAt.snoc {H : Hp} {v : V} {s : Stp} (e : StAt K H v s) : ∀ {vs : List V} {l : List Stp}, StsAt K H vs l → StsAt K H (vs ++ [v]) (l ++ [s])
  | [], [], _ => ⟨e, trivial⟩
  | _ :: _, _ :: _, ⟨h1, h⟩ => ⟨h1, StsAt.snoc e h⟩
theorem StsAt.at {H : Hp} {v : V} : ∀ {vs : List V} {l : List Stp} {i : Nat}, StsAt K H vs l → vs[i]? = some v → ∃ s, l[i]? = some s ∧ StAt K H v s
  | [], [], _, _, h => by simp at h
  | u :: vs, s :: l, 0, ⟨h1, h⟩, hm => by
    have : u = v := by simpa using hm
    subst this
    exact ⟨s, rfl, h1⟩
  | u :: vs, s :: l, i + 1, ⟨_, h⟩, hm => by simpa using StsAt.at (vs := vs) (l := l) (i := i) h (by simpa using hm)
/-- a yard: its steps in effect, the steps that wait -/
def YAt (K : PySem.W.Frag) (H : Hp) (y D : Addr) (sts wts : List Stp) : Prop := ∃ dx W vs ws, H y = some (.ins (CY K) dx (yF D W)) ∧ H D = some (.lst vs) ∧ H W = some (.lst ws) ∧ StsAt K H vs sts ∧ StsAt K H ws wts ∧ D ≠ W
theorem YAt.by {H H' : Hp} {y D : Addr} {sts wts : List Stp} (h : YAt K H y D sts wts) (e : Fo H H') (h1 : ∀ dx W, H y = some (.ins (CY K) dx (yF D W)) → H' y = some (.ins (CY K) dx (yF D W))) (h2 : ∀ p xs, H p = some (.lst xs) → H' p = some (.lst xs)) : YAt K H' y D sts wts := by
  obtain ⟨dx, W, vs, ws, a1, a2, a3, a4, a5, a6⟩ := h
  exact ⟨dx, W, vs, ws, h1 _ _ a1, h2 _ _ a2, h2 _ _ a3, a4.fo e, a5.fo e, a6⟩
theorem YAt.kp {H H' : Hp} {y D : Addr} {sts wts : List Stp} (h : YAt K H y D sts wts) (k : Kp H H') : YAt K H' y D sts wts := h.by (Fo.kp k) (fun _ _ e => k.i e) fun _ _ e => k.l e
theorem YAt.gr {H H' : Hp} {y D : Addr} {sts wts : List Stp} (h : YAt K H y D sts wts) (g : Gr H H') : YAt K H' y D sts wts := h.kp g.kp
theorem YAt.exN {H H' : Hp} {y D : Addr} {sts wts : List Stp} (h : YAt K H y D sts wts) (e : ExtN H H') : YAt K H' y D sts wts := h.by (Fo.exN e) (fun _ _ z => e _ _ z fun _ q => by cases q) fun _ _ z => e _ _ z fun _ q => by cases q
/-! ### actions at their places -/
def okV : V → Prop
  | .str s => IsNm s
  | .int i => -(10 ^ 31) ≤ i ∧ i ≤ 10 ^ 31
  | _ => False
def datV : V → PyData
  | .str s => .str s
  | .int i => .int i
  | _ => .none
theorem okV.dp {H : Hp} : ∀ {v : V}, okV v → Dp K H v (datV v)
  | .str s, _ => .str s
  | .int i, _ => .int i
theorem okV.kn {H : Hp} : ∀ {v : V}, okV v → Kn K H v
  | .str s, h => Nat.le_trans h.2.1 (by decide)
  | .int i, _ => trivial
theorem okVs.dp {H : Hp} : ∀ {vs : List V}, (∀ v ∈ vs, okV v) → DpAll K H vs (vs.map datV)
  | [], _ => .nil
  | v :: vs, h => .cons (okV.dp (h v List.mem_cons_self)) (okVs.dp fun x hx => h x (List.mem_cons_of_mem _ hx))
theorem okVs.lay : ∀ {vs : List V}, (∀ v ∈ vs, okV v) → PyData.canLayAll0 (vs.map datV) = true
  | [], _ => rfl
  | .str s :: vs, h => by
    show (PyData.strOk s && PyData.canLayAll0 (vs.map datV)) = true
    rw [nm_ok (h _ List.mem_cons_self), okVs.lay fun x hx => h x (List.mem_cons_of_mem _ hx)]
    rfl
  | .int i :: vs, h => okVs.lay (vs := vs) fun x hx => h x (List.mem_cons_of_mem _ hx)
  | .non :: vs, h => (h _ List.mem_cons_self).elim
  | .bl _ :: vs, h => (h _ List.mem_cons_self).elim
  | .ref _ :: vs, h => (h _ List.mem_cons_self).elim
  | .byt _ :: vs, h => (h _ List.mem_cons_self).elim
  | .flt _ :: vs, h => (h _ List.mem_cons_self).elim
  | .ty _ :: vs, h => (h _ List.mem_cons_self).elim
theorem okVs.depth : ∀ (vs : List V), PyData.depthAll (vs.map datV) = 0
  | [] => rfl
  | v :: vs => by
    show max (datV v).depth (PyData.depthAll (vs.map datV)) = 0
    rw [okVs.depth vs]
    cases v <;> rfl
theorem okVs.shaped {vs : List V} (h : ∀ v ∈ vs, okV v) : SeqAt.shaped (.tuple (vs.map datV)) = true := by
  unfold SeqAt.shaped
  rw [show (PyData.tuple (vs.map datV)).canLay0 = true from okVs.lay h, Bool.true_and]
  refine decide_eq_true ?_
  show PyData.depthAll (vs.map datV) + 1 ≤ 64
  rw [okVs.depth]
  decide
def Act.Ok (a : Act) : Prop := (∀ v ∈ a.vs, okV v) ∧ ∀ v, a = .leave v → ∃ s, v = .str s
theorem m1 {a b : V} {l : List V} : b ∈ a :: b :: l := List.mem_cons_of_mem _ List.mem_cons_self
theorem m2 {a b c : V} {l : List V} : c ∈ a :: b :: c :: l := List.mem_cons_of_mem _ m1
theorem m3 {a b c d : V} {l : List V} : d ∈ a :: b :: c :: d :: l := List.mem_cons_of_mem _ m2
theorem m4 {a b c d e : V} {l : List V} : e ∈ a :: b :: c :: d :: e :: l := List.mem_cons_of_mem _ m3
theorem Act.Ok.kn {H : Hp} : ∀ {a : Act}, a.Ok → a.Kn K H
  | .come v1 v2 v3 v4, h => ⟨(h.1 v1 m1).kn, (h.1 v2 m2).kn, (h.1 v3 m3).kn, (h.1 v4 m4).kn⟩
  | .leave v, h => ⟨(h.1 v m1).kn, h.2 v rfl⟩
  | .move v1 v2 v3, h => ⟨(h.1 v1 m1).kn, (h.1 v2 m2).kn, (h.1 v3 m3).kn⟩
  | .swap v1 v2, h => ⟨(h.1 v1 m1).kn, (h.1 v2 m2).kn⟩
/-- tuples of known items at the values -/
def TsAt {α : Type} (H : Hp) (f : α → List V) : List V → List α → Prop
  | [], [] => True
  | v :: vs, a :: l => (∃ t, v = .ref t ∧ H t = some (.tup (f a))) ∧ TsAt H f vs l
  | _, _ => False
section
variable {α : Type} {f : α → List V}
theorem TsAt.fo {H H' : Hp} (e : Fo H H') : ∀ {vs : List V} {l : List α}, TsAt H f vs l → TsAt H' f vs l
  | [], [], _ => trivial
  | _ :: _, _ :: _, ⟨⟨t, h1, h2⟩, h⟩ => ⟨⟨t, h1, e.tup h2⟩, TsAt.fo e h⟩
theorem TsAt.len {H : Hp} : ∀ {vs : List V} {l : List α}, TsAt H f vs l → vs.length = l.length
  | [], [], _ => rfl
  | _ :: _, _ :: _, ⟨_, h⟩ => congrArg (· + 1) (TsAt.len h)
theorem TsAt.at {H : Hp} {v : V} : ∀ {vs : List V} {l : List α} {i : Nat}, TsAt H f vs l → vs[i]? = some v → ∃ a t, l[i]? = some a ∧ v = .ref t ∧ H t = some (.tup (f a))
  | [], [], _, _, h => by simp at h
  | u :: vs, s :: l, 0, ⟨⟨t, h1, h2⟩, h⟩, hm => by
    have : u = v := by simpa using hm
    subst this
    exact ⟨s, t, rfl, h1, h2⟩
  | u :: vs, s :: l, i + 1, ⟨_, h⟩, hm => by simpa using TsAt.at (vs := vs) (l := l) (i := i) h (by simpa using hm)
theorem TsAt.snoc {H : Hp} {t : Addr} {a : α} (e : H t = some (.tup (f a))) : ∀ {vs : List V} {l : List α}, TsAt H f vs l → TsAt H f (vs ++ [.ref t]) (l ++ [a])
  | [], [], _ => ⟨⟨t, rfl, e⟩, trivial⟩
  | _ :: _, _ :: _, ⟨h1, h⟩ => ⟨h1, TsAt.snoc e h⟩
end
abbrev AsAt (H : Hp) : List V → List Act → Prop := TsAt H Act.vs
def lastR (sts : List Stp) : List Rw := match sts.getLast? with
  | none => []
  | some s => s.2
theorem lastR_snoc {sts : List Stp} {s : Stp} : lastR (sts ++ [s]) = s.2 := by
  unfold lastR
  rw [List.getLast?_append]
  rfl
end
end Tx

set_option maxRecDepth 100000
set_option maxHeartbeats 4000000
namespace My
open PySem PySem.Spec PyProof.Rows L2 Builtin.Str
/-! ### what is shown may be compared -/
theorem char_lt (c : Char) : c.toNat < 0x110000 := by
  rcases c.valid with h | h
  · have h : c.toNat < 0xd800 := h
    omega
  · have h : c.toNat < 0x110000 := h.2
    exact h
theorem reprChar_ok {q c x : Nat} (hc : c < 0x110000) (hx : x ∈ reprChar q c) : x < 0x110000 := by
  have hd : ∀ {n : Nat}, x ∈ List.replicate n 48 ++ (Nat.toDigits 16 c).map Char.toNat → x < 0x110000 := fun h => by
    rcases List.mem_append.mp h with h | h
    · have := (List.mem_replicate.mp h).2
      omega
    · obtain ⟨d, _, rfl⟩ := List.mem_map.mp h
      exact char_lt d
  unfold reprChar at hx
  dsimp only at hx
  have two : ∀ {a b : Nat}, a < 0x110000 → b < 0x110000 → x ∈ [a, b] → x < 0x110000 := fun ha hb h => by
    simp only [List.mem_cons, List.not_mem_nil, or_false] at h
    rcases h with rfl | rfl
    · exact ha
    · exact hb
  have app : ∀ {a b n : Nat}, a < 0x110000 → b < 0x110000 → x ∈ [a, b] ++ (List.replicate n 48 ++ (Nat.toDigits 16 c).map Char.toNat) → x < 0x110000 := fun ha hb h => by
    rcases List.mem_append.mp h with h | h
    · exact two ha hb h
    · exact hd h
  split at hx
  · exact two (by decide) hc hx
  · split at hx
    · exact two (by decide) (by decide) hx
    · split at hx
      · exact two (by decide) (by decide) hx
      · split at hx
        · exact two (by decide) (by decide) hx
        · split at hx
          · rw [List.mem_singleton.mp hx]
            exact hc
          · split at hx
            · exact app (by decide) (by decide) hx
            · split at hx
              · exact app (by decide) (by decide) hx
              · exact app (by decide) (by decide) hx
theorem foldl_ok {q : Nat} : ∀ (l : List Nat) (acc : Array Nat), (∀ c ∈ l, c < 0x110000) → (∀ x ∈ acc.toList, x < 0x110000) → ∀ x ∈ (l.foldl (fun out c => out ++ (reprChar q c).toArray) acc).toList, x < 0x110000
  | [], acc, _, h => h
  | c :: r, acc, hc, h => by
    rw [List.foldl_cons]
    refine foldl_ok r _ (fun d hd => hc d (List.mem_cons_of_mem _ hd)) fun x hx => ?_
    rw [Array.toList_append] at hx
    rcases List.mem_append.mp hx with hx | hx
    · exact h x hx
    · exact reprChar_ok (hc c List.mem_cons_self) hx
theorem repr_signs {s : Str} (h : ∀ c ∈ cl s, c < 0x110000) : ∀ c ∈ cl (reprText s), c < 0x110000 := by
  have hq : reprQuote s < 0x110000 := by
    unfold reprQuote
    split <;> decide
  intro c hc
  unfold reprText cl at hc
  rw [Array.toList_push, ← Array.foldl_toList] at hc
  rcases List.mem_append.mp hc with hc | hc
  · exact foldl_ok s.cps.toList #[reprQuote s] h (fun x hx => by
      have : x = reprQuote s := by simpa using hx
      rw [this]
      exact hq) c hc
  · rw [List.mem_singleton.mp hc]
    exact hq
/-! ### the signs of what is shown -/
def Sg (s : Str) : Prop := ∀ c ∈ cl s, c < 0x110000
instance (s : Str) : Decidable (Sg s) := inferInstanceAs (Decidable (∀ c ∈ cl s, c < 0x110000))
theorem Sg.app {a b : Str} (h : Sg a) (k : Sg b) : Sg (a ++ b) := fun c hc => by
  rw [cl_app] at hc
  rcases List.mem_append.mp hc with hc | hc
  · exact h c hc
  · exact k c hc
theorem Sg.join : ∀ {ts : List Str}, (∀ t ∈ ts, Sg t) → Sg (Str.join ", " ts)
  | [], _ => fun c hc => by cases hc
  | [x], h => h x List.mem_cons_self
  | x :: y :: r, h => by
    show Sg (x ++ ", " ++ Str.join ", " (y :: r))
    exact ((h x List.mem_cons_self).app (by decide +kernel)).app (Sg.join fun t ht => h t (List.mem_cons_of_mem _ ht))
theorem Sg.textFrom : ∀ {ts : List Str} {k : Nat} {acc : Str}, Sg acc → (∀ t ∈ ts, Sg t) → Sg (PySem.textFrom k acc ts)
  | [], _, _, h, _ => h
  | t :: ts, k, acc, h, ht => by
    refine Sg.textFrom (ts := ts) ((h.app ?_).app (ht t List.mem_cons_self)) fun x hx => ht x (List.mem_cons_of_mem _ hx)
    split
    · decide +kernel
    · decide +kernel
end My
namespace Tx
open PySem PySem.Spec PyProof.Rows L2 My LamX
section
variable {P : Program} {w : World} {K : PySem.W.Frag} {mg : Str → Option Value} {base : Heap}
/-! ### values of any kind -/
structure ShQ (d : PyData) (n m : Nat) : Prop where
  sh : d.showable = true
  dp : d.depth ≤ m
  ln : d.shown.length ≤ n
  ch : Sg d.shown
/-- a value of any kind; tv: what repr makes of it -/
def It (B H : Hp) (tv : V → Str) (v : V) : Prop := (∀ s, v = .str s → s.length ≤ 100) ∧ ∃ d, Dq B H v d ∧ ShQ d 20000 6 ∧ tv v = d.shown
theorem It.ke {B H H' : Hp} {tv : V → Str} {v : V} (k : Ke B H H') (h : It B H tv v) : It B H' tv v := by
  obtain ⟨h1, d, h2, h3, h4⟩ := h
  exact ⟨h1, d, Dq.ke k _ _ h2, h3, h4⟩
theorem Dq.kn {B H : Hp} {v : V} {d : PyData} (h : Dq B H v d) (hs : ∀ s, v = .str s → s.length ≤ sizeLine) : Kn K H v := by
  cases h with
  | non => trivial
  | bl b => trivial
  | int i => trivial
  | str x => exact hs x rfl
  | lst h _ _ => exact ⟨"list", .base (.lst h), .inl rfl⟩
  | tup h _ => exact ⟨"tuple", .base (.tup h), .inr (.inl rfl)⟩
  | d0 h _ => exact ⟨"dict", .base (.dK h), .inr (.inr rfl)⟩
  | d1 h _ _ => exact ⟨"dict", .base (.dK h), .inr (.inr rfl)⟩
theorem It.kn {B H : Hp} {tv : V → Str} {v : V} (h : It B H tv v) : Kn K H v := by
  obtain ⟨h1, d, h2, _⟩ := h
  exact Dq.kn h2 fun s e => Nat.le_trans (h1 s e) (by decide)
/-- repr of it -/
theorem r_it {B H : Hp} {tv : V → Str} {v : V} {Q : VK} (h : It B H tv v) (q : Q (.str (tv v)) H) : rReprQ [v] H Q := by
  obtain ⟨_, d, h2, h3, h4⟩ := h
  rw [h4] at q
  exact ⟨B, v, d, rfl, h2, h3.sh, Nat.le_trans h3.dp (by decide), Nat.le_trans h3.ln (by decide), q⟩
/-! ### values that are actions, and others -/
def szO (z : Str) : Option Nat := if z = "come" then some 5 else if z = "leave" then some 2 else if z = "move" then some 4 else if z = "swap" then some 3 else none
def badP : PyData → Bool
  | .tuple (.str z :: r) => !decide (szO z = some (r.length + 1))
  | _ => true
inductive Av where
  | act (a : Act)
  | odd (v : V)
def AvAt (B H : Hp) (tv : V → Str) (u : V) : Av → Prop
  | .act a => ∃ t, u = .ref t ∧ H t = some (.tup a.vs) ∧ ∀ v ∈ a.vs, It B H tv v
  | .odd v => u = v ∧ It B H tv v ∧ ∃ d, Dq B H v d ∧ badP d = true
theorem AvAt.ke {B H H' : Hp} {tv : V → Str} {u : V} (k : Ke B H H') : ∀ {a : Av}, AvAt B H tv u a → AvAt B H' tv u a
  | .act _, ⟨t, h1, h2, h3⟩ => ⟨t, h1, k.t _ _ h2, fun v hv => (h3 v hv).ke k⟩
  | .odd _, ⟨h1, h2, d, h3, h4⟩ => ⟨h1, h2.ke k, d, Dq.ke k _ _ h3, h4⟩
def R2At {α : Type} (R : V → α → Prop) : List V → List α → Prop
  | [], [] => True
  | u :: us, a :: l => R u a ∧ R2At R us l
  | _, _ => False
section
variable {α : Type} {R R' : V → α → Prop}
theorem R2At.imp (k : ∀ u a, R u a → R' u a) : ∀ {us : List V} {l : List α}, R2At R us l → R2At R' us l
  | [], [], _ => trivial
  | _ :: _, _ :: _, ⟨h1, h⟩ => ⟨k _ _ h1, R2At.imp k h⟩
theorem R2At.len : ∀ {us : List V} {l : List α}, R2At R us l → us.length = l.length
  | [], [], _ => rfl
  | _ :: _, _ :: _, ⟨_, h⟩ => congrArg (· + 1) (R2At.len h)
theorem R2At.at {u : V} : ∀ {us : List V} {l : List α} {i : Nat}, R2At R us l → us[i]? = some u → ∃ a, l[i]? = some a ∧ R u a
  | [], [], _, _, h => by simp at h
  | v :: us, a :: l, 0, ⟨h1, _⟩, hm => by
    have e : some v = some u := hm
    cases e
    exact ⟨a, rfl, h1⟩
  | v :: us, a :: l, i + 1, ⟨_, h⟩, hm => by simpa using R2At.at (us := us) (l := l) (i := i) h (by simpa using hm)
theorem R2At.snoc {u : V} {a : α} (e : R u a) : ∀ {us : List V} {l : List α}, R2At R us l → R2At R (us ++ [u]) (l ++ [a])
  | [], [], _ => ⟨e, trivial⟩
  | _ :: _, _ :: _, ⟨h1, h⟩ => ⟨h1, R2At.snoc e h⟩
end
abbrev AvsAt (B H : Hp) (tv : V → Str) : List V → List Av → Prop := R2At (AvAt B H tv)
theorem AvsAt.ke {B H H' : Hp} {tv : V → Str} (k : Ke B H H') {us : List V} {l : List Av} (h : AvsAt B H tv us l) : AvsAt B H' tv us l := R2At.imp (fun _ _ h => h.ke k) h
theorem szO_come : szO "come" = some 5 := by decide +kernel
theorem szO_leave : szO "leave" = some 2 := by decide +kernel
theorem szO_move : szO "move" = some 4 := by decide +kernel
theorem szO_swap : szO "swap" = some 3 := by decide +kernel
theorem Act.szO (a : Act) : ∃ z rest, a.vs = .str z :: rest ∧ szO z = some (rest.length + 1) := by
  cases a with
  | come v1 v2 v3 v4 => exact ⟨"come", [v1, v2, v3, v4], rfl, szO_come⟩
  | leave v => exact ⟨"leave", [v], rfl, szO_leave⟩
  | move v v2 v3 => exact ⟨"move", [v, v2, v3], rfl, szO_move⟩
  | swap v1 v2 => exact ⟨"swap", [v1, v2], rfl, szO_swap⟩
theorem len1 {α : Type} : ∀ {l : List α}, l.length = 1 → ∃ a, l = [a]
  | [a], _ => ⟨a, rfl⟩
theorem len2 {α : Type} : ∀ {l : List α}, l.length = 2 → ∃ a b, l = [a, b]
  | [a, b], _ => ⟨a, b, rfl⟩
theorem len3 {α : Type} : ∀ {l : List α}, l.length = 3 → ∃ a b c, l = [a, b, c]
  | [a, b, c], _ => ⟨a, b, c, rfl⟩
theorem len4 {α : Type} : ∀ {l : List α}, l.length = 4 → ∃ a b c d, l = [a, b, c, d]
  | [a, b, c, d], _ => ⟨a, b, c, d, rfl⟩
theorem szO_cases {z : Str} {n : Nat} (h : szO z = some n) : (z = "come" ∧ n = 5) ∨ (z = "leave" ∧ n = 2) ∨ (z = "move" ∧ n = 4) ∨ (z = "swap" ∧ n = 3) := by
  unfold szO at h
  by_cases e : z = "come"
  · rw [if_pos e] at h
    exact .inl ⟨e, (Option.some.inj h).symm⟩
  rw [if_neg e] at h
  by_cases e : z = "leave"
  · rw [if_pos e] at h
    exact .inr (.inl ⟨e, (Option.some.inj h).symm⟩)
  rw [if_neg e] at h
  by_cases e : z = "move"
  · rw [if_pos e] at h
    exact .inr (.inr (.inl ⟨e, (Option.some.inj h).symm⟩))
  rw [if_neg e] at h
  by_cases e : z = "swap"
  · rw [if_pos e] at h
    exact .inr (.inr (.inr ⟨e, (Option.some.inj h).symm⟩))
  rw [if_neg e] at h
  cases h
theorem act_of {z : Str} {vs : List V} (h : Tx.szO z = some (vs.length + 1)) : ∃ a : Act, a.vs = .str z :: vs := by
  rcases szO_cases h with ⟨e, h⟩ | ⟨e, h⟩ | ⟨e, h⟩ | ⟨e, h⟩
  · obtain ⟨v1, v2, v3, v4, rfl⟩ := len4 (show vs.length = 4 by omega)
    exact ⟨.come v1 v2 v3 v4, by rw [e]; rfl⟩
  · obtain ⟨v1, rfl⟩ := len1 (show vs.length = 1 by omega)
    exact ⟨.leave v1, by rw [e]; rfl⟩
  · obtain ⟨v1, v2, v3, rfl⟩ := len3 (show vs.length = 3 by omega)
    exact ⟨.move v1 v2 v3, by rw [e]; rfl⟩
  · obtain ⟨v1, v2, rfl⟩ := len2 (show vs.length = 2 by omega)
    exact ⟨.swap v1 v2, by rw [e]; rfl⟩
def firstOdd : List Av → Option V
  | [] => none
  | .odd v :: _ => some v
  | .act _ :: r => firstOdd r
def actsOf : List Av → List Act
  | [] => []
  | .odd _ :: r => actsOf r
  | .act a :: r => a :: actsOf r
def stepsW (rs : List Rw) (l : List Av) : Res := match firstOdd l with
  | some v => .bad .action v
  | none => stepsA rs (actsOf l)
theorem firstOdd_none : ∀ {l : List Av} {i : Nat} {a : Av}, firstOdd l = none → l[i]? = some a → ∃ x, a = .act x ∧ (actsOf l)[i]? = some x
  | [], _, _, _, h => by simp at h
  | .odd _ :: _, _, _, h, _ => by cases h
  | .act x :: r, 0, a, _, h => by
    have e : some (Av.act x) = some a := h
    cases e
    exact ⟨x, rfl, rfl⟩
  | .act x :: r, i + 1, a, h, e => by
    have h : firstOdd r = none := h
    obtain ⟨y, h1, h2⟩ := firstOdd_none (l := r) (i := i) h (by simpa using e)
    exact ⟨y, h1, by simpa [actsOf] using h2⟩
theorem actsOf_len : ∀ {l : List Av}, firstOdd l = none → (actsOf l).length = l.length
  | [], _ => rfl
  | .odd _ :: _, h => by cases h
  | .act x :: r, h => congrArg (· + 1) (actsOf_len (l := r) h)
theorem firstOdd_drop : ∀ {l : List Av} {i : Nat}, (∀ j a, j < i → l[j]? = some a → ∃ x, a = Av.act x) → firstOdd (l.drop i) = firstOdd l
  | _, 0, _ => rfl
  | [], _ + 1, _ => rfl
  | .odd v :: r, i + 1, h => by
    obtain ⟨x, e⟩ := h 0 _ (Nat.zero_lt_succ i) rfl
    cases e
  | .act x :: r, i + 1, h => by
    show firstOdd (r.drop i) = firstOdd r
    exact firstOdd_drop fun j a hj e => h (j + 1) a (by omega) (by simpa using e)
/-! ### need_action -/
/-- the written dict of the words -/
abbrev DPW (K : PySem.W.Frag) (w : World) : Prop := (∃ es n, KDict K w (He.ga K "PARTS") es n) ∧ ∀ z, szO z = none → PySem.W.nsIn K (He.ga K "PARTS") z = some none
theorem szO_word (T : Tx K mg) {z : Str} {n : Nat} (h : szO z = some n) : ∃ u, PySem.W.nsIn K (He.ga K "PARTS") z = some (some u) ∧ RelV (.int n) u := by
  rcases szO_cases h with ⟨e, h⟩ | ⟨e, h⟩ | ⟨e, h⟩ | ⟨e, h⟩ <;> rw [e, h]
  · exact T.dv_PARTS_come
  · exact T.dv_PARTS_leave
  · exact T.dv_PARTS_move
  · exact T.dv_PARTS_swap
theorem kit_tup {H : Hp} {t : Addr} {xs : List V} (h : H t = some (.tup xs)) : Kit K H (.ref t) "tuple" true := ⟨_, .base (.tup h), rfl⟩
/-- of what kind a value is -/
def isTp (K : PySem.W.Frag) (H : Hp) (v : V) : Prop := Kit K H v "tuple" false
theorem Dq.tp {B H : Hp} {v : V} {d : PyData} (h : Dq B H v d) : isTp K H v ∨ ∃ t xs ds, v = .ref t ∧ d = .tuple ds ∧ H t = some (.tup xs) ∧ DqAll B H xs ds := by
  cases h with
  | non => exact .inl ⟨_, .base .non, rfl⟩
  | bl b => exact .inl ⟨_, .base (.bl b), rfl⟩
  | int i => exact .inl ⟨_, .base (.int i), rfl⟩
  | str x => exact .inl ⟨_, .base (.str x), rfl⟩
  | lst h _ _ => exact .inl ⟨_, .base (.lst h), rfl⟩
  | tup h a => exact .inr ⟨_, _, _, rfl, rfl, h, a⟩
  | d0 h _ => exact .inl ⟨_, .base (.dK h), rfl⟩
  | d1 h _ _ => exact .inl ⟨_, .base (.dK h), rfl⟩
theorem Dq.kitS {B H : Hp} {v : V} {d : PyData} (h : Dq B H v d) : Kit K H v "str" (isS v) := by
  cases h with
  | non => exact ⟨_, .base .non, rfl⟩
  | bl b => exact ⟨_, .base (.bl b), rfl⟩
  | int i => exact ⟨_, .base (.int i), rfl⟩
  | str x => exact ⟨_, .base (.str x), rfl⟩
  | lst h _ _ => exact ⟨_, .base (.lst h), rfl⟩
  | tup h a => exact ⟨_, .base (.tup h), rfl⟩
  | d0 h _ => exact ⟨_, .base (.dK h), rfl⟩
  | d1 h _ _ => exact ⟨_, .base (.dK h), rfl⟩
end
end Tx

set_option maxRecDepth 100000
set_option maxHeartbeats 4000000
namespace Tx
open PySem PySem.Spec PyProof.Rows L2 My LamX
section
variable {P : Program} {w : World} {K : PySem.W.Frag} {mg : Str → Option Value} {base : Heap}
/-! ### need_action -/
abbrev DPA (K : PySem.W.Frag) (w : World) : Prop := DPW K w
def NeedR (K : PySem.W.Frag) (E : XK) (H : Hp) (Q : VK) : Av → Prop
  | .act _ => ∀ H1, Gr H H1 → Q .non H1
  | .odd v => Err E (xIA K) "value" v H
def spNeedV (K : PySem.W.Frag) : Sp := fun vs H Q E => ∃ B tv u av, vs = [u] ∧ AvAt B H tv u av ∧ NeedR K E H Q av
theorem ok_needA (T : Tx K mg) (D : DPA K w) : FnR PP w K mg base (CXn PP w) 2 (a_need_action K) (spNeedV K) := by
  obtain ⟨⟨es, en, DP⟩, DM⟩ := D
  refine fnR_of T.f_need_action sc_need_action (fun _ _ _ _ _ _ us hl => match us, hl with | [_], _ => rfl) (fun vs H Q E h => ?_) fun A outer s H vs Q E cdv hr h => ?_
  · obtain ⟨B, tv, u, av, rfl, _⟩ := h
    rfl
  · obtain ⟨B, tv, u, av, rfl, ha, k⟩ := h
    refine ⟨_, (pss_cons (ps_if (PW.pt (pw_or (pt_not (pt_val (pe_callB call_isi rfl T.n_isinstance (by decide +kernel) (pa_cons (pv 0) (pa_cons (pe_bltn (v := .ty "tuple") rfl T.n_tuple (by decide +kernel) rfl) pa_nil))))) (pw_or (pt_cmpR (op_eqT0 (K := K) rfl (Nat.lt_of_le_of_lt (Nat.le_add_right _ 64) hr.units)) (pv 0) (pe_tup pa_nil) (nomark _)) (pw_or1 (pt_not (pt_val (pe_callB call_isi rfl T.n_isinstance (by decide +kernel) (pa_cons (pe_ix (ix_seqK (K := K) rfl) (pv 0) pe_int (fun _ _ => rfl)) (pa_cons (pe_bltn (v := .ty "str") rfl T.n_str (by decide +kernel) rfl) pa_nil)))))))))
 (pss_one (Oc.ps_raise Oc.zn_mk rfl (Oc.takes_of Oc.zn_ok rfl rfl rfl rfl) (Ow.pmk_ox Ox.chain_VE T.x_InvalidAction (by have z := Ow.room1 hr; exact z) T.g_InvalidAction (pa_cons (pv 0) pa_nil) rfl)))
 pss_nil)
 (pss_one (ps_if (PW.pt (pw_or (pt_cmpR (op_notInKd DP) (pe_ix (ix_seqK (K := K) rfl) (pv 0) pe_int (fun _ _ => rfl)) (pe_glob (v := .ref (He.ga K "PARTS")) rfl T.g_PARTS rfl) (by rfl)) (pw_or1 (pt_cmpR (op_neUK (K := K) rfl hr.units) (pe_callB (call_lenUK (K := K) rfl) rfl T.n_len (by decide +kernel) (pa_cons (pv 0) pa_nil)) (ix_kd DP (pe_glob (v := .ref (He.ga K "PARTS")) rfl T.g_PARTS rfl) (pe_ix (ix_seqK (K := K) rfl) (pv 0) pe_int (fun _ _ => rfl)) (fun _ _ => rfl)) (nomark _)))))
 (pss_one (Oc.ps_raise Oc.zn_mk rfl (Oc.takes_of Oc.zn_ok rfl rfl rfl rfl) (Ow.pmk_ox Ox.chain_VE T.x_InvalidAction (by have z := Ow.room1 hr; exact z) T.g_InvalidAction (pa_cons (pv 0) pa_nil) rfl)))
 pss_nil))), ?_⟩
    try dsimp only [cxOf]
    walk_at "go"
    cases av with
    | act a =>
      obtain ⟨t, rfl, ht, hit⟩ := ha
      obtain ⟨z, rest, e1, e2⟩ := Act.szO a
      obtain ⟨pu, e3, e4⟩ := szO_word T e2
      rw [e1] at ht
      have k : ∀ H1, Gr H H1 → Q .non H1 := k
      refine r_isi (kit_tup ht) ⟨_, rfl, ?_⟩
      walk_at "go"
      refine ⟨by decide, fun p hp => ?_⟩
      have g := Gr.new (o := .tup []) hp
      have ht' := g.e _ _ ht
      refine r_eqT0' (SqT.of ht') (SqT.of upd_same) ?_
      generalize upd H p (.tup []) = H1 at g ht'
      walk_at "go"
      refine r_iteF ?_
      walk_at "go"
      refine r_ixT (SqT.of ht') (atI_nat (j := 0) rfl) ?_
      walk_at "go"
      refine r_isi kit_str.1 ?_
      walk_at "go"
      refine r_ixT (SqT.of ht') (atI_nat (j := 0) rfl) ?_
      walk_at "go"
      refine ⟨z, _, rfl, rfl, e3, ?_⟩
      refine ⟨_, rfl, ?_⟩
      refine r_iteF ?_
      walk_at "go"
      refine r_ixT (SqT.of ht') (atI_nat (j := 0) rfl) ?_
      refine ⟨z, pu, _, rfl, rfl, e3, e4, ?_⟩
      refine r_neI ?_
      refine ⟨_, rfl, ?_⟩
      rw [decide_eq_true (show (((V.str z :: rest).length : Nat) : Int) = ((rest.length + 1 : Nat) : Int) from rfl)]
      walk_at "go"
      exact k _ g
    | odd v =>
      obtain ⟨rfl, hit, d, hd, hb⟩ := ha
      have k : Err E (xIA K) "value" u H := k
      have fin : ∀ H1, Gr H H1 → ∀ d, H1 d = none → E (xIA K) (some d) (upd H1 d (.xd [("value", u)])) := fun H1 g d hd => k.go g hd
      rcases Dq.tp (K := K) hd with hn | ⟨t, xs, ds, rfl, rfl, ht, hall⟩
      · refine r_isi hn ⟨_, rfl, ?_⟩
        refine r_iteNF ?_
        refine r_iteT ?_
        walk_at "go"
        exact fin _ (Gr.refl _)
      · refine r_isi (kit_tup ht) ⟨_, rfl, ?_⟩
        walk_at "go"
        refine ⟨by decide, fun p hp => ?_⟩
        have g := Gr.new (o := .tup []) hp
        have ht' := g.e _ _ ht
        refine r_eqT0' (SqT.of ht') (SqT.of upd_same) ?_
        have hall' := DqAll.ke (Ke.gr g) _ _ hall
        generalize upd H p (.tup []) = H1 at g ht' hall'
        walk_at "go"
        cases hall' with
        | nil =>
          refine r_iteT ?_
          refine r_iteT ?_
          walk_at "go"
          exact fin _ g
        | @cons x xs dx ds hx hr2 =>
          refine r_iteF ?_
          walk_at "go"
          refine r_ixT (SqT.of ht') (atI_nat (j := 0) rfl) ?_
          walk_at "go"
          refine r_isi (Dq.kitS hx) ?_
          cases e : isS x with
          | false =>
            walk_at "go"
            exact fin _ g
          | true =>
            obtain ⟨z, rfl⟩ : ∃ z, x = .str z := by
              cases x <;> try (cases e)
              exact ⟨_, rfl⟩
            cases hx
            have hb : (!decide (szO z = some (ds.length + 1))) = true := hb
            walk_at "go"
            refine r_ixT (SqT.of ht') (atI_nat (j := 0) rfl) ?_
            walk_at "go"
            cases e : szO z with
            | none =>
              refine ⟨z, _, rfl, rfl, DM z e, ?_⟩
              walk_at "go"
              refine r_iteT ?_
              refine r_iteT ?_
              walk_at "go"
              exact fin _ g
            | some n =>
              obtain ⟨pu, e3, e4⟩ := szO_word T e
              refine ⟨z, _, rfl, rfl, e3, ?_⟩
              refine ⟨_, rfl, ?_⟩
              refine r_iteF ?_
              walk_at "go"
              refine r_ixT (SqT.of ht') (atI_nat (j := 0) rfl) ?_
              refine ⟨z, pu, _, rfl, rfl, e3, e4, ?_⟩
              refine r_neI ?_
              refine ⟨_, rfl, ?_⟩
              rw [decide_eq_false (show ¬ (((V.str z :: xs).length : Nat) : Int) = (n : Int) from fun q => by
                rw [e] at hb
                have hl := hr2.len
                have : n = ds.length + 1 := by
                  rw [List.length_cons, hl] at q
                  omega
                rw [this] at hb
                simp at hb)]
              walk_at "go"
              exact fin _ g
/-! ### Yard -/
theorem Kx.ins {S : List Addr} {H H1 : Hp} (k : Kx S H H1) {b : Addr} {o : HO} (n : b ∉ S) (h : H b = some o) : H1 b = some o := k.k _ _ n h
def spYInit (K : PySem.W.Frag) : Sp := fun vs H Q _ => ∃ x dx, vs = [.ref x] ∧ H x = some (.ins (CY K) dx []) ∧ ∀ D H', YAt K H' x D [] [] → Kx [x] H H' → H D = none → Q .non H'
theorem ok_yinit (T : Tx K mg) : FnR P w K mg base (L2.CX P w) 1 (a_Yard_init K) (spYInit K) := by
  refine fnR_of T.f_Yard_init sc_Yard_init (fun _ _ _ _ _ _ us hl => match us, hl with | [_], _ => rfl) (fun vs H Q E h => ?_) fun A outer s H vs Q E cdv hr h => ?_
  · obtain ⟨x, dx, rfl, _⟩ := h
    rfl
  · obtain ⟨x, dx, rfl, hx, k⟩ := h
    refine ⟨_, (pss_cons (ps_fld (pv 0) (pe_lst pa_nil) rfl)
 (pss_one (ps_fld (pv 0) (pe_lst pa_nil) rfl))), ?_⟩
    try dsimp only [cxOf]
    walk_at "go"
    refine ⟨by decide, fun D hD => ?_⟩
    have g1 := Gr.new (o := .lst []) hD
    have hx1 := g1.e _ _ hx
    have hD1 : (upd H D (.lst [])) D = some (.lst []) := upd_same
    generalize upd H D (.lst []) = H1 at g1 hx1 hD1 ⊢
    walk_at "go"
    refine ⟨x, _, _, _, rfl, hx1, T.cl_Yard, T.no_Yard_done, by decide, ?_⟩
    have k2 : Kx [x] H (upd H1 x (.ins (CY K) dx [("done", .ref D)])) := (Gr.kx g1).put List.mem_cons_self (by rw [hx1]; exact fun z => by cases z)
    have hDx : D ≠ x := ne_of hD1 hx1 (by intro z; cases z)
    have hD2 : (upd H1 x (.ins (CY K) dx [("done", .ref D)])) D = some (.lst []) := by rw [upd_ne hDx]; exact hD1
    have hx2 : (upd H1 x (.ins (CY K) dx [("done", .ref D)])) x = some (.ins (CY K) dx [("done", .ref D)]) := upd_same
    have fin : ∀ W H3, H3 = upd (upd H1 x (.ins (CY K) dx [("done", .ref D)])) W (.lst []) → (upd H1 x (.ins (CY K) dx [("done", .ref D)])) W = none → Q .non (upd H3 x (.ins (CY K) dx (yF D W))) := fun W H3 e hW => by
      have g3 := Gr.new (o := .lst []) hW
      rw [← e] at g3
      have hx3 := g3.e _ _ hx2
      have hD3 := g3.e _ _ hD2
      have hW3 : H3 W = some (.lst []) := by rw [e]; exact upd_same
      have hDW : D ≠ W := ne_of_none hD2 hW
      have hWx : W ≠ x := ne_of hW3 hx3 (by intro z; cases z)
      refine k D _ ⟨dx, W, [], [], upd_same, by rw [upd_ne hDx]; exact hD3, by rw [upd_ne hWx]; exact hW3, trivial, trivial, hDW⟩ ((k2.trans (Gr.kx g3)).put List.mem_cons_self (by rw [hx3]; exact fun z => by cases z)) hD
    have ep : putF "done" (.ref D) [] = [(("done" : Str), V.ref D)] := rfl
    rw [ep]
    walk_at "go"
    refine ⟨by decide, fun W hW => ?_⟩
    have fin := fin W _ rfl hW
    have hx3 := (Gr.new (o := .lst []) hW).e _ _ hx2
    walk_at "go"
    refine ⟨x, _, _, _, rfl, hx3, T.cl_Yard, T.no_Yard_waiting, (show 1 < 1000 by decide), ?_⟩
    have ep : putF "waiting" (.ref W) [(("done" : Str), V.ref D)] = yF D W := rfl
    rw [ep]
    exact fin
def spFAt0 (K : PySem.W.Frag) : Sp := fun vs H Q _ => ∃ y D sts wts, vs = [.ref y] ∧ YAt K H y D sts wts ∧ sts.length < 10000000 ∧ ∀ f H1, Gr H H1 → FAt K H1 f (lastR sts) → Q (.ref f) H1
theorem rows0 : RowsOk [] := ⟨fun _ h => (List.not_mem_nil h).elim, List.nodup_nil, fun _ h => (List.not_mem_nil h).elim, by decide⟩
theorem ok_fat0 (T : Tx K mg) : FnR PP w K mg base (L2.CX PP w) 5 (a_Yard_fence_at K) (spFAt0 K) := by
  have F_is_integer := ok_isint (P := PP) (w := w) (base := base) T
  have F_Fence_init := ok_finit (w := w) (base := base) T
  refine fnR_kw1 (ps := ["self", "version"]) T.f_Yard_fence_at sc_Yard_fence_at rfl (fun D doc pm an cdv ct us ks hu hk => match us, ks, hu, hk with | [_], [_], _, _ => ⟨_, _, _, _, _, _, rfl, rfl, rfl⟩) (fun vs H Q E h => ?_) fun A outer s H vs Q E cdv hr h => ?_
  · obtain ⟨y, D, sts, wts, rfl, _⟩ := h
    rfl
  · obtain ⟨y, D, sts, wts, rfl, ⟨dx, W, vs, ws, a1, a2, a3, a4, a5, a6⟩, hl, k⟩ := h
    refine ⟨_, (pss_cons (ps_if (pt_cmpR op_isN (pv 1) pe_non (nomark _))
 (pss_one (ps_set (i := 1) sc_Yard_fence_at.nd rfl (by first | exact Or.inl rfl | exact Or.inr rfl) (pe_callB (call_lenUK (K := K) rfl) rfl T.n_len (by decide +kernel) (pa_cons (pe_fld (pv 0) rfl) pa_nil))))
 pss_nil)
 (pss_cons (ps_if (PW.pt (pw_or (pt_not (pt_val (pe_callR F_is_integer (hr.mono (by first | decide | omega)) T.k_is_integer rfl T.g_is_integer passL (pa_cons (pv 1) pa_nil)))) (pw_or1 (pt_not (pt_chain op_le op_le pe_int (pv 1) (pe_callB (call_lenUK (K := K) rfl) rfl T.n_len (by decide +kernel) (pa_cons (pe_fld (pv 0) rfl) pa_nil)))))))
 (pss_one ps_never)
 pss_nil)
 (pss_one (ps_ret (pe_ifExp (pt_cmpR (op_eqUK (K := K) rfl hr.units) (pv 1) pe_int (nomark _)) (pe_makeR0 T.m_Fence F_Fence_init (hr.mono (by first | decide | omega)) rfl T.g_Fence passZ0) (pe_ix (ix_seqK (K := K) rfl) (pe_ix (ix_seqK (K := K) rfl) (pe_fld (pv 0) rfl) (pe_op op_sub (pv 1) pe_int) (fun _ _ => rfl)) pe_int (fun _ _ => rfl))))))), ?_⟩
    try dsimp only [cxOf]
    walk_at "go"
    refine ⟨rfl, _, rfl, ?_⟩
    rw [decide_eq_true (show V.non = V.non from rfl)]
    walk_at "go"
    refine r_fldV a1 T.cl_Yard T.no_Yard_done rfl ?_
    walk_at "go"
    refine ⟨_, true, false, rfl, kit_int.1, fun _ => kit_int.2, ⟨_, rfl, ?_⟩⟩
    have hn : ((vs.length : Nat) : Int) = (sts.length : Int) := by rw [a4.len]
    refine r_iteF ?_
    walk_at "go"
    refine r_iteD (fun h0 => ?_) fun h0 => absurd (by omega) h0
    walk_at "go"
    refine r_fldV a1 T.cl_Yard T.no_Yard_done rfl ?_
    walk_at "go"
    refine r_iteN (fun h1 => absurd (Int.le_refl _) h1) fun _ => ?_
    walk_at "go"
    refine r_iteD (fun h2 => ?_) fun h2 => ?_
    · walk_at "go"
      intro x dx' hx hdx hne
      have e : sts = [] := List.length_eq_zero_iff.mp (by omega)
      subst e
      have fm := FMade.of (K := K) (E := E0) (H := H) (Q := Q) (rs := []) rows0 (fun f H1 g h1 => k f H1 g h1)
      exact fence_made (ps := []) (rs := []) trivial (by decide) hx hdx hne (fun hok H3 g3 h3 => k x H3 g3 h3) fm.2.1 fm.2.2
    · walk_at "go"
      refine r_fldV a1 T.cl_Yard T.no_Yard_done rfl ?_
      walk_at "go"
      obtain ⟨v, hv⟩ : ∃ v, vs[vs.length - 1]? = some v := ⟨vs[vs.length - 1], by rw [List.getElem?_eq_getElem]⟩
      obtain ⟨st, e1, p, t, f, rfl, hp, ht, hf⟩ := a4.at hv
      have ei : (vs.length : Int) - 1 = ((vs.length - 1 : Nat) : Int) := by omega
      rw [ei]
      refine r_ixL (SqL.of a2) (atI_nat hv) ?_
      walk_at "go"
      refine r_ixT (SqT.of hp) (atI_nat (j := 1) rfl) ?_
      refine k f H (Gr.refl _) ?_
      have el : lastR sts = st.2 := by
        unfold lastR
        rw [List.getLast?_eq_getElem?, ← a4.len, e1]
      rw [el]
      exact hf
theorem ok_allow (T : Tx K mg) : FnR P w K mg base (L2.CX P w) 1 (a_Yard_allow K) (fun vs H Q _ => ∃ y f, vs = [.ref y, .ref f] ∧ Q .non H) := by
  refine fnR_of T.f_Yard_allow sc_Yard_allow (fun _ _ _ _ _ _ us hl => match us, hl with | [_, _], _ => rfl) (fun vs H Q E h => ?_) fun A outer s H vs Q E cdv hr h => ?_
  · obtain ⟨y, f, rfl, _⟩ := h
    rfl
  · obtain ⟨y, f, rfl, k⟩ := h
    refine ⟨_, (pss_one ps_pass), ?_⟩
    exact k
def spYSteps (K : PySem.W.Frag) : Sp := fun vs H Q _ => ∃ y D sts wts, vs = [.ref y] ∧ YAt K H y D sts wts ∧ sts.length < 10000000 ∧ ∀ p ts H1, Gr H H1 → H1 p = some (.tup ts) → TsAt H1 (fun s : Stp => s.1) ts sts → Q (.ref p) H1
theorem ok_ysteps (T : Tx K mg) : FnR P w K mg base (L2.CX P w) 1 (a_Yard_steps K) (spYSteps K) := by
  refine fnR_of T.f_Yard_steps sc_Yard_steps (fun _ _ _ _ _ _ us hl => match us, hl with | [_], _ => rfl) (fun vs H Q E h => ?_) fun A outer s H vs Q E cdv hr h => ?_
  · obtain ⟨y, D, sts, wts, rfl, _⟩ := h
    rfl
  · obtain ⟨y, D, sts, wts, rfl, ⟨dx, W, vs, ws, a1, a2, a3, a4, a5, a6⟩, hl, k⟩ := h
    refine ⟨_, (pss_one (ps_ret (pe_callTy (call_tupleU (K := K) rfl rfl) rfl T.n_tuple (by decide +kernel) (pa_cons (pe_lc (own := [("actions", 1), ("fence", 2)]) rfl sc_Yard_steps.nd (pi_anyK (K := K) rfl (pe_fld (pv 0) rfl)) (blkOk_by (own := [("actions", 1), ("fence", 2)]) (N := N_Yard_steps) (sc := defScope s_Yard_steps) (by decide +kernel)) (fun _ _ _ _ _ => (pg_tupK (K := K) (n := 2) rfl rfl (pgs_cons (pg_name (i := 1) sc_Yard_steps.nd rfl (by first | exact Or.inl rfl | exact Or.inr rfl)) (pgs_cons (pg_name (i := 2) sc_Yard_steps.nd rfl (by first | exact Or.inl rfl | exact Or.inr rfl)) pgs_nil)))) (fun _ _ _ _ _ => pts_nil) (fun _ _ _ _ _ => (pv 1))) pa_nil)))), ?_⟩
    try dsimp only [cxOf]
    walk_at "go"
    refine r_iL ?_
    walk_at "go"
    refine r_fldV a1 T.cl_Yard T.no_Yard_done rfl ?_
    refine ⟨_, rfl, ⟨_, SqL.of a2⟩, fun L hL => ?_⟩
    have hln := a4.len
    refine lc_list (xs := vs) (fun i H' => Gr H H' ∧ ∃ ts, H' L = some (.lst ts) ∧ ts.length = i ∧ TsAt H (fun s : Stp => s.1) ts (sts.take i)) ⟨Gr.new hL, [], upd_same, rfl, by rw [List.take_zero]; trivial⟩ (fun i H' hi ⟨g, _⟩ => SqL.of (g.e _ _ a2)) (fun i v H' hv ⟨g, ts, hd, htl, hts⟩ => ?_) fun H' ⟨g, ts, hd, htl, hts⟩ => ?_
    · obtain ⟨st, e1, p, t, f, rfl, hp, ht, hf⟩ := a4.at hv
      have hil : i < vs.length := (List.getElem?_eq_some_iff.mp hv).1
      refine r_gtup (g.e _ _ hp) rfl ?_
      walk_at "go"
      refine ⟨rfl, ?_⟩
      walk_at "go"
      refine ⟨ts, hd, by show _ < 16777216; omega, g.mut hL, ts ++ [.ref t], upd_same, by rw [List.length_append, List.length_singleton, htl], ?_⟩
      rw [List.take_add_one, e1]
      exact hts.snoc ht
    · have hts : TsAt H (fun s : Stp => s.1) ts sts := by
        rw [List.take_of_length_le (by omega)] at hts
        exact hts
      walk_at "go"
      refine .inr ⟨L, ts, rfl, .inl ⟨SqL.of hd, fun p hp => ?_⟩⟩
      have g2 := g.then (o := .tup ts) hp
      exact k p ts _ g2 upd_same (hts.fo (Fo.gr g2))
def spYLen (K : PySem.W.Frag) : Sp := fun vs H Q _ => ∃ y D sts wts, vs = [.ref y] ∧ YAt K H y D sts wts ∧ sts.length < 10000000 ∧ ∀ H1, Gr H H1 → Q (.int (lastR sts).length) H1
theorem ok_ylen (T : Tx K mg) : FnR PP w K mg base (L2.CX PP w) 6 (He.ma K (CY K) "__len__") (spYLen K) := by
  have F_Yard_fence_at := ok_fat0 (w := w) (base := base) T
  have F_Fence_len := ok_flen (P := PP) (w := w) (base := base) T
  refine fnR_of T.f_Yard_len sc_Yard_len (fun _ _ _ _ _ _ us hl => match us, hl with | [_], _ => rfl) (fun vs H Q E h => ?_) fun A outer s H vs Q E cdv hr h => ?_
  · obtain ⟨y, D, sts, wts, rfl, _⟩ := h
    rfl
  · obtain ⟨y, D, sts, wts, rfl, hy, hl, k⟩ := h
    refine ⟨_, (pss_one (ps_ret (pe_callB (call_lenOwn F_Fence_len T.ow_Fence_len (hr.mono (by first | decide | omega)) passL) rfl T.n_len (by decide +kernel) (pa_cons (pe_methR0 (pv 0) T.cl_Yard T.me_Yard_fence_at F_Yard_fence_at (hr.mono (by first | decide | omega)) passL) pa_nil)))), ?_⟩
    try dsimp only [cxOf]
    walk_at "go"
    obtain ⟨dx, W, vs, ws, a1, _⟩ := id hy
    refine ⟨y, dx, _, rfl, a1, rfl, ?_⟩
    refine ⟨y, D, sts, wts, rfl, hy, hl, fun f H1 g hf => ?_⟩
    walk_at "go"
    obtain ⟨dx', t, d, ps, h1, h2, h3, h4, h5⟩ := id hf
    exact ⟨f, dx', _, rfl, h1, f, _, rfl, hf, _, rfl, by have := h5.2.2.2; omega, k _ g⟩
end
end Tx

set_option maxRecDepth 100000
set_option maxHeartbeats 4000000
namespace Tx
open PySem PySem.Spec PyProof.Rows L2 My LamX
section
variable {P : Program} {w : World} {K : PySem.W.Frag} {mg : Str → Option Value} {base : Heap}
theorem knV_of {B H : Hp} {tv : V → Str} {a : Act} (h : ∀ v ∈ a.vs, It B H tv v) : a.KnV K H := by
  cases a with
  | come v1 v2 v3 v4 => exact ⟨(h v1 m1).kn, (h v2 m2).kn, (h v3 m3).kn, (h v4 m4).kn⟩
  | leave v => obtain ⟨h1, d, h2, _⟩ := id (h v m1); exact ⟨(h v m1).kn, B, d, h2⟩
  | move v v2 v3 => exact ⟨(h v m1).kn, (h v2 m2).kn, (h v3 m3).kn⟩
  | swap v1 v2 => exact ⟨(h v1 m1).kn, (h v2 m2).kn⟩
theorem stepsA_cons {rs : List Rw} {a : Act} {l : List Act} : stepsA rs (a :: l) = match stepA rs a with
    | .ok q => stepsA q l
    | .bad c v => .bad c v := rfl
theorem ResP.mono {E : XK} {H : Hp} {Q Q' : VK} (h : ∀ v H1, Q v H1 → Q' v H1) : ∀ {r : Res}, ResP K E H Q r → ResP K E H Q' r
  | .ok _, k => fun f H1 g hf => h _ _ (k f H1 g hf)
  | .bad _ _, k => k
def spFAft (K : PySem.W.Frag) : Sp := fun vs H Q E => ∃ B tv y D t sts wts avs ts, vs = [.ref y, .ref t] ∧ YAt K H y D sts wts ∧ sts.length < 10000000 ∧ H t = some (.tup ts) ∧ AvsAt B H tv ts avs ∧ ResP K E H Q (stepsW (lastR sts) avs)
theorem ok_faft (T : Tx K mg) (D0 : DPA K w) : FnR PP w K mg base (CXn PP w) 8 (a_Yard_fence_after K) (spFAft K) := by
  have F_need_action := ok_needA (w := w) (base := base) T D0
  have F_Yard_fence_at := ok_fat0 (w := w) (base := base) T
  have F_after := ok_after (w := w) (base := base) T
  have F_Yard_allow := ok_allow (P := PP) (w := w) (base := base) T
  refine fnR_of T.f_Yard_fence_after sc_Yard_fence_after (fun _ _ _ _ _ _ us hl => match us, hl with | [_, _], _ => rfl) (fun vs H Q E h => ?_) fun A outer s H vs Q E cdv hr h => ?_
  · obtain ⟨B, tv, y, D, t, sts, wts, avs, ts, rfl, _⟩ := h
    rfl
  · obtain ⟨B, tv, y, D, t, sts, wts, avs, ts, rfl, hy, hl, ht, has, k⟩ := h
    have hln := R2At.len has
    refine ⟨_, (pss_cons (ps_for (passes_of rfl) rfl (pi_anyK (K := K) rfl (pv 1)) (pg_name (i := 2) sc_Yard_fence_after.nd rfl (by first | exact Or.inl rfl | exact Or.inr rfl))
 (pss_one (ps_expr (pe_callR F_need_action (hr.mono (by first | decide | omega)) T.k_need_action rfl T.g_need_action (passZ (Oc.takes_of Oc.zn_ok rfl rfl rfl rfl)) (pa_cons (pv 2) pa_nil)))))
 (pss_cons (ps_set (i := 3) sc_Yard_fence_after.nd rfl (by first | exact Or.inl rfl | exact Or.inr rfl) (pe_methR0 (pv 0) T.cl_Yard T.me_Yard_fence_at F_Yard_fence_at (hr.mono (by first | decide | omega)) passL))
 (pss_cons (ps_for (passes_of rfl) rfl (pi_anyK (K := K) rfl (pv 1)) (pg_name (i := 2) sc_Yard_fence_after.nd rfl (by first | exact Or.inl rfl | exact Or.inr rfl))
 (pss_one (ps_set (i := 3) sc_Yard_fence_after.nd rfl (by first | exact Or.inl rfl | exact Or.inr rfl) (pe_callR F_after (hr.mono (by first | decide | omega)) T.k_after rfl T.g_after (passZ (Oc.takes_of Oc.zn_ok rfl rfl rfl rfl)) (pa_cons (pv 3) (pa_cons (pv 2) pa_nil))))))
 (pss_cons (ps_expr (pe_methR (pv 0) T.cl_Yard T.me_Yard_allow F_Yard_allow (hr.mono (by first | decide | omega)) passL (pa_cons (pv 3) pa_nil)))
 (pss_one (ps_ret (pv 3))))))), ?_⟩
    try dsimp only [cxOf]
    walk_at "go"
    refine r_iT ?_
    walk_at "go"
    refine ⟨_, rfl, ⟨_, SqT.of ht⟩, ?_⟩
    refine for_tup (xs := ts) (fun i σ' H' => ∃ o2, σ' = [some (.ref y), some (.ref t), o2, none] ∧ Gr H H' ∧ ∀ j a, j < i → avs[j]? = some a → ∃ x, a = Av.act x) ⟨_, rfl, Gr.refl _, fun j a h => absurd h (Nat.not_lt_zero j)⟩ (fun i σ' H' hi ⟨_, _, g, _⟩ => SqT.of (g.e _ _ ht)) (fun i v σ' H' hv ⟨o2, e, g, hall⟩ => ?_) fun σ' H' ⟨o2, e, g, hall⟩ => ?_
    · subst e
      obtain ⟨av, ha, hav⟩ := R2At.at has hv
      obtain ⟨hai, hae⟩ := List.getElem?_eq_some_iff.mp ha
      walk_at "go"
      refine ⟨B, tv, v, av, rfl, hav.ke (Ke.gr g), ?_⟩
      cases av with
      | act x => exact fun H1 g1 => ⟨_, rfl, g.trans g1, fun j a hj e => by
          rcases Nat.lt_or_eq_of_le (Nat.le_of_lt_succ hj) with q | rfl
          · exact hall j a q e
          · rw [ha] at e
            exact ⟨x, (Option.some.inj e).symm⟩⟩
      | odd u =>
        have e1 : firstOdd avs = some u := by
          rw [← firstOdd_drop hall, List.drop_eq_getElem_cons hai, hae]
          rfl
        have e2 : stepsW (lastR sts) avs = .bad .action u := by
          unfold stepsW
          rw [e1]
        rw [e2] at k
        have k : Err E (xIA K) "value" u H := k
        exact Err.gr k g
    · subst e
      have e1 : firstOdd avs = none := by
        rw [← firstOdd_drop hall, List.drop_eq_nil_of_le (by omega)]
        rfl
      have e2 : stepsW (lastR sts) avs = stepsA (lastR sts) (actsOf avs) := by
        unfold stepsW
        rw [e1]
      rw [e2] at k
      have hlA := actsOf_len e1
      generalize hacts : actsOf avs = acts at k hlA
      have hy1 := hy.gr g
      have ht1 := g.e _ _ ht
      have has1 := AvsAt.ke (Ke.gr g) has
      have k := ResP.gr g k
      clear hy ht has
      obtain ⟨dx, W, vs, ws, a1, _⟩ := id hy1
      walk_at "go"
      refine ⟨y, dx, _, rfl, a1, rfl, ?_⟩
      refine ⟨y, D, sts, wts, rfl, hy1, hl, fun f H2 g2 hf => ?_⟩
      have ht2 := g2.e _ _ ht1
      have has2 := AvsAt.ke (Ke.gr g2) has1
      have k := ResP.gr g2 k
      walk_at "go"
      refine r_iT ?_
      walk_at "go"
      refine ⟨_, rfl, ⟨_, SqT.of ht2⟩, ?_⟩
      refine for_tup (xs := ts) (fun i σ' H' => ∃ o2 f rs, σ' = [some (.ref y), some (.ref t), o2, some (.ref f)] ∧ Gr H2 H' ∧ FAt K H' f rs ∧ stepsA rs (acts.drop i) = stepsA (lastR sts) acts) ⟨_, f, _, rfl, Gr.refl _, hf, rfl⟩ (fun i σ' H' hi ⟨_, _, _, _, g, _⟩ => SqT.of (g.e _ _ ht2)) (fun i v σ' H' hv ⟨o2, f, rs, e, g, hf, hst⟩ => ?_) fun σ' H' ⟨o2, f, rs, e, g, hf, hst⟩ => ?_
      · subst e
        obtain ⟨av, hav0, hav⟩ := R2At.at has2 hv
        obtain ⟨a, rfl, ha⟩ := firstOdd_none e1 hav0
        rw [hacts] at ha
        obtain ⟨u, rfl, hu, hits⟩ := hav
        obtain ⟨hai, hae⟩ := List.getElem?_eq_some_iff.mp ha
        rw [List.drop_eq_getElem_cons hai, hae, stepsA_cons] at hst
        walk_at "go"
        refine ⟨f, u, rs, a, rfl, hf, g.e _ _ hu, knV_of (fun x hx => (hits x hx).ke (Ke.gr g)), ?_⟩
        cases e : stepA rs a with
        | ok q =>
          rw [e] at hst
          exact fun f' H3 g3 hf3 => by
            walk_at "go"
            exact ⟨_, f', q, rfl, g.trans g3, hf3, hst⟩
        | bad c v =>
          rw [e] at hst
          rw [← hst] at k
          exact Err.gr k g
      · subst e
        rw [List.drop_eq_nil_of_le (by omega)] at hst
        rw [← hst] at k
        have k : ∀ f H1, Gr H2 H1 → FAt K H1 f rs → Q (.ref f) H1 := k
        walk_at "go"
        refine ⟨y, dx, _, rfl, g.e _ _ (g2.e _ _ a1), rfl, ?_⟩
        walk_at "go"
        refine ⟨y, f, rfl, ?_⟩
        walk_at "go"
        exact k f _ g hf
/-- what a step does -/
def ActP (K : PySem.W.Frag) (E : XK) (H : Hp) (Q : Hp → Prop) (y D : Addr) (sts wts : List Stp) (ts : List V) : Res → Prop
  | .ok rs => ∀ H1, Kx [y, D] H H1 → YAt K H1 y D (sts ++ [(ts, rs)]) [] → Q H1
  | .bad c v => Err E (c.cls K) c.fld v H
def spAct (K : PySem.W.Frag) : Sp := fun vs H Q E => ∃ B tv y D t sts wts avs ts, vs = [.ref y, .ref t] ∧ YAt K H y D sts wts ∧ sts.length < 10000000 ∧ H t = some (.tup ts) ∧ AvsAt B H tv ts avs ∧ ActP K E H (Q .non) y D sts wts ts (stepsW (lastR sts) avs)
theorem ok_act (T : Tx K mg) (D0 : DPA K w) : FnR PP w K mg base (CXn PP w) 9 (a_Yard_act K) (fun vs H Q E => ∃ ws rest, vs = ws ++ rest ∧ ws.length = 1 ∧ rest.length ≤ sizeLine ∧ ∀ p, H p = none → spAct K (ws ++ [V.ref p]) (upd H p (.tup rest)) Q E) := by
  have F_Yard_fence_after := ok_faft (w := w) (base := base) T D0
  refine fnX_star (ps := ["self"]) cxUpZ T.f_Yard_act sc_Yard_act (fun kV doc pm an cdv ct us rest hl => match us, rest, hl with | [_], [], _ => rfl | [_], _ :: _, _ => rfl) fun A outer s H vs Q E cdv hr h => ?_
  obtain ⟨B, tv, y, D, t, sts, wts, avs, ts, rfl, hy, hl, ht, has, k⟩ := h
  refine ⟨_, (pss_cons (ps_set (i := 2) sc_Yard_act.nd rfl (by first | exact Or.inl rfl | exact Or.inr rfl) (pe_methR (pv 0) T.cl_Yard T.me_Yard_fence_after F_Yard_fence_after (hr.mono (by first | decide | omega)) (passZ (Oc.takes_of Oc.zn_ok rfl rfl rfl rfl)) (pa_cons (pv 1) pa_nil)))
 (pss_cons (ps_expr (pe_bm PySem.F.plainAttrs_list PySem.F.slot_list_append PySem.F.type_list_append mt_append (pe_fld (pv 0) rfl) (pa_cons (pe_tup (pa_cons (pv 1) (pa_cons (pv 2) pa_nil))) pa_nil)))
 (pss_one (ps_fld (pv 0) (pe_lst pa_nil) rfl)))), ?_⟩
  try dsimp only [cxOf]
  walk_at "go"
  obtain ⟨dx, W, vs, ws, a1, a2, a3, a4, a5, a6⟩ := id hy
  refine ⟨y, dx, _, rfl, a1, rfl, ?_⟩
  walk_at "go"
  refine ⟨B, tv, y, D, t, sts, wts, avs, ts, rfl, hy, hl, ht, has, ?_⟩
  cases e : stepsW (lastR sts) avs with
  | bad c v =>
    rw [e] at k
    exact k
  | ok rs =>
    rw [e] at k
    have k : ∀ H1, Kx [y, D] H H1 → YAt K H1 y D (sts ++ [(ts, rs)]) [] → Q .non H1 := k
    intro f H1 g hf
    have hln := a4.len
    have b1 := g.e _ _ a1
    have b2 := g.e _ _ a2
    walk_at "go"
    refine r_fldV b1 T.cl_Yard T.no_Yard_done rfl ?_
    walk_at "go"
    refine ⟨ty_list b2, ?_⟩
    walk_at "go"
    refine ⟨by show 2 ≤ 16777216; decide, fun p hp => ?_⟩
    have g2 := g.then (o := .tup [.ref t, .ref f]) hp
    have c1 := (Gr.new (o := .tup [.ref t, .ref f]) hp).e _ _ b1
    have c2 := (Gr.new (o := .tup [.ref t, .ref f]) hp).e _ _ b2
    have cf := hf.ext (Gr.new (o := .tup [.ref t, .ref f]) hp).e
    have cp : (upd H1 p (.tup [.ref t, .ref f])) p = some (.tup [.ref t, .ref f]) := upd_same
    generalize upd H1 p (.tup [.ref t, .ref f]) = H2 at g2 c1 c2 cf cp ⊢
    walk_at "go"
    refine r_append c2 (by show _ < 16777216; omega) ?_
    have kx3 : Kx [y, D] H (upd H2 D (.lst (vs ++ [.ref p]))) := (Gr.kx g2).put (by simp) (by rw [c2]; exact fun z => by cases z)
    have hDy : D ≠ y := ne_of c2 c1 (by intro z; cases z)
    have d1 : (upd H2 D (.lst (vs ++ [.ref p]))) y = some (.ins (CY K) dx (yF D W)) := by rw [upd_ne (Ne.symm hDy)]; exact c1
    have d2 : (upd H2 D (.lst (vs ++ [.ref p]))) D = some (.lst (vs ++ [.ref p])) := upd_same
    have kk : Kx [y, D] H2 (upd H2 D (.lst (vs ++ [.ref p]))) := (Kx.refl H2).put (by simp) (by rw [c2]; exact fun z => by cases z)
    have fo3 := Fo.kx c1 c2 kk
    have a4' := (a4.fo (Fo.gr g2)).fo fo3
    have cf' := fo3.fat cf
    have cp' := fo3.tup cp
    have ht' := fo3.tup (g2.e _ _ ht)
    generalize upd H2 D (.lst (vs ++ [.ref p])) = H3 at kx3 d1 d2 a4' cf' cp' ht' ⊢
    walk_at "go"
    refine ⟨by decide, fun W' hW => ?_⟩
    have g4 := Gr.new (o := .lst []) hW
    have e1 := g4.e _ _ d1
    have e2 := g4.e _ _ d2
    have e3 : (upd H3 W' (.lst [])) W' = some (.lst []) := upd_same
    have hDW : D ≠ W' := ne_of_none d2 hW
    generalize upd H3 W' (.lst []) = H4 at g4 e1 e2 e3 ⊢
    have hWy : W' ≠ y := ne_of e3 e1 (by intro z; cases z)
    walk_at "go"
    refine ⟨y, _, _, _, rfl, e1, T.cl_Yard, T.no_Yard_waiting, (show 2 < 1000 by decide), ?_⟩
    have ep : putF "waiting" (.ref W') (yF D W) = yF D W' := rfl
    rw [ep]
    have kx5 : Kx [y, D] H (upd H4 y (.ins (CY K) dx (yF D W'))) := (kx3.trans (Gr.kx g4)).put (by simp) (by rw [e1]; exact fun z => by cases z)
    have kk5 : Kx [y, D] H4 (upd H4 y (.ins (CY K) dx (yF D W'))) := (Kx.refl H4).put (by simp) (by rw [e1]; exact fun z => by cases z)
    have fo5 := Fo.kx e1 e2 kk5
    have st : StAt K (upd H4 y (.ins (CY K) dx (yF D W'))) (.ref p) (ts, rs) := ⟨p, t, f, rfl, fo5.tup (g4.e _ _ cp'), fo5.tup (g4.e _ _ ht'), fo5.fat (cf'.ext g4.e)⟩
    exact k _ kx5 ⟨dx, W', _, [], upd_same, by rw [upd_ne hDy]; exact e2, by rw [upd_ne hWy]; exact e3, ((a4'.fo (Fo.gr g4)).fo fo5).snoc st, trivial, hDW⟩
end
end Tx

set_option maxRecDepth 100000
set_option maxHeartbeats 4000000
namespace Tx
open PySem PySem.Spec PyProof.Rows L2 My LamX
section
variable {P : Program} {w : World} {K : PySem.W.Frag} {mg : Str → Option Value} {base : Heap}
/-! ### _law_pen -/
def spPen (K : PySem.W.Frag) : Sp := fun vs H Q _ => ∃ p, ∃ ns : List Int, vs = [.ref p] ∧ SqL K H p (ns.map V.int) ∧ ∀ z H1, Gr H H1 → Pen H1 z 0 → Q (.ref z.a) H1
theorem ok_pen (T : Tx K mg) : FnR P w K mg base (L2.CX P w) 1 (a_Lpen K) (spPen K) := by
  refine fnR_of T.f_Lpen sc_Lpen (fun _ _ _ _ _ _ us hl => match us, hl with | [_], _ => rfl) (fun vs H Q E h => ?_) fun A outer s H vs Q E cdv hr h => ?_
  · obtain ⟨p, ns, rfl, _⟩ := h
    rfl
  · obtain ⟨p, ns, rfl, hl, k⟩ := h
    refine ⟨_, (pss_one (ps_ret (pe_disp (pps_cons pe_str (pe_callTy call_list_of rfl T.n_list (by decide +kernel) (pa_cons (pe_slice (sl_anyK (K := K) rfl) (pv 0) po_none (po_some pe_int)) pa_nil)) (pps_cons pe_str pe_int (pps_cons pe_str pe_int pps_nil))) (by rfl) (by rfl) (fun z => by cases z) (by decide)))), ?_⟩
    try dsimp only [cxOf]
    walk_at "go"
    refine r_disp fun q hq => ?_
    have g1 := Gr.new (o := .dK []) hq
    have hq1 : (upd H q (.dK [])) q = some (.dK []) := upd_same
    generalize upd H q (.dK []) = H1 at g1 hq1 ⊢
    walk_at "go"
    refine r_slL (hl.ext g1.e) fun u hu => ?_
    have hcut : ∃ ns' : List Int, cutV (ns.map V.int) none (some 63) = ns'.map V.int := ⟨(ns.drop 0).take (HT.sIx (ns.map V.int).length (ns.map V.int).length (some 63) - 0), by
      unfold cutV
      rw [List.map_take, List.map_drop]
      rfl⟩
    obtain ⟨ns', hcut⟩ := hcut
    rw [hcut]
    have g2 := g1.then (o := .lst (ns'.map V.int)) hu
    have hq2 := (Gr.new (o := .lst (ns'.map V.int)) hu).e _ _ hq1
    walk_at "go"
    refine ⟨u, _, rfl, .inl (SqL.of upd_same), fun c hc => ?_⟩
    have g3 := g2.then (o := .lst (ns'.map V.int)) hc
    have hq3 := (Gr.new (o := .lst (ns'.map V.int)) hc).e _ _ hq2
    have hc3 : (upd (upd H1 u (.lst (ns'.map V.int))) c (.lst (ns'.map V.int))) c = some (.lst (ns'.map V.int)) := upd_same
    generalize upd (upd H1 u (.lst (ns'.map V.int))) c (.lst (ns'.map V.int)) = H3 at g3 hq3 hc3 ⊢
    walk_at "go"
    refine ⟨hq3, penKV c 0 0, rfl, (show 3 ≤ 15 by decide), ?_⟩
    have hcq : c ≠ q := ne_of hc3 hq3 (by intro z; cases z)
    exact k ⟨q, c, ns'⟩ _ (g3.mut hq) ⟨0, 0, ⟨upd_same, by rw [upd_ne hcq]; exact hc3⟩, by decide, by decide, by decide⟩
/-! ### _law_is_name -/
theorem filt_snoc {l : List Nat} {i c : Nat} {f : Nat → Bool} (h : l[i]? = some c) : ((l.take (i + 1)).filter f).map (fun c => V.str ⟨#[c]⟩) = if f c = true then ((l.take i).filter f).map (fun c => V.str ⟨#[c]⟩) ++ [V.str ⟨#[c]⟩] else ((l.take i).filter f).map (fun c => V.str ⟨#[c]⟩) := by
  rw [List.take_add_one, h, List.filter_append, List.map_append]
  show _ ++ List.map _ (List.filter f [c]) = _
  by_cases e : f c = true
  · rw [if_pos e, List.filter_cons_of_pos e]
    rfl
  · rw [if_neg e, List.filter_cons_of_neg e]
    simp
theorem filt_le {l : List Nat} {i : Nat} {f : Nat → Bool} : (((l.take i).filter f).map (fun c => V.str ⟨#[c]⟩)).length ≤ i := by
  rw [List.length_map]
  have h1 := List.length_filter_le f (l.take i)
  rw [List.length_take] at h1
  omega
theorem filt_emp {l : List Nat} {z : List Nat} : ((l.filter fun c => !decide (c ∈ z)).map (fun c => V.str ⟨#[c]⟩)).isEmpty = l.all fun c => decide (c ∈ z) := by
  induction l with
  | nil => rfl
  | cons c r ih =>
    rw [List.all_cons]
    by_cases e : c ∈ z
    · rw [List.filter_cons_of_neg (by simp [e]), ih, decide_eq_true e, Bool.true_and]
    · rw [List.filter_cons_of_pos (by simp [e]), decide_eq_false e]
      rfl
/-- the signs of a text that lie not in another one -/
theorem bad_turn {s Z : Str} {H H' : Hp} {D : Addr} {i c j : Nat} {σ : L2.St} (P : Hp → Prop) (hj : σ[j]? = some (some (.str ⟨#[c]⟩))) (hs : s.length ≤ sizeLine) (hc : s.cps.toList[i]? = some c) (g : Gr H H') (hD : H D = none) (hl : H' D = some (.lst (((cl s).take i |>.filter fun c => !decide (c ∈ Z.cps.toList)).map fun c => V.str ⟨#[c]⟩)))
    (k : ∀ H2, Gr H H2 → H2 D = some (.lst (((cl s).take (i + 1) |>.filter fun c => !decide (c ∈ Z.cps.toList)).map fun c => V.str ⟨#[c]⟩)) → P H2) :
    if (!decide (c ∈ Z.cps.toList)) = true then tVar j σ H' (fun y H4 => ∃ acc, H4 D = some (.lst acc) ∧ acc.length < sizeLine ∧ P (upd H4 D (.lst (acc ++ [y])))) else P H' := by
  have e := filt_snoc (f := fun c => !decide (c ∈ Z.cps.toList)) (show (cl s)[i]? = some c from hc)
  have hi : i < s.length := by
    have := (List.getElem?_eq_some_iff.mp hc).1
    have e9 : s.cps.toList.length = s.length := cl_len s
    omega
  by_cases h : (!decide (c ∈ Z.cps.toList)) = true
  · rw [if_pos h] at e ⊢
    refine ⟨_, hj, _, hl, Nat.lt_of_le_of_lt filt_le (Nat.lt_of_lt_of_le hi hs), k _ (g.mut hD) ?_⟩
    rw [upd_same, e]
  · rw [if_neg h] at e ⊢
    refine k _ g ?_
    rw [hl, e]
def spLName (K : PySem.W.Frag) : Sp := fun vs H Q _ => ∃ v, vs = [v] ∧ Kn K H v ∧ ∀ H', Gr H H' → Q (.bl (nmV v)) H'
theorem ok_lname (T : Tx K mg) : FnR P w K mg base (L2.CX P w) 1 (a_Lis_name K) (spLName K) := by
  refine fnR_of T.f_Lis_name sc_Lis_name (fun _ _ _ _ _ _ us hl => match us, hl with | [_], _ => rfl) (fun vs H Q E h => ?_) fun A outer s H vs Q E cdv hr h => ?_
  · obtain ⟨v, rfl, _⟩ := h
    rfl
  · obtain ⟨v, rfl, hv, k⟩ := h
    refine ⟨_, (pss_cons (ps_if (PW.pt (pw_or (pt_not (pt_val (pe_callB call_isi rfl T.n_isinstance (by decide +kernel) (pa_cons (pv 0) (pa_cons (pe_bltn (v := .ty "str") rfl T.n_str (by decide +kernel) rfl) pa_nil))))) (pw_or1 (pt_not (pt_chain op_le op_le pe_int (pe_callB (call_lenUK (K := K) rfl) rfl T.n_len (by decide +kernel) (pa_cons (pv 0) pa_nil)) pe_int)))))
 (pss_one (ps_ret pe_bl))
 pss_nil)
 (pss_one (ps_ret (pe_cmpR (op_eq0 (K := K) rfl hr.units0) (pe_lc (own := [("_law_sign", 1)]) rfl sc_Lis_name.nd (pi_anyK (K := K) rfl (pv 0)) (blkOk_by (own := [("_law_sign", 1)]) (N := N_Lis_name) (sc := defScope s_Lis_name) (by decide +kernel)) (fun _ _ _ _ _ => (pg_name (i := 1) sc_Lis_name.nd rfl (by first | exact Or.inl rfl | exact Or.inr rfl))) (fun _ _ _ _ _ => (pts_one (pt_cmpR op_nsgn (pv 1) pe_str (by rfl)))) (fun _ _ _ _ _ => (pv 1))) (pe_lst pa_nil) (nomark _))))), ?_⟩
    try dsimp only [cxOf]
    walk_at "go"
    refine r_isi hv.kitS ⟨_, rfl, ?_⟩
    by_cases hs : isS v = true
    · rw [hs]
      obtain ⟨s, rfl⟩ : ∃ s, v = .str s := by
        cases v <;> try (cases hs)
        exact ⟨_, rfl⟩
      have hl : s.length ≤ sizeLine := hv
      have k : ∀ H', Gr H H' → Q (.bl (nmB s)) H' := k
      refine r_iteF ?_
      walk_at "go"
      refine r_lenS hl ?_
      walk_at "go"
      refine r_iteD (fun h1 => ?_) fun h1 => ?_
      · walk_at "go"
        refine r_iteN (fun h2 => ?_) fun h2 => ?_
        · walk_at "go"
          have e : nmB s = false := by
            unfold nmB
            rw [decide_eq_false (show ¬ s.length ≤ 8 by omega)]
            simp
          rw [e] at k
          exact k _ (Gr.refl _)
        · walk_at "go"
          refine r_iS ?_
          walk_at "go"
          refine ⟨_, rfl, fun D hD => ?_⟩
          refine lc_txt (fun i H' => Gr H H' ∧ H' D = some (.lst (((cl s).take i |>.filter fun c => !decide (c ∈ lettersS.cps.toList)).map fun c => V.str ⟨#[c]⟩))) ⟨Gr.new hD, upd_same⟩ (fun i c H' hc ⟨g, hd⟩ => ?_) fun H' ⟨g, hd⟩ => ?_
          · walk_at "go"
            refine ⟨rfl, ?_⟩
            walk_at "go"
            exact bad_turn (Z := lettersS) (fun H2 => Gr H H2 ∧ H2 D = some (.lst (((cl s).take (i + 1) |>.filter fun c => !decide (c ∈ lettersS.cps.toList)).map fun c => V.str ⟨#[c]⟩))) rfl hl hc g hD hd fun H2 g2 h2 => ⟨g2, h2⟩
          · walk_at "go"
            rw [List.take_of_length_le (Nat.le_of_eq (cl_len s))] at hd
            refine ⟨by decide, fun q hq => ?_⟩
            walk_at "go"
            refine r_eq0 (SqL.of ((Gr.new hq).e _ _ hd)) (SqL.of upd_same) ?_
            rw [filt_emp]
            have e : nmB s = (cl s).all fun c => decide (c ∈ lettersS.cps.toList) := by
              unfold nmB
              rw [decide_eq_true (show 1 ≤ s.length by omega), decide_eq_true (show s.length ≤ 8 by omega)]
              rfl
            rw [← e]
            exact k _ (g.then hq)
      · walk_at "go"
        have e : nmB s = false := by
          unfold nmB
          rw [decide_eq_false (show ¬ 1 ≤ s.length by omega)]
          rfl
        rw [e] at k
        exact k _ (Gr.refl _)
    · have hs : isS v = false := by simpa using hs
      rw [hs]
      have e : nmV v = false := by
        cases v <;> first | rfl | (cases hs)
      rw [e] at k
      refine r_iteT ?_
      walk_at "go"
      exact k _ (Gr.refl _)
/-! ### _law_is_int, _law_reason -/
def spLInt (K : PySem.W.Frag) : Sp := fun vs H Q _ => ∃ v, vs = [v] ∧ Kn K H v ∧ Q (.bl (isI v)) H
theorem ok_llint (T : Tx K mg) : FnR P w K mg base (L2.CX P w) 1 (a_Lis_int K) (spLInt K) := by
  refine fnR_of T.f_Lis_int sc_Lis_int (fun _ _ _ _ _ _ us hl => match us, hl with | [_], _ => rfl) (fun vs H Q E h => ?_) fun A outer s H vs Q E cdv hr h => ?_
  · obtain ⟨v, rfl, _⟩ := h
    rfl
  · obtain ⟨v, rfl, hv, k⟩ := h
    obtain ⟨b1, b2, h1, h2, h3⟩ := hv.kitI
    rw [← h3] at k
    refine ⟨_, (pss_one (ps_ret (pe_and (pe_callB call_isi rfl T.n_isinstance (by decide +kernel) (pa_cons (pv 0) (pa_cons (pe_bltn (v := .ty "int") rfl T.n_int (by decide +kernel) rfl) pa_nil))) (pe_one (pe_not (pe_callB call_isi rfl T.n_isinstance (by decide +kernel) (pa_cons (pv 0) (pa_cons (pe_bltn (v := .ty "bool") rfl T.n_bool (by decide +kernel) rfl) pa_nil)))))))), ?_⟩
    try dsimp only [cxOf]
    walk_at "go"
    refine r_isi h1 ⟨_, rfl, ?_⟩
    cases b1 with
    | false => exact r_iteF k
    | true =>
      refine r_iteT ?_
      walk_at "go"
      refine r_isi (h2 rfl) ?_
      walk_at "go"
      exact k
def whyV (v1 v2 v3 v4 : V) : V := match why v1 v2 v3 v4 with
  | some y => .str y
  | none => .non
theorem abs_le' {i m : Int} : ((if i < 0 then -i else i) > m) ↔ ¬ (-m ≤ i ∧ i ≤ m) := by split <;> omega
def spLReason (K : PySem.W.Frag) : Sp := fun vs H Q _ => ∃ t v1 v2 v3 v4, vs = [.ref t] ∧ H t = some (.tup [v1, v2, v3, v4]) ∧ (Kn K H v1 ∧ Kn K H v2 ∧ Kn K H v3 ∧ Kn K H v4) ∧ ∀ H1, Gr H H1 → Q (whyV v1 v2 v3 v4) H1
theorem isI_int {v : V} (h : isI v = true) : ∃ i, v = .int i := by
  cases v <;> try (cases h)
  exact ⟨_, rfl⟩
theorem ok_reason (T : Tx K mg) : FnR P w K mg base (L2.CX P w) 2 (a_Lreason K) (spLReason K) := by
  have F_Lis_name := ok_lname (P := P) (w := w) (base := base) T
  have F_Lis_int := ok_llint (P := P) (w := w) (base := base) T
  refine fnR_of T.f_Lreason sc_Lreason (fun _ _ _ _ _ _ us hl => match us, hl with | [_], _ => rfl) (fun vs H Q E h => ?_) fun A outer s H vs Q E cdv hr h => ?_
  · obtain ⟨t, v1, v2, v3, v4, rfl, _⟩ := h
    rfl
  · obtain ⟨t, v1, v2, v3, v4, rfl, ht, ⟨n1, n2, n3, n4⟩, k⟩ := h
    refine ⟨_, (pss_cons (ps_if (pt_not (pt_val (pe_callR F_Lis_name (hr.mono (by first | decide | omega)) T.k_Lis_name rfl T.g__law_is_name passL (pa_cons (pe_ix (ix_seqK (K := K) rfl) (pv 0) pe_int (fun _ _ => rfl)) pa_nil))))
 (pss_one (ps_ret pe_str))
 pss_nil)
 (pss_cons (ps_if (PW.pt (pw_or (pt_not (pt_val (pe_callR F_Lis_int (hr.mono (by first | decide | omega)) T.k_Lis_int rfl T.g__law_is_int passL (pa_cons (pe_ix (ix_seqK (K := K) rfl) (pv 0) pe_int (fun _ _ => rfl)) pa_nil)))) (pw_or1 (pt_not (pt_chain op_le op_le pe_int (pe_ix (ix_seqK (K := K) rfl) (pv 0) pe_int (fun _ _ => rfl)) (pe_op op_pow pe_int pe_int))))))
 (pss_one (ps_ret pe_str))
 pss_nil)
 (pss_cons (ps_if (PW.pt (pw_or (pt_not (pt_val (pe_callR F_Lis_int (hr.mono (by first | decide | omega)) T.k_Lis_int rfl T.g__law_is_int passL (pa_cons (pe_ix (ix_seqK (K := K) rfl) (pv 0) pe_int (fun _ _ => rfl)) pa_nil)))) (pw_or1 (pt_cmpR op_gt (pe_callB call_abs rfl T.n_abs (by decide +kernel) (pa_cons (pe_ix (ix_seqK (K := K) rfl) (pv 0) pe_int (fun _ _ => rfl)) pa_nil)) (pe_op op_pow pe_int pe_int) (nomark _)))))
 (pss_one (ps_ret pe_str))
 pss_nil)
 (pss_cons (ps_if (PW.pt (pw_or (pt_not (pt_val (pe_callR F_Lis_int (hr.mono (by first | decide | omega)) T.k_Lis_int rfl T.g__law_is_int passL (pa_cons (pe_ix (ix_seqK (K := K) rfl) (pv 0) pe_int (fun _ _ => rfl)) pa_nil)))) (pw_or (pt_cmpR op_gt (pe_callB call_abs rfl T.n_abs (by decide +kernel) (pa_cons (pe_ix (ix_seqK (K := K) rfl) (pv 0) pe_int (fun _ _ => rfl)) pa_nil)) (pe_op op_pow pe_int pe_int) (nomark _)) (pw_or1 (pt_cmpR (op_eqUK (K := K) rfl hr.units) (pe_ix (ix_seqK (K := K) rfl) (pv 0) pe_int (fun _ _ => rfl)) pe_int (nomark _))))))
 (pss_one (ps_ret pe_str))
 pss_nil)
 (pss_one (ps_ret pe_non)))))), ?_⟩
    try dsimp only [cxOf]
    walk_at "go"
    refine r_ixT (SqT.of ht) (atI_nat (j := 0) rfl) ?_
    refine ⟨v1, rfl, n1, fun H1 g1 => ⟨_, rfl, ?_⟩⟩
    have ht := g1.e _ _ ht
    unfold whyV why at k
    cases c1 : nmV v1 with
    | false =>
      rw [if_neg (by rw [c1]; decide)] at k
      walk_at "go"
      exact k _ g1
    | true =>
    rw [if_pos c1] at k
    walk_at "go"
    refine r_ixT (SqT.of ht) (atI_nat (j := 1) rfl) ?_
    refine ⟨v2, rfl, n2.ext g1.e, ⟨_, rfl, ?_⟩⟩
    cases i2 : isI v2 with
    | false =>
      have c2 : btw 0 (10 ^ 30) v2 = false := by cases v2 <;> first | rfl | cases i2
      rw [if_neg (by rw [c2]; decide)] at k
      walk_at "go"
      exact k _ g1
    | true =>
    obtain ⟨i, rfl⟩ := isI_int i2
    walk_at "go"
    refine r_ixT (SqT.of ht) (atI_nat (j := 1) rfl) ?_
    walk_at "go"
    have e30 : (10 : Int) ^ 30 = 1000000000000000000000000000000 := by decide
    have e18 : (10 : Int) ^ 18 = 1000000000000000000 := by decide
    have kd : btw 0 (10 ^ 30) (V.int i) = false → ∀ H2, Gr H H2 → Q (.str "day") H2 := fun c => by
      rw [if_neg (by rw [c]; decide)] at k
      exact k
    have bt : ∀ {lo hi x : Int}, btw lo hi (.int x) = (decide (lo ≤ x) && decide (x ≤ hi)) := rfl
    refine r_iteD (fun h1 => ?_) fun h1 => ?_
    case refine_2 =>
      walk_at "go"
      exact kd (by rw [bt, decide_eq_false h1]; rfl) _ g1
    walk_at "go"
    refine r_iteN (p := i ≤ 10 ^ 30) (fun h2 => ?_) fun h2 => ?_
    · walk_at "go"
      exact kd (by rw [bt, decide_eq_false h2, Bool.and_false]) _ g1
    rw [if_pos (by rw [bt, decide_eq_true h1, decide_eq_true h2]; rfl)] at k
    clear kd
    walk_at "go"
    refine r_ixT (SqT.of ht) (atI_nat (j := 2) rfl) ?_
    refine ⟨v3, rfl, n3.ext g1.e, ⟨_, rfl, ?_⟩⟩
    cases i3 : isI v3 with
    | false =>
      have c2 : btw (-(10 ^ 30)) (10 ^ 30) v3 = false := by cases v3 <;> first | rfl | cases i3
      rw [if_neg (by rw [c2]; decide)] at k
      walk_at "go"
      exact k _ g1
    | true =>
    obtain ⟨j, rfl⟩ := isI_int i3
    walk_at "go"
    refine r_ixT (SqT.of ht) (atI_nat (j := 2) rfl) ?_
    walk_at "go"
    refine r_iteD (p := (10 : Int) ^ 30 < if j < 0 then -j else j) (fun h3 => ?_) fun h3 => ?_
    · rw [if_neg (by rw [bt]; simp only [Bool.and_eq_true, decide_eq_true_eq]; exact abs_le'.mp h3)] at k
      walk_at "go"
      exact k _ g1
    rw [if_pos (by rw [bt]; simp only [Bool.and_eq_true, decide_eq_true_eq]; exact Decidable.not_not.mp (fun z => h3 (abs_le'.mpr z)))] at k
    walk_at "go"
    refine r_ixT (SqT.of ht) (atI_nat (j := 3) rfl) ?_
    refine ⟨v4, rfl, n4.ext g1.e, ⟨_, rfl, ?_⟩⟩
    cases i4 : isI v4 with
    | false =>
      have c2 : btw (-(10 ^ 18)) (10 ^ 18) v4 = false := by cases v4 <;> first | rfl | cases i4
      rw [if_neg (by rw [c2]; exact fun z => Bool.false_ne_true z.1)] at k
      walk_at "go"
      exact k _ g1
    | true =>
    obtain ⟨l, rfl⟩ := isI_int i4
    walk_at "go"
    refine r_ixT (SqT.of ht) (atI_nat (j := 3) rfl) ?_
    walk_at "go"
    refine r_iteD (p := (10 : Int) ^ 18 < if l < 0 then -l else l) (fun h4 => ?_) fun h4 => ?_
    · rw [if_neg (by rw [bt]; simp only [Bool.and_eq_true, decide_eq_true_eq]; exact fun z => abs_le'.mp h4 z.1)] at k
      walk_at "go"
      exact k _ g1
    walk_at "go"
    refine r_ixT (SqT.of ht) (atI_nat (j := 3) rfl) ?_
    walk_at "go"
    refine r_iteD (fun h5 => ?_) fun h5 => ?_
    · rw [if_neg (fun z => z.2 (by rw [h5]))] at k
      walk_at "go"
      exact k _ g1
    rw [if_pos ⟨by rw [bt]; simp only [Bool.and_eq_true, decide_eq_true_eq]; exact Decidable.not_not.mp (fun z => h4 (abs_le'.mpr z)), fun z => h5 (V.int.inj z)⟩] at k
    walk_at "go"
    exact k _ g1
/-! ### rows of the law -/
theorem isT_str {H : Hp} {p : Addr} {xs : List V} (h : H p = some (.tup xs)) : Kit K H (.ref p) "str" false := ⟨_, .base (.tup h), rfl⟩
def spLIn (K : PySem.W.Frag) : Sp := fun vs H Q _ => ∃ p us rs v, vs = [.ref p, v] ∧ H p = some (.lst us) ∧ RowsAt H us rs ∧ us.length < 10000000 ∧ Kn K H v ∧ ∀ H1, Gr H H1 → Q (.bl (hasV rs v)) H1
theorem ok_lin (T : Tx K mg) : FnR P w K mg base (L2.CX P w) 1 (a_Lis_in K) (spLIn K) := by
  refine fnR_of T.f_Lis_in sc_Lis_in (fun _ _ _ _ _ _ us hl => match us, hl with | [_, _], _ => rfl) (fun vs H Q E h => ?_) fun A outer s H vs Q E cdv hr h => ?_
  · obtain ⟨p, us, rs, v, rfl, _⟩ := h
    rfl
  · obtain ⟨p, us, rs, v, rfl, hp, hrow, hl, hv, k⟩ := h
    refine ⟨_, (pss_one (ps_ret (pe_and (pe_callB call_isi rfl T.n_isinstance (by decide +kernel) (pa_cons (pv 1) (pa_cons (pe_bltn (v := .ty "str") rfl T.n_str (by decide +kernel) rfl) pa_nil))) (pe_one (pe_cmpR (op_inK (K := K) rfl) (pv 1) (pe_lc (own := [("_law_row", 2)]) rfl sc_Lis_in.nd (pi_anyK (K := K) rfl (pv 0)) (blkOk_by (own := [("_law_row", 2)]) (N := N_Lis_in) (sc := defScope s_Lis_in) (by decide +kernel)) (fun _ _ _ _ _ => (pg_name (i := 2) sc_Lis_in.nd rfl (by first | exact Or.inl rfl | exact Or.inr rfl))) (fun _ _ _ _ _ => pts_nil) (fun _ _ _ _ _ => (pe_ix (ix_seqK (K := K) rfl) (pv 2) pe_int (fun _ _ => rfl)))) (by rfl)))))), ?_⟩
    try dsimp only [cxOf]
    walk_at "go"
    refine r_isi hv.kitS ⟨_, rfl, ?_⟩
    by_cases hs : isS v = true
    · rw [hs]
      obtain ⟨nm, rfl⟩ : ∃ s, v = .str s := by
        cases v <;> try (cases hs)
        exact ⟨_, rfl⟩
      refine r_iteT ?_
      walk_at "go"
      refine r_iL ?_
      walk_at "go"
      refine ⟨_, rfl, ⟨_, SqL.of hp⟩, fun D hD => ?_⟩
      refine lc_list (xs := us) (fun i H' => Gr H H' ∧ H' D = some (.lst (((rs.map Rw.nm).take i).map V.str))) ⟨Gr.new hD, upd_same⟩ (fun i H' hi ⟨g, _⟩ => SqL.of (g.e _ _ hp)) (fun i x H' hx ⟨g, hd⟩ => ?_) fun H' ⟨g, hd⟩ => ?_
      · obtain ⟨t, r, hr1, rfl, ht⟩ := hrow.at hx
        have hil := (List.getElem?_eq_some_iff.mp hx).1
        walk_at "go"
        refine ⟨rfl, ?_⟩
        walk_at "go"
        refine r_ixT (SqT.of (g.e _ _ ht)) (atI_nat (j := 0) rfl) ?_
        refine ⟨_, hd, by rw [List.length_map, List.length_take]; show _ < 16777216; omega, g.mut hD, ?_⟩
        rw [upd_same, List.take_add_one, List.getElem?_map, hr1]
        simp
      · have hd : H' D = some (.lst ((rs.map Rw.nm).map V.str)) := by rw [hd, List.take_of_length_le (by rw [List.length_map, hrow.len]; exact Nat.le_refl _)]
        refine ⟨D, _, rfl, .inl (SqL.of hd), rfl, ?_, ?_⟩
        · rw [List.all_map, List.all_eq_true]
          exact fun _ _ => rfl
        · rw [inV_str]
          exact k _ g
    · have hs : isS v = false := by simpa using hs
      rw [hs]
      refine r_iteF ?_
      have e : hasV rs v = false := by
        cases v <;> first | rfl | (cases hs)
      rw [e] at k
      exact k _ (Gr.refl _)
def RowsQ (H : Hp) (Q : VK) (rs : List Rw) : Prop := ∀ q us H1, Gr H H1 → H q = none → H1 q = some (.lst us) → RowsAt H1 us rs → Q (.ref q) H1
theorem RowsQ.gr {H H1 : Hp} {Q : VK} {rs : List Rw} (h : RowsQ H Q rs) (g : Gr H H1) : RowsQ H1 Q rs := fun q us H2 g2 hq h1 h2 => h q us H2 (g.trans g2) (g.f _ hq) h1 h2
def spLAbs (K : PySem.W.Frag) : Sp := fun vs H Q _ => ∃ p q us rs s, vs = [.ref p, .ref q] ∧ H p = some (.lst us) ∧ RowsAt H us rs ∧ us.length < 10000000 ∧ H q = some (.lst [.str s]) ∧ RowsQ H Q (rs.filter fun r => decide (V.str r.nm ≠ V.str s))
theorem ok_labs (T : Tx K mg) : FnR P w K mg base (L2.CX P w) 1 (a_Labsent K) (spLAbs K) := by
  refine fnR_of T.f_Labsent sc_Labsent (fun _ _ _ _ _ _ us hl => match us, hl with | [_, _], _ => rfl) (fun vs H Q E h => ?_) fun A outer s H vs Q E cdv hr h => ?_
  · obtain ⟨p, us, rs, v, s, rfl, _⟩ := h
    rfl
  · obtain ⟨p, q, us, rs, s, rfl, hp, hrow, hl, hq, k⟩ := h
    refine ⟨_, (pss_one (ps_ret (pe_lc (own := [("_law_row", 2)]) rfl sc_Labsent.nd (pi_anyK (K := K) rfl (pv 0)) (blkOk_by (own := [("_law_row", 2)]) (N := N_Labsent) (sc := defScope s_Labsent) (by decide +kernel)) (fun _ _ _ _ _ => (pg_name (i := 2) sc_Labsent.nd rfl (by first | exact Or.inl rfl | exact Or.inr rfl))) (fun _ _ _ _ _ => (pts_one (pt_cmpR (op_notInK (K := K) rfl) (pe_ix (ix_seqK (K := K) rfl) (pv 2) pe_int (fun _ _ => rfl)) (pv 1) (by rfl)))) (fun _ _ _ _ _ => (pv 2))))), ?_⟩
    try dsimp only [cxOf]
    walk_at "go"
    refine r_iL ?_
    walk_at "go"
    refine ⟨_, rfl, ⟨_, SqL.of hp⟩, fun D hD => ?_⟩
    generalize hf : (fun r : Rw => decide (V.str r.nm ≠ V.str s)) = f at k
    refine lc_list (xs := us) (fun i H' => Gr H H' ∧ ∃ ws, H' D = some (.lst ws) ∧ ws.length ≤ i ∧ RowsAt H ws ((rs.take i).filter f)) ⟨Gr.new hD, [], upd_same, Nat.le_refl _, by rw [List.take_zero]; trivial⟩ (fun i H' hi ⟨g, _⟩ => SqL.of (g.e _ _ hp)) (fun i x H' hx ⟨g, ws, hd, hwl, hws⟩ => ?_) fun H' ⟨g, ws, hd, hwl, hws⟩ => ?_
    · obtain ⟨t, r, hr1, rfl, ht⟩ := hrow.at hx
      have hil := (List.getElem?_eq_some_iff.mp hx).1
      have hfs := filter_snoc (p := f) hr1
      have hpr : f r = !decide (r.nm = s) := by
        rw [← hf]
        by_cases e : r.nm = s
        · simp [e]
        · simp [e]
      walk_at "go"
      refine ⟨rfl, ?_⟩
      walk_at "go"
      refine r_ixT (SqT.of (g.e _ _ ht)) (atI_nat (j := 0) rfl) ?_
      walk_at "go"
      refine ⟨q, _, rfl, .inl (SqL.of (g.e _ _ hq)), rfl, rfl, ?_⟩
      rw [inV_one]
      refine ⟨_, rfl, ?_⟩
      by_cases e : r.nm = s
      · rw [decide_eq_true e]
        refine r_iteF ?_
        rw [decide_eq_true e] at hpr
        rw [hpr, if_neg (by decide), List.append_nil] at hfs
        exact ⟨g, ws, hd, by omega, by rw [hfs]; exact hws⟩
      · rw [decide_eq_false e]
        refine r_iteT ?_
        rw [decide_eq_false e] at hpr
        rw [hpr, if_pos (by rfl)] at hfs
        walk_at "go"
        exact ⟨ws, hd, by show _ < 16777216; omega, g.mut hD, ws ++ [.ref t], upd_same, by rw [List.length_append, List.length_singleton]; omega, by rw [hfs]; exact hws.snoc ht⟩
    · rw [List.take_of_length_le (by rw [hrow.len]; exact Nat.le_refl _)] at hws
      exact k D ws _ g hD hd (hws.ext g.e)
def spLRow (K : PySem.W.Frag) : Sp := fun vs H Q _ => ∃ p us rs r, vs = [.ref p, .str (Rw.nm r)] ∧ H p = some (.lst us) ∧ RowsAt H us rs ∧ us.length < 10000000 ∧ r ∈ rs ∧ (rs.map Rw.nm).Nodup ∧ ∀ t H1, Gr H H1 → H1 t = some (.tup (rowV r)) → Q (.ref t) H1
theorem ok_lrow (T : Tx K mg) : FnR P w K mg base (L2.CX P w) 1 (a_Lrow_of K) (spLRow K) := by
  refine fnR_of T.f_Lrow_of sc_Lrow_of (fun _ _ _ _ _ _ us hl => match us, hl with | [_, _], _ => rfl) (fun vs H Q E h => ?_) fun A outer s H vs Q E cdv hr h => ?_
  · obtain ⟨p, us, rs, r, rfl, _⟩ := h
    rfl
  · obtain ⟨p, us, rs, r, rfl, hp, hrow, hl, hm, hnd, k⟩ := h
    refine ⟨_, (pss_one (ps_ret (pe_ix (ix_seqK (K := K) rfl) (pe_lc (own := [("_law_row", 2)]) rfl sc_Lrow_of.nd (pi_anyK (K := K) rfl (pv 0)) (blkOk_by (own := [("_law_row", 2)]) (N := N_Lrow_of) (sc := defScope s_Lrow_of) (by decide +kernel)) (fun _ _ _ _ _ => (pg_name (i := 2) sc_Lrow_of.nd rfl (by first | exact Or.inl rfl | exact Or.inr rfl))) (fun _ _ _ _ _ => (pts_one (pt_cmpR (op_eqUK (K := K) rfl hr.units) (pe_ix (ix_seqK (K := K) rfl) (pv 2) pe_int (fun _ _ => rfl)) (pv 1) (nomark _)))) (fun _ _ _ _ _ => (pv 2))) pe_int (fun _ _ => rfl)))), ?_⟩
    try dsimp only [cxOf]
    walk_at "go"
    refine r_iL ?_
    walk_at "go"
    refine ⟨_, rfl, ⟨_, SqL.of hp⟩, fun D hD => ?_⟩
    refine lc_list (xs := us) (fun i H' => Gr H H' ∧ ∃ ws, H' D = some (.lst ws) ∧ ws.length ≤ i ∧ RowsAt H ws ((rs.take i).filter fun x => decide (x.nm = r.nm))) ⟨Gr.new hD, [], upd_same, Nat.le_refl _, by rw [List.take_zero]; trivial⟩ (fun i H' hi ⟨g, _⟩ => SqL.of (g.e _ _ hp)) (fun i x H' hx ⟨g, ws, hd, hwl, hws⟩ => ?_) fun H' ⟨g, ws, hd, hwl, hws⟩ => ?_
    · obtain ⟨t, r1, hr1, rfl, ht⟩ := hrow.at hx
      have hil := (List.getElem?_eq_some_iff.mp hx).1
      have hfs := filter_snoc (p := fun x : Rw => decide (x.nm = r.nm)) hr1
      walk_at "go"
      refine ⟨rfl, ?_⟩
      walk_at "go"
      refine r_ixT (SqT.of (g.e _ _ ht)) (atI_nat (j := 0) rfl) ?_
      walk_at "go"
      refine r_iteD (fun e => ?_) fun e => ?_
      · rw [if_pos (decide_eq_true e)] at hfs
        walk_at "go"
        exact ⟨ws, hd, by show _ < 16777216; omega, g.mut hD, ws ++ [.ref t], upd_same, by rw [List.length_append, List.length_singleton]; omega, by rw [hfs]; exact hws.snoc ht⟩
      · rw [if_neg (by rw [decide_eq_false e]; decide), List.append_nil] at hfs
        exact ⟨g, ws, hd, by omega, by rw [hfs]; exact hws⟩
    · rw [List.take_of_length_le (by rw [hrow.len]; exact Nat.le_refl _)] at hws
      have hmem : r ∈ rs.filter fun x => decide (x.nm = r.nm) := List.mem_filter.mpr ⟨hm, decide_eq_true rfl⟩
      generalize hfl : (rs.filter fun x => decide (x.nm = r.nm)) = fl at hws hmem
      cases fl with
      | nil => exact absurd hmem List.not_mem_nil
      | cons r0 fl =>
        have h0 : r0 = r := by
          have hx : r0 ∈ rs.filter fun x => decide (x.nm = r.nm) := by rw [hfl]; exact List.mem_cons_self
          obtain ⟨h1, h2⟩ := List.mem_filter.mp hx
          exact rows_nm hnd h1 hm (of_decide_eq_true h2)
        subst h0
        cases ws with
        | nil => exact hws.elim
        | cons u ws =>
          obtain ⟨t, _, _, rfl, ht⟩ := hws.at (i := 0) rfl
          walk_at "go"
          refine r_ixL (SqL.of hd) (atI_nat (j := 0) rfl) ?_
          obtain ⟨t', r', e1, e2, ht'⟩ := hws.at (i := 0) rfl
          cases e1
          cases e2
          exact k _ _ g (g.e _ _ ht')
end
end Tx

set_option maxRecDepth 100000
set_option maxHeartbeats 4000000
namespace My
open PySem PySem.Spec PyProof.Rows L2
theorem r_din {ty td : TE} {σ : L2.St} {H : Hp} {Q : VK} (h : ty σ H fun y H1 => td σ H1 fun x H2 => ∃ a o, x = .ref a ∧ DGet H2 a y o ∧ Q (.bl o.isSome) H2) : tDIn ty td σ H Q := h
end My
namespace Tx
open PySem PySem.Spec PyProof.Rows L2 My LamX
section
variable {P : Program} {w : World} {K : PySem.W.Frag} {mg : Str → Option Value} {base : Heap}
/-! ### _law_is_action, _law_is_error -/
def sizesKV : List (Key × V) := [(.inr "come", .int 5), (.inr "leave", .int 2), (.inr "move", .int 4), (.inr "swap", .int 3)]
theorem valV_sizes (z : Str) : valV sizesKV (.inr z) = (szO z).map fun n => V.int n := by
  unfold valV sizesKV szO
  by_cases h1 : z = "come"
  · subst h1; rfl
  by_cases h2 : z = "leave"
  · subst h2; rfl
  by_cases h3 : z = "move"
  · subst h3; rfl
  by_cases h4 : z = "swap"
  · subst h4; rfl
  rw [if_neg h1, if_neg h2, if_neg h3, if_neg h4]
  simp [Ne.symm h1, Ne.symm h2, Ne.symm h3, Ne.symm h4]
def isAct : Av → Bool
  | .act _ => true
  | .odd _ => false
/-- what the def answers at a value -/
def IsR (K : PySem.W.Frag) (H : Hp) (u : V) (b : Bool) : Prop := (isTp K H u ∧ b = false) ∨ ∃ t xs, u = .ref t ∧ H t = some (.tup xs) ∧ ((xs = [] ∧ b = false) ∨ (∃ B x r d, xs = x :: r ∧ Dq B H x d ∧ isS x = false ∧ b = false) ∨ ∃ z r, xs = .str z :: r ∧ b = decide (szO z = some (r.length + 1)))
theorem AvAt.isR {B H : Hp} {tv : V → Str} {u : V} : ∀ {av : Av}, AvAt B H tv u av → IsR K H u (isAct av)
  | .act a, ⟨t, e, ht, _⟩ => by
    obtain ⟨z, rest, e1, e2⟩ := Act.szO a
    exact .inr ⟨t, _, e, ht, .inr (.inr ⟨z, rest, e1, (decide_eq_true e2).symm⟩)⟩
  | .odd v, ⟨e, _, d, hd, hb⟩ => by
    subst e
    rcases Dq.tp (K := K) hd with hn | ⟨t, xs, ds, rfl, rfl, ht, hall⟩
    · exact .inl ⟨hn, rfl⟩
    · refine .inr ⟨t, xs, rfl, ht, ?_⟩
      cases hall with
      | nil => exact .inl ⟨rfl, rfl⟩
      | @cons x xs dx ds hx hr2 =>
        cases e : isS x with
        | false => exact .inr (.inl ⟨_, _, _, _, rfl, hx, e, rfl⟩)
        | true =>
          obtain ⟨z, rfl⟩ : ∃ z, x = .str z := by
            cases x <;> try (cases e)
            exact ⟨_, rfl⟩
          cases hx
          have hb : (!decide (szO z = some (ds.length + 1))) = true := hb
          rw [← hr2.len] at hb
          refine .inr (.inr ⟨z, xs, rfl, ?_⟩)
          show false = _
          simpa using hb
def spLIsV (K : PySem.W.Frag) : Sp := fun vs H Q _ => ∃ u b, vs = [u] ∧ IsR K H u b ∧ ∀ H1, Gr H H1 → Q (.bl b) H1
theorem ok_lisa (T : Tx K mg) : FnR P w K mg base (L2.CX P w) 1 (a_Lis_action K) (spLIsV K) := by
  refine fnR_of T.f_Lis_action sc_Lis_action (fun _ _ _ _ _ _ us hl => match us, hl with | [_], _ => rfl) (fun vs H Q E h => ?_) fun A outer s H vs Q E cdv hr h => ?_
  · obtain ⟨u, b, rfl, _⟩ := h
    rfl
  · obtain ⟨u, b, rfl, ha, k⟩ := h
    refine ⟨_, (pss_cons (ps_if (PW.pt (pw_or (pt_not (pt_val (pe_callB call_isi rfl T.n_isinstance (by decide +kernel) (pa_cons (pv 0) (pa_cons (pe_bltn (v := .ty "tuple") rfl T.n_tuple (by decide +kernel) rfl) pa_nil))))) (pw_or (pt_cmpR (op_eqT0 (K := K) rfl (Nat.lt_of_le_of_lt (Nat.le_add_right _ 64) hr.units)) (pv 0) (pe_tup pa_nil) (nomark _)) (pw_or1 (pt_not (pt_val (pe_callB call_isi rfl T.n_isinstance (by decide +kernel) (pa_cons (pe_ix (ix_seqK (K := K) rfl) (pv 0) pe_int (fun _ _ => rfl)) (pa_cons (pe_bltn (v := .ty "str") rfl T.n_str (by decide +kernel) rfl) pa_nil)))))))))
 (pss_one (ps_ret pe_bl))
 pss_nil)
 (pss_cons (ps_set (i := 1) sc_Lis_action.nd rfl (by first | exact Or.inl rfl | exact Or.inr rfl) (pe_disp (pps_cons pe_str pe_int (pps_cons pe_str pe_int (pps_cons pe_str pe_int (pps_cons pe_str pe_int pps_nil)))) (by rfl) (by rfl) (fun z => by cases z) (by decide)))
 (pss_one (ps_ret (pe_and (pe_cmp (pc_din (hu_of hr) (pe_ix (ix_seqK (K := K) rfl) (pv 0) pe_int (fun _ _ => rfl)) (pv 1)) (by rfl)) (pe_one (pe_cmpR (op_eqUK (K := K) rfl hr.units) (pe_callB (call_lenUK (K := K) rfl) rfl T.n_len (by decide +kernel) (pa_cons (pv 0) pa_nil)) (pe_dget (hu_of hr) (pv 1) (pe_ix (ix_seqK (K := K) rfl) (pv 0) pe_int (fun _ _ => rfl)) (fun _ _ => rfl)) (nomark _)))))))), ?_⟩
    try dsimp only [cxOf]
    walk_at "go"
    rcases ha with ⟨hn, rfl⟩ | ⟨t, xs, rfl, ht, hx⟩
    · refine r_isi hn ⟨_, rfl, ?_⟩
      refine r_iteNF ?_
      refine r_iteT ?_
      walk_at "go"
      exact k _ (Gr.refl _)
    refine r_isi (kit_tup ht) ⟨_, rfl, ?_⟩
    walk_at "go"
    refine ⟨by decide, fun p hp => ?_⟩
    have g := Gr.new (o := .tup []) hp
    have ht' := g.e _ _ ht
    have hpn := g
    refine r_eqT0' (SqT.of ht') (SqT.of upd_same) ?_
    generalize upd H p (.tup []) = H1 at g ht' ⊢
    walk_at "go"
    rcases hx with ⟨rfl, rfl⟩ | ⟨B, x, r, d, rfl, kx, es, rfl⟩ | ⟨z, r, rfl, rfl⟩
    · refine r_iteT ?_
      refine r_iteT ?_
      walk_at "go"
      exact k _ g
    · refine r_iteF ?_
      walk_at "go"
      refine r_ixT (SqT.of ht') (atI_nat (j := 0) rfl) ?_
      walk_at "go"
      have kx1 := Dq.kitS (K := K) (Dq.ke (Ke.gr g) _ _ kx)
      rw [es] at kx1
      refine r_isi kx1 ?_
      walk_at "go"
      exact k _ g
    · refine r_iteF ?_
      walk_at "go"
      refine r_ixT (SqT.of ht') (atI_nat (j := 0) rfl) ?_
      walk_at "go"
      refine r_isi kit_str.1 ?_
      walk_at "go"
      refine r_disp fun q hq => ?_
      have g2 := g.then (o := .dK []) hq
      have ht2 := (Gr.new (o := .dK []) hq).e _ _ ht'
      walk_at "go"
      refine ⟨upd_same, sizesKV, rfl, (show 4 ≤ 15 by decide), ?_⟩
      have hmk : mergeK [] sizesKV = sizesKV := by rfl
      rw [hmk, L2.upd_upd]
      have g3 := g.then (o := .dK sizesKV) hq
      have ht3 := (Gr.new (o := .dK sizesKV) hq).e _ _ ht'
      have hq3 : (upd H1 q (.dK sizesKV)) q = some (.dK sizesKV) := upd_same
      generalize upd H1 q (.dK sizesKV) = H3 at g3 ht3 hq3 ⊢
      walk_at "go"
      refine r_din ?_
      walk_at "go"
      refine r_ixT (SqT.of ht3) (atI_nat (j := 0) rfl) ?_
      have dg : DGet H3 q (.str z) ((szO z).map fun n => V.int n) := by rw [← valV_sizes]; exact DGet.k (k := .inr z) hq3
      cases e : szO z with
      | none =>
        rw [e] at dg k
        refine ⟨_, rfl, q, none, rfl, dg, ?_⟩
        refine ⟨_, rfl, r_iteF ?_⟩
        have e2 : decide ((none : Option Nat) = some (r.length + 1)) = false := by simp
        rw [e2] at k
        exact k _ g3
      | some n =>
        rw [e] at dg k
        refine ⟨_, rfl, q, some (.int n), rfl, dg, ?_⟩
        refine ⟨_, rfl, r_iteT ?_⟩
        walk_at "go"
        refine r_ixT (SqT.of ht3) (atI_nat (j := 0) rfl) ?_
        refine ⟨q, .int n, rfl, dg, ?_⟩
        refine r_eqI ?_
        have e2 : decide ((((V.str z :: r).length : Nat) : Int) = (n : Int)) = decide (some n = some (r.length + 1)) := by
          rw [List.length_cons]
          by_cases q : n = r.length + 1
          · rw [q]
            simp
          · rw [decide_eq_false (by omega), decide_eq_false (fun h => q (Option.some.inj h))]
        rw [e2]
        exact k _ g3
def ErrL (H : Hp) (us : List V) : Bool → Prop
  | false => ∀ u us', us = u :: us' → ∃ t xs, u = .ref t ∧ H t = some (.tup xs)
  | true => ∃ z us', us = .str z :: us'
def spLErr (K : PySem.W.Frag) : Sp := fun vs H Q _ => ∃ p us b, vs = [.ref p] ∧ H p = some (.lst us) ∧ ErrL H us b ∧ ∀ H1, Gr H H1 → Q (.bl b) H1
theorem ok_lerr (T : Tx K mg) : FnR P w K mg base (L2.CX P w) 1 (a_Lis_error K) (spLErr K) := by
  refine fnR_of T.f_Lis_error sc_Lis_error (fun _ _ _ _ _ _ us hl => match us, hl with | [_], _ => rfl) (fun vs H Q E h => ?_) fun A outer s H vs Q E cdv hr h => ?_
  · obtain ⟨p, us, b, rfl, _⟩ := h
    rfl
  · obtain ⟨p, us, b, rfl, hp, hb, k⟩ := h
    refine ⟨_, (pss_one (ps_ret (pe_and (pe_cmpR (op_ne0 (K := K) rfl hr.units0) (pv 0) (pe_lst pa_nil) (nomark _)) (pe_one (pe_callB call_isi rfl T.n_isinstance (by decide +kernel) (pa_cons (pe_ix (ix_seqK (K := K) rfl) (pv 0) pe_int (fun _ _ => rfl)) (pa_cons (pe_bltn (v := .ty "str") rfl T.n_str (by decide +kernel) rfl) pa_nil))))))), ?_⟩
    try dsimp only [cxOf]
    walk_at "go"
    refine ⟨by decide, fun q hq => ?_⟩
    have g := Gr.new (o := .lst []) hq
    have hp' := g.e _ _ hp
    refine r_ne0 (SqL.of hp') (SqL.of upd_same) ⟨_, rfl, ?_⟩
    generalize upd H q (.lst []) = H1 at g hp' ⊢
    cases us with
    | nil =>
      cases b with
      | true =>
        obtain ⟨z, us', e⟩ := hb
        cases e
      | false => exact k _ g
    | cons u us =>
      refine r_iteT ?_
      walk_at "go"
      refine r_ixL (SqL.of hp') (atI_nat (j := 0) rfl) ?_
      walk_at "go"
      cases b with
      | true =>
        obtain ⟨z, us', e⟩ := hb
        cases e
        exact r_isi kit_str.1 (k _ g)
      | false =>
        obtain ⟨t, xs, rfl, ht⟩ := hb u us rfl
        exact r_isi (isT_str (g.e _ _ ht)) (k _ g)
theorem ErrL.rows {H : Hp} {us : List V} {rs : List Rw} (h : RowsAt H us rs) : ErrL H us false := fun u us' e => by
  subst e
  obtain ⟨t, r, _, rfl, ht⟩ := h.at (i := 0) rfl
  exact ⟨t, _, rfl, ht⟩
/-! ### _law_one_step, _law_steps -/
def Kd.word : Kd → Str
  | .painter => "painter"
  | .twice => "twice"
  | .many => "many"
  | .unknown => "unknown"
  | .action => "action"
def shV : V → Str
  | .str s => reprText s
  | .int i => tS i
  | _ => ""
def ResL (tv : V → Str) (H : Hp) (Q : VK) : Res → Prop
  | .ok rs => RowsQ H Q rs
  | .bad c v => ∀ q H1, Gr H H1 → H q = none → H1 q = some (.lst [.str c.word, .str (tv v), .bl true]) → Q (.ref q) H1
theorem ResL.gr {tv : V → Str} {H H1 : Hp} {Q : VK} (g : Gr H H1) : ∀ {r : Res}, ResL tv H Q r → ResL tv H1 Q r
  | .ok _, h => RowsQ.gr h g
  | .bad _ _, h => fun q H2 g2 hq h1 => h q H2 (g.trans g2) (g.f _ hq) h1
/-- a value that is shown by a short text -/
def shK (v : V) : Prop := (∃ s, v = .str s ∧ (reprText s).length ≤ 1000 ∧ ∀ c ∈ cl s, c < 128) ∨ ∃ i, v = .int i ∧ -(10 ^ 60) ≤ i ∧ i ≤ 10 ^ 60
theorem shK_data {B H : Hp} {v : V} (h : shK v) : ∃ d, Dq B H v d ∧ ShQ d 2000 0 ∧ shV v = d.shown := by
  rcases h with ⟨s, rfl, h, h3⟩ | ⟨i, rfl, h1, h2⟩
  · exact ⟨.str s, .str s, ⟨rfl, Nat.le_refl _, (show (reprText s).length ≤ 2000 by omega), (show Sg (reprText s) from repr_signs fun c hc => by have := h3 c hc; omega)⟩, rfl⟩
  · refine ⟨.int i, .int i, ⟨?_, Nat.le_refl _, ?_, (show Sg (tS i) from fun c hc => by rcases tS_mem hc with h | h <;> omega)⟩, rfl⟩
    · show decide (i.natAbs.log2 < 1920) = true
      exact decide_eq_true (log_i (by omega) (by omega))
    · have := tS_small (i := i) (k := 61) (by omega) (by omega) (by decide)
      show (tS i).length ≤ 2000
      omega
/-- tv agrees with what small texts and numbers are shown by -/
def TvOk (tv : V → Str) : Prop := ∀ v, shK v → tv v = shV v
theorem r_tv {H : Hp} {tv : V → Str} {v : V} {Q : VK} (hT : TvOk tv) (h : shK v) (q : Q (.str (tv v)) H) : rReprQ [v] H Q := by
  rw [hT v h] at q
  obtain ⟨d, h2, h3, h4⟩ := shK_data (B := H) (H := H) h
  rw [h4] at q
  exact ⟨H, v, d, rfl, h2, h3.sh, Nat.le_trans h3.dp (by decide), Nat.le_trans h3.ln (by decide), q⟩
theorem okV.sh : ∀ {v : V}, okV v → shK v
  | .str s, h => .inl ⟨s, rfl, by
    have := repr_le (s := s) fun c hc => by have := (h.2.2 c hc).2; omega
    have := h.2.1
    omega, fun c hc => by have := (h.2.2 c hc).2; omega⟩
  | .int i, h => .inr ⟨i, rfl, by have := h.1; omega, by have := h.2; omega⟩
theorem why_sh {v1 v2 v3 v4 : V} {y : Str} (h : why v1 v2 v3 v4 = some y) : shK (.str y) := by
  refine .inl ⟨y, rfl, ?_⟩
  suffices hs : (reprText y).length ≤ 1000 ∧ ∀ c ∈ cl y, c < 128 from hs
  unfold why at h
  split at h
  · split at h
    · split at h
      · split at h
        · cases h
        · cases h; decide +kernel
      · cases h; decide +kernel
    · cases h; decide +kernel
  · cases h; decide +kernel
theorem dupFrom_snoc {n : Str} : ∀ {l pre : List Str}, (pre ++ l).Nodup → dupFrom pre (l ++ [n]) = if n ∈ pre ++ l then some n else none
  | [], pre, _ => by
    rw [List.append_nil]
    rfl
  | a :: l, pre, h => by
    have ha : a ∉ pre := fun c => (List.nodup_append.mp h).2.2 a c a List.mem_cons_self rfl
    show (if a ∈ pre then some a else dupFrom (pre ++ [a]) (l ++ [n])) = _
    rw [if_neg ha, dupFrom_snoc (by rw [List.append_assoc]; exact h), List.append_assoc]
    rfl
theorem dup_snoc {n : Str} {l : List Str} (h : l.Nodup) : dup (l ++ [n]) = if n ∈ l then some n else none := dupFrom_snoc (pre := []) h
theorem addR_eq {rs : List Rw} {r : Rw} (h : (rs.map Rw.nm).Nodup) : addR rs r = if hasV rs (.str r.nm) = true then .bad .twice (.str r.nm) else if rs.length < 40 then .ok (rs ++ [r]) else .bad .many (.int 40) := by
  have hh : hasV rs (.str r.nm) = decide (r.nm ∈ rs.map Rw.nm) := rfl
  have e : (rs ++ [r]).length = rs.length + 1 := by simp
  unfold addR
  rw [List.map_append, List.map_cons, List.map_nil, dup_snoc h, hh, e]
  by_cases hm : r.nm ∈ rs.map Rw.nm
  · rw [if_pos hm, if_pos (decide_eq_true hm)]
  · rw [if_neg hm, if_neg (show ¬ (decide (r.nm ∈ rs.map Rw.nm) = true) from by rw [decide_eq_false hm]; decide)]
    show (if 40 < rs.length + 1 then Res.bad .many (.int 40) else .ok (rs ++ [r])) = _
    by_cases hl : rs.length < 40
    · rw [if_pos hl, if_neg (by omega)]
    · rw [if_neg hl, if_pos (by omega)]
theorem rows_eqv {rs : List Rw} (h : RowsOk rs) {a b : Rw} (ha : a ∈ rs) (hb : b ∈ rs) : PyData.eqv (rowD a) (rowD b) = decide (a.nm = b.nm) := by
  by_cases e : a.nm = b.nm
  · have := rows_nm h.2.1 ha hb e
    subst this
    rw [decide_eq_true rfl]
    exact SeqAt.eqv_refl _ (rowD_lay (h.2.2.1 a ha))
  · rw [decide_eq_false e]
    show ((a.nm == b.nm) && _) = false
    have : (a.nm == b.nm) = false := by simpa using e
    rw [this]
    rfl
theorem r_eqRow {H : Hp} {p q : Addr} {rs : List Rw} {a b : Rw} {Q : VK} (h : RowsOk rs) (ha : a ∈ rs) (hb : b ∈ rs) (hp : H p = some (.tup (rowV a))) (hq : H q = some (.tup (rowV b))) (k : Q (.bl (decide (a.nm = b.nm))) H) : rEqU K (.ref p) (.ref q) H Q := by
  refine .inr ⟨rowD a, rowD b, rowD_dp hp, rowD_dp hq, rowD_shaped (h.2.2.1 a ha), rowD_shaped (h.2.2.1 b hb), ?_⟩
  rw [rows_eqv h ha hb]
  exact k
def spLOne (K : PySem.W.Frag) : Sp := fun vs H Q _ => ∃ B tv p t us rs act, vs = [.ref p, .ref t] ∧ H p = some (.lst us) ∧ RowsAt H us rs ∧ RowsOk rs ∧ H t = some (.tup (Act.vs act)) ∧ (∀ v ∈ Act.vs act, It B H tv v) ∧ TvOk tv ∧ ResL tv H Q (stepA rs act)
/-- a new list of the rows, each by what g makes of it -/
theorem rows_map {H : Hp} {ws : List V} {rs : List Rw} {g : Rw → Rw} {i : Nat} {t : Addr} {r : Rw} (h : RowsAt H ws ((rs.take i).map g)) (e : rs[i]? = some r) (ht : H t = some (.tup (rowV (g r)))) : RowsAt H (ws ++ [.ref t]) ((rs.take (i + 1)).map g) := by
  rw [List.take_add_one, e, List.map_append]
  exact h.snoc ht
end
end Tx

set_option maxRecDepth 100000
set_option maxHeartbeats 4000000
namespace Tx
open PySem PySem.Spec PyProof.Rows L2 My LamX
section
variable {P : Program} {w : World} {K : PySem.W.Frag} {mg : Str → Option Value} {base : Heap}
theorem whyV_none {v1 v2 v3 v4 : V} (h : why v1 v2 v3 v4 = none) : whyV v1 v2 v3 v4 = .non := by
  unfold whyV
  rw [h]
theorem whyV_some {v1 v2 v3 v4 : V} {y : Str} (h : why v1 v2 v3 v4 = some y) : whyV v1 v2 v3 v4 = .str y := by
  unfold whyV
  rw [h]
theorem badL {tv : V → Str} {H H1 : Hp} {Q : VK} {c : Kd} {v : V} (k : ResL tv H Q (.bad c v)) (g : Gr H H1) : 3 ≤ sizeLine ∧ ∀ p, H1 p = none → Q (.ref p) (upd H1 p (.lst [.str c.word, .str (tv v), .bl true])) :=
  ⟨by decide, fun p hp => k p _ (g.then hp) (g.f _ hp) upd_same⟩
theorem badL40 {tv : V → Str} {H H1 : Hp} {Q : VK} {c : Kd} (hT : TvOk tv) (k : ResL tv H Q (.bad c (.int 40))) (g : Gr H H1) : 3 ≤ sizeLine ∧ ∀ p, H1 p = none → Q (.ref p) (upd H1 p (.lst [.str c.word, .str (shV (.int 40)), .bl true])) := by
  have e : tv (.int 40) = shV (.int 40) := hT _ (.inr ⟨40, rfl, by decide, by decide⟩)
  have := badL k g
  rw [e] at this
  exact this
theorem ok_lone (T : Tx K mg) : FnG P w K mg base (L2.CX P w) 3 (a_Lone_step K) (spLOne K) := by
  have F_Lreason := ok_reason (P := P) (w := w) (base := base) T
  have F_Lis_in := ok_lin (P := P) (w := w) (base := base) T
  have F_Labsent := ok_labs (P := P) (w := w) (base := base) T
  have F_Lrow_of := ok_lrow (P := P) (w := w) (base := base) T
  refine fnG_of T.f_Lone_step sc_Lone_step (fun _ _ _ _ _ _ us hl => match us, hl with | [_, _], _ => rfl) (fun vs H Q E h => ?_) fun A outer s Hx vs Q E cdv hg hr h => ?_
  · obtain ⟨B, tv, p, t, us, rs, act, rfl, _⟩ := h
    rfl
  · obtain ⟨B, tv, p, t, us, rs, act, rfl, hp, hrow, hok, ht, hact, hT, k⟩ := h
    have hul : us.length ≤ 40 := by rw [hrow.len]; exact hok.2.2.2
    have hnd := hok.2.1
    refine ⟨_, (pss_cons (ps_asg (pe_tup (pa_cons (pe_ix (ix_seqK (K := K) rfl) (pv 1) pe_int (fun _ _ => rfl)) (pa_cons (pe_ix (ix_seqK (K := K) rfl) (pv 1) pe_int (fun _ _ => rfl)) pa_nil))) (pg_tupK (K := K) (n := 2) rfl rfl (pgs_cons (pg_name (i := 2) sc_Lone_step.nd rfl (by first | exact Or.inl rfl | exact Or.inr rfl)) (pgs_cons (pg_name (i := 3) sc_Lone_step.nd rfl (by first | exact Or.inl rfl | exact Or.inr rfl)) pgs_nil))))
 (pss_cons (ps_if (pt_cmpR (op_eqUK (K := K) rfl hr.units) (pv 2) pe_str (nomark _))
 (pss_cons (ps_if (pt_cmpR op_notN (pe_callR F_Lreason (hr.mono (by first | decide | omega)) T.k_Lreason rfl T.g__law_reason passL (pa_cons (pe_slice (sl_anyK (K := K) rfl) (pv 1) (po_some pe_int) po_none) pa_nil)) pe_non (nomark _))
 (pss_one (ps_ret (pe_lst (pa_cons pe_str (pa_cons (pe_callB (call_reprQ T.sysm hr.units hg) rfl T.n_repr (by decide +kernel) (pa_cons (pe_callR F_Lreason (hr.mono (by first | decide | omega)) T.k_Lreason rfl T.g__law_reason passL (pa_cons (pe_slice (sl_anyK (K := K) rfl) (pv 1) (po_some pe_int) po_none) pa_nil)) pa_nil)) (pa_cons pe_bl pa_nil))))))
 pss_nil)
 (pss_cons (ps_if (pt_val (pe_callR F_Lis_in (hr.mono (by first | decide | omega)) T.k_Lis_in rfl T.g__law_is_in passL (pa_cons (pv 0) (pa_cons (pv 3) pa_nil))))
 (pss_one (ps_ret (pe_lst (pa_cons pe_str (pa_cons (pe_callB (call_reprQ T.sysm hr.units hg) rfl T.n_repr (by decide +kernel) (pa_cons (pv 3) pa_nil)) (pa_cons pe_bl pa_nil))))))
 pss_nil)
 (pss_one (ps_ret (pe_ifExp (pt_cmpR op_lt (pe_callB (call_lenUK (K := K) rfl) rfl T.n_len (by decide +kernel) (pa_cons (pv 0) pa_nil)) pe_int (nomark _)) (pe_op (op_addUK (K := K) rfl) (pv 0) (pe_lst (pa_cons (pe_slice (sl_anyK (K := K) rfl) (pv 1) (po_some pe_int) po_none) pa_nil))) (pe_lst (pa_cons pe_str (pa_cons pe_str (pa_cons pe_bl pa_nil)))))))))
 pss_nil)
 (pss_cons (ps_if (pt_not (pt_val (pe_callR F_Lis_in (hr.mono (by first | decide | omega)) T.k_Lis_in rfl T.g__law_is_in passL (pa_cons (pv 0) (pa_cons (pv 3) pa_nil)))))
 (pss_one (ps_ret (pe_lst (pa_cons pe_str (pa_cons (pe_callB (call_reprQ T.sysm hr.units hg) rfl T.n_repr (by decide +kernel) (pa_cons (pv 3) pa_nil)) (pa_cons pe_bl pa_nil))))))
 pss_nil)
 (pss_cons (ps_if (pt_cmpR (op_eqUK (K := K) rfl hr.units) (pv 2) pe_str (nomark _))
 (pss_one (ps_ret (pe_callR F_Labsent (hr.mono (by first | decide | omega)) T.k_Labsent rfl T.g__law_absent passL (pa_cons (pv 0) (pa_cons (pe_lst (pa_cons (pv 3) pa_nil)) pa_nil)))))
 pss_nil)
 (pss_cons (ps_set (i := 4) sc_Lone_step.nd rfl (by first | exact Or.inl rfl | exact Or.inr rfl) (pe_callR F_Lrow_of (hr.mono (by first | decide | omega)) T.k_Lrow_of rfl T.g__law_row_of passL (pa_cons (pv 0) (pa_cons (pv 3) pa_nil))))
 (pss_cons (ps_if (pt_cmpR (op_eqUK (K := K) rfl hr.units) (pv 2) pe_str (nomark _))
 (pss_cons (ps_set (i := 5) sc_Lone_step.nd rfl (by first | exact Or.inl rfl | exact Or.inr rfl) (pe_tup (pa_cons (pv 3) (pa_cons (pe_ix (ix_seqK (K := K) rfl) (pv 1) pe_int (fun _ _ => rfl)) (pa_cons (pe_ix (ix_seqK (K := K) rfl) (pv 1) pe_int (fun _ _ => rfl)) (pa_cons (pe_ix (ix_seqK (K := K) rfl) (pv 4) pe_int (fun _ _ => rfl)) pa_nil))))))
 (pss_cons (ps_if (pt_cmpR op_notN (pe_callR F_Lreason (hr.mono (by first | decide | omega)) T.k_Lreason rfl T.g__law_reason passL (pa_cons (pv 5) pa_nil)) pe_non (nomark _))
 (pss_one (ps_ret (pe_lst (pa_cons pe_str (pa_cons (pe_callB (call_reprQ T.sysm hr.units hg) rfl T.n_repr (by decide +kernel) (pa_cons (pe_callR F_Lreason (hr.mono (by first | decide | omega)) T.k_Lreason rfl T.g__law_reason passL (pa_cons (pv 5) pa_nil)) pa_nil)) (pa_cons pe_bl pa_nil))))))
 pss_nil)
 (pss_one (ps_ret (pe_lc (own := [("_law_row", 6)]) rfl sc_Lone_step.nd (pi_anyK (K := K) rfl (pv 0)) (blkOk_by (own := [("_law_row", 6)]) (N := N_Lone_step) (sc := defScope s_Lone_step) (by decide +kernel)) (fun _ _ _ _ _ => (pg_name (i := 6) sc_Lone_step.nd rfl (by first | exact Or.inl rfl | exact Or.inr rfl))) (fun _ _ _ _ _ => pts_nil) (fun _ _ _ _ _ => (pe_ifExp (pt_cmpR (op_eqUK (K := K) rfl hr.units) (pe_ix (ix_seqK (K := K) rfl) (pv 6) pe_int (fun _ _ => rfl)) (pv 3) (nomark _)) (pv 5) (pv 6))))))))
 pss_nil)
 (pss_cons (ps_if (pt_not (pt_val (pe_callR F_Lis_in (hr.mono (by first | decide | omega)) T.k_Lis_in rfl T.g__law_is_in passL (pa_cons (pv 0) (pa_cons (pe_ix (ix_seqK (K := K) rfl) (pv 1) pe_int (fun _ _ => rfl)) pa_nil)))))
 (pss_one (ps_ret (pe_lst (pa_cons pe_str (pa_cons (pe_callB (call_reprQ T.sysm hr.units hg) rfl T.n_repr (by decide +kernel) (pa_cons (pe_ix (ix_seqK (K := K) rfl) (pv 1) pe_int (fun _ _ => rfl)) pa_nil)) (pa_cons pe_bl pa_nil))))))
 pss_nil)
 (pss_cons (ps_if (pt_cmpR (op_eqUK (K := K) rfl hr.units) (pe_ix (ix_seqK (K := K) rfl) (pv 1) pe_int (fun _ _ => rfl)) (pv 3) (nomark _))
 (pss_one (ps_ret (pe_lst (pa_cons pe_str (pa_cons (pe_callB (call_reprQ T.sysm hr.units hg) rfl T.n_repr (by decide +kernel) (pa_cons (pv 3) pa_nil)) (pa_cons pe_bl pa_nil))))))
 pss_nil)
 (pss_cons (ps_set (i := 7) sc_Lone_step.nd rfl (by first | exact Or.inl rfl | exact Or.inr rfl) (pe_callR F_Lrow_of (hr.mono (by first | decide | omega)) T.k_Lrow_of rfl T.g__law_row_of passL (pa_cons (pv 0) (pa_cons (pe_ix (ix_seqK (K := K) rfl) (pv 1) pe_int (fun _ _ => rfl)) pa_nil))))
 (pss_one (ps_ret (pe_lc (own := [("_law_row", 6)]) rfl sc_Lone_step.nd (pi_anyK (K := K) rfl (pv 0)) (blkOk_by (own := [("_law_row", 6)]) (N := N_Lone_step) (sc := defScope s_Lone_step) (by decide +kernel)) (fun _ _ _ _ _ => (pg_name (i := 6) sc_Lone_step.nd rfl (by first | exact Or.inl rfl | exact Or.inr rfl))) (fun _ _ _ _ _ => pts_nil) (fun _ _ _ _ _ => (pe_ifExp (pt_cmpR (op_eqUK (K := K) rfl hr.units) (pv 6) (pv 4) (nomark _)) (pv 7) (pe_ifExp (pt_cmpR (op_eqUK (K := K) rfl hr.units) (pv 6) (pv 7) (nomark _)) (pv 4) (pv 6)))))))))))))))), ?_⟩
    try dsimp only [cxOf]
    obtain ⟨z, v0, rest, e1⟩ : ∃ z v rest, act.vs = .str z :: v :: rest := by cases act <;> exact ⟨_, _, _, rfl⟩
    walk_at "go"
    refine r_ixT (SqT.of (show Hx t = some (.tup (.str z :: v0 :: rest)) by rw [ht, e1])) (atI_nat (j := 0) rfl) ?_
    walk_at "go"
    refine r_ixT (SqT.of (show Hx t = some (.tup (.str z :: v0 :: rest)) by rw [ht, e1])) (atI_nat (j := 1) rfl) ?_
    walk_at "go"
    refine ⟨by show 2 ≤ 16777216; decide, fun t0 ht0 => ?_⟩
    have g0 := Gr.new (o := .tup [.str z, v0]) ht0
    refine r_gtup upd_same rfl ?_
    have hp := g0.e _ _ hp
    have hrow := hrow.ext g0.e
    have ht := g0.e _ _ ht
    have hact : ∀ v ∈ Act.vs act, It B (upd Hx t0 (.tup [.str z, v0])) tv v := fun v hv => (hact v hv).ke (Ke.gr g0)
    have k := ResL.gr g0 k
    generalize upd Hx t0 (.tup [.str z, v0]) = H at hp hrow ht hact k ⊢
    clear g0 ht0
    cases act with
    | come v1 v2 v3 v4 =>
      have ov1 := hact v1 m1
      have hkn : Act.Kn K H (.come v1 v2 v3 v4) := ⟨(hact v1 m1).kn, (hact v2 m2).kn, (hact v3 m3).kn, (hact v4 m4).kn⟩
      have e1 : [V.str "come", v1, v2, v3, v4] = .str z :: v0 :: rest := e1
      injection e1 with e1 e2
      injection e2 with e2 _
      cases e1
      subst e2
      walk_at "go"
      refine r_iteD (fun _ => ?_) fun h => absurd rfl h
      walk_at "go"
      refine r_slA ht (fun q => absurd q.1 (show ¬ HT.sIx 5 0 (some 1) = 0 from by decide)) fun t1 ht1 => ?_
      have ecut : cutV (Act.vs (.come v1 v2 v3 v4)) (some 1) none = [v1, v2, v3, v4] := rfl
      rw [ecut]
      have g1 := Gr.new (o := .tup [v1, v2, v3, v4]) ht1
      have h1 : (upd H t1 (.tup [v1, v2, v3, v4])) t1 = some (.tup [v1, v2, v3, v4]) := upd_same
      generalize upd H t1 (.tup [v1, v2, v3, v4]) = H1 at g1 h1 ⊢
      have kn1 := Act.Kn.ext g1.e hkn
      refine ⟨t1, v1, v2, v3, v4, rfl, h1, kn1, fun H2 g2 => ?_⟩
      have k : ResL tv H Q (match why v1 v2 v3 v4 with
        | some y => .bad .painter (.str y)
        | none => addR rs (rowOf v1 v2 v3 v4)) := k
      have g12 := g1.trans g2
      cases hw : why v1 v2 v3 v4 with
      | some y =>
        rw [hw] at k
        rw [whyV_some hw]
        walk_at "go"
        refine ⟨rfl, _, rfl, ?_⟩
        refine r_iteN (fun _ => ?_) fun e => by cases e
        walk_at "go"
        refine r_slA (g12.e _ _ ht) (fun q => absurd q.1 (show ¬ HT.sIx 5 0 (some 1) = 0 from by decide)) fun t3 ht3 => ?_
        rw [ecut]
        have g3 := Gr.new (o := .tup [v1, v2, v3, v4]) ht3
        have kn3 := Act.Kn.ext (g12.trans g3).e hkn
        refine ⟨t3, v1, v2, v3, v4, rfl, upd_same, kn3, fun H4 g4 => ?_⟩
        rw [whyV_some hw]
        walk_at "go"
        refine r_tv hT (why_sh hw) ?_
        walk_at "go"
        exact badL k ((g12.trans g3).trans g4)
      | none =>
        rw [hw] at k
        have ka : ResL tv H Q (addR rs (rowOf v1 v2 v3 v4)) := k
        clear k
        rw [whyV_none hw]
        obtain ⟨r, er, hnm, hno⟩ := why_none hw
        rw [rowOf_row er, addR_eq hnd] at ka
        have e1 : v1 = .str r.nm := by
          have e : [v1, v2, v3, v4] = [.str r.nm, .int r.day, .int r.post, .int r.pace] := er
          simp only [List.cons.injEq] at e
          exact e.1
        subst e1
        walk_at "go"
        refine ⟨rfl, _, rfl, ?_⟩
        refine r_iteN (fun e => absurd rfl e) fun _ => ?_
        walk_at "go"
        refine ⟨p, us, rs, _, rfl, g12.e _ _ hp, hrow.ext g12.e, by omega, It.kn (K := K) (ov1.ke (Ke.gr g12)), fun H3 g3 => ?_⟩
        have g13 := g12.trans g3
        refine ⟨_, rfl, ?_⟩
        cases hh : hasV rs (.str r.nm) with
        | true =>
          rw [if_pos hh] at ka
          refine r_iteT ?_
          walk_at "go"
          refine r_it (ov1.ke (Ke.gr g13)) ?_
          walk_at "go"
          exact badL ka g13
        | false =>
          rw [if_neg (by rw [hh]; decide)] at ka
          refine r_iteF ?_
          have hp3 := g13.e _ _ hp
          walk_at "go"
          rw [hrow.len]
          refine r_iteD (fun h40 => ?_) fun h40 => ?_
          · rw [if_pos (by omega)] at ka
            walk_at "go"
            refine r_slA (g13.e _ _ ht) (fun q => absurd q.1 (show ¬ HT.sIx 5 0 (some 1) = 0 from by decide)) fun t4 ht4 => ?_
            rw [ecut]
            have g4 := g13.then (o := .tup [.str r.nm, v2, v3, v4]) ht4
            have h4 : (upd H3 t4 (.tup [.str r.nm, v2, v3, v4])) t4 = some (.tup (rowV r)) := by rw [upd_same, er]
            generalize upd H3 t4 (.tup [.str r.nm, v2, v3, v4]) = H4 at g4 h4 ⊢
            walk_at "go"
            refine ⟨by show 1 ≤ 16777216; decide, fun q hq => ?_⟩
            have g5 := g4.then (o := .lst [.ref t4]) hq
            have h5 := (Gr.new (o := .lst [.ref t4]) hq).e _ _ h4
            have hq5 : (upd H4 q (.lst [.ref t4])) q = some (.lst [.ref t4]) := upd_same
            generalize upd H4 q (.lst [.ref t4]) = H5 at g5 h5 hq5 ⊢
            refine r_catL (g5.e _ _ hp) hq5 (by show us.length + 1 ≤ 16777216; omega) fun q2 hq2 => ?_
            have g6 := g5.then (o := .lst (us ++ [.ref t4])) hq2
            exact ka q2 _ _ g6 (g5.f _ hq2) upd_same (RowsAt.snoc ((Gr.new hq2).e _ _ h5) (hrow.ext g6.e))
          · rw [if_neg (by omega)] at ka
            walk_at "go"
            exact badL40 hT ka g13
    | leave v =>
      have ov1 := hact v m1
      have e1 : [V.str "leave", v] = .str z :: v0 :: rest := e1
      injection e1 with e1 e2
      injection e2 with e2 _
      cases e1
      subst e2
      walk_at "go"
      refine r_iteD (fun h => absurd h (by decide +kernel)) fun _ => ?_
      walk_at "go"
      refine ⟨p, us, rs, _, rfl, hp, hrow, by omega, ov1.kn, fun H1 g1 => ⟨_, rfl, ?_⟩⟩
      have k : ResL tv H Q (if hasV rs v = true then .ok (rs.filter fun r => decide (V.str r.nm ≠ v)) else .bad .unknown v) := k
      cases hh : hasV rs v with
      | false =>
        rw [if_neg (by rw [hh]; decide)] at k
        walk_at "go"
        refine r_it (ov1.ke (Ke.gr g1)) ?_
        walk_at "go"
        exact badL k g1
      | true =>
        rw [if_pos hh] at k
        obtain ⟨s, rfl⟩ : ∃ s, v = .str s := by
          cases v <;> try (cases hh)
          exact ⟨_, rfl⟩
        walk_at "go"
        refine r_iteD (fun _ => ?_) fun h => absurd rfl h
        walk_at "go"
        refine ⟨by show 1 ≤ 16777216; decide, fun q hq => ?_⟩
        have g2 := g1.then (o := .lst [.str s]) hq
        refine ⟨p, q, us, rs, s, rfl, g2.e _ _ hp, hrow.ext g2.e, by omega, upd_same, RowsQ.gr k g2⟩
    | move v v2 v3 =>
      have ov1 := hact v m1
      have hkn : Act.Kn K H (.move v v2 v3) := ⟨(hact v m1).kn, (hact v2 m2).kn, (hact v3 m3).kn⟩
      have e1 : [V.str "move", v, v2, v3] = .str z :: v0 :: rest := e1
      injection e1 with e1 e2
      injection e2 with e2 _
      cases e1
      subst e2
      walk_at "go"
      refine r_iteD (fun h => absurd h (by decide +kernel)) fun _ => ?_
      walk_at "go"
      refine ⟨p, us, rs, _, rfl, hp, hrow, by omega, hkn.1, fun H1 g1 => ⟨_, rfl, ?_⟩⟩
      have k : ResL tv H Q (match findR rs v with
        | none => .bad .unknown v
        | some r => match why v v2 v3 (.int r.pace) with
          | some y => .bad .painter (.str y)
          | none => .ok (rs.map (movR r (rowOf v v2 v3 (.int r.pace))))) := k
      cases hf : findR rs v with
      | none =>
        rw [hf] at k
        rw [findR_has hf]
        walk_at "go"
        refine r_it (ov1.ke (Ke.gr g1)) ?_
        walk_at "go"
        exact badL k g1
      | some r =>
        rw [hf] at k
        obtain ⟨rfl, hm, hh⟩ := findR_some hf
        rw [hh]
        walk_at "go"
        refine r_iteD (fun h => absurd h (by decide +kernel)) fun _ => ?_
        walk_at "go"
        refine ⟨p, us, rs, r, rfl, g1.e _ _ hp, hrow.ext g1.e, by omega, hm, hnd, fun t1 H2 g2 ht1 => ?_⟩
        have g12 := g1.trans g2
        walk_at "go"
        refine r_iteD (fun _ => ?_) fun h => absurd rfl h
        walk_at "go"
        refine r_ixT (SqT.of (g12.e _ _ ht)) (atI_nat (j := 2) rfl) ?_
        walk_at "go"
        refine r_ixT (SqT.of (g12.e _ _ ht)) (atI_nat (j := 3) rfl) ?_
        walk_at "go"
        refine r_ixT (SqT.of ht1) (atI_nat (j := 3) rfl) ?_
        walk_at "go"
        refine ⟨by show 4 ≤ 16777216; decide, fun t2 ht2 => ?_⟩
        have g3 := g12.then (o := .tup [.str r.nm, v2, v3, .int r.pace]) ht2
        have h3 : (upd H2 t2 (.tup [.str r.nm, v2, v3, .int r.pace])) t2 = some (.tup [.str r.nm, v2, v3, .int r.pace]) := upd_same
        generalize upd H2 t2 (.tup [.str r.nm, v2, v3, .int r.pace]) = H3 at g3 h3 ⊢
        have kn3 : Kn K H3 (.str r.nm) ∧ Kn K H3 v2 ∧ Kn K H3 v3 ∧ Kn K H3 (.int r.pace) := ⟨hkn.1.ext g3.e, hkn.2.1.ext g3.e, hkn.2.2.ext g3.e, trivial⟩
        walk_at "go"
        refine ⟨t2, _, _, _, _, rfl, h3, kn3, fun H4 g4 => ?_⟩
        have g34 := g3.trans g4
        have k : ResL tv H Q (match why (.str r.nm) v2 v3 (.int r.pace) with
          | some y => .bad .painter (.str y)
          | none => .ok (rs.map (movR r (rowOf (.str r.nm) v2 v3 (.int r.pace))))) := k
        cases hw : why (.str r.nm) v2 v3 (.int r.pace) with
        | some y =>
          rw [hw] at k
          rw [whyV_some hw]
          refine ⟨rfl, _, rfl, ?_⟩
          refine r_iteN (fun _ => ?_) fun e => by cases e
          walk_at "go"
          have kn4 : Kn K H4 (.str r.nm) ∧ Kn K H4 v2 ∧ Kn K H4 v3 ∧ Kn K H4 (.int r.pace) := ⟨hkn.1.ext g34.e, hkn.2.1.ext g34.e, hkn.2.2.ext g34.e, trivial⟩
          refine ⟨t2, _, _, _, _, rfl, g4.e _ _ h3, kn4, fun H5 g5 => ?_⟩
          rw [whyV_some hw]
          walk_at "go"
          refine r_tv hT (why_sh hw) ?_
          walk_at "go"
          exact badL k (g34.trans g5)
        | none =>
          rw [hw] at k
          rw [whyV_none hw]
          obtain ⟨row, er, hnm, hno⟩ := why_none hw
          have k : ResL tv H Q (.ok (rs.map (movR r row))) := by rw [rowOf_row er] at k; exact k
          have k : RowsQ H Q (rs.map (movR r row)) := k
          rw [er] at h3
          refine ⟨rfl, _, rfl, ?_⟩
          refine r_iteN (fun e => absurd rfl e) fun _ => ?_
          walk_at "go"
          refine r_iL ?_
          walk_at "go"
          have hp4 := g34.e _ _ hp
          have h34 := g4.e _ _ h3
          refine ⟨_, rfl, ⟨_, SqL.of hp4⟩, fun D hD => ?_⟩
          refine lc_list (xs := us) (fun i H' => Gr H4 H' ∧ ∃ ws, H' D = some (.lst ws) ∧ ws.length = i ∧ RowsAt H4 ws ((rs.take i).map (movR r row))) ⟨Gr.new hD, [], upd_same, rfl, by rw [List.take_zero]; trivial⟩ (fun i H' hi ⟨g, _⟩ => SqL.of (g.e _ _ hp4)) (fun i x H' hx ⟨g, ws, hd, hwl, hws⟩ => ?_) fun H' ⟨g, ws, hd, hwl, hws⟩ => ?_
          · obtain ⟨u, r1, hr1, rfl, hu⟩ := hrow.at hx
            have hil := (List.getElem?_eq_some_iff.mp hx).1
            have hu4 := g34.e _ _ hu
            walk_at "go"
            refine ⟨rfl, ?_⟩
            walk_at "go"
            refine r_ixT (SqT.of (g.e _ _ hu4)) (atI_nat (j := 0) rfl) ?_
            walk_at "go"
            refine r_iteD (fun e => ?_) fun e => ?_
            · walk_at "go"
              refine ⟨ws, hd, by show _ < 16777216; omega, g.mut hD, ws ++ [.ref t2], upd_same, by rw [List.length_append, List.length_singleton]; omega, rows_map hws hr1 ?_⟩
              unfold movR
              rw [if_pos e]
              exact h34
            · walk_at "go"
              refine ⟨ws, hd, by show _ < 16777216; omega, g.mut hD, ws ++ [.ref u], upd_same, by rw [List.length_append, List.length_singleton]; omega, rows_map hws hr1 ?_⟩
              unfold movR
              rw [if_neg e]
              exact hu4
          · rw [List.take_of_length_le (by rw [hrow.len]; exact Nat.le_refl _)] at hws
            exact k D ws _ (g34.trans g) (g34.f _ hD) hd (hws.ext g.e)
    | swap v1 v2 =>
      have ov1 := hact v1 m1
      have ov2 := hact v2 m2
      have hkn : Act.Kn K H (.swap v1 v2) := ⟨(hact v1 m1).kn, (hact v2 m2).kn⟩
      have e1 : [V.str "swap", v1, v2] = .str z :: v0 :: rest := e1
      injection e1 with e1 e2
      injection e2 with e2 _
      cases e1
      subst e2
      walk_at "go"
      refine r_iteD (fun h => absurd h (by decide +kernel)) fun _ => ?_
      walk_at "go"
      refine ⟨p, us, rs, _, rfl, hp, hrow, by omega, hkn.1, fun H1 g1 => ⟨_, rfl, ?_⟩⟩
      have k : ResL tv H Q (match findR rs v1 with
        | none => .bad .unknown v1
        | some a => match findR rs v2 with
          | none => .bad .unknown v2
          | some b => if a.nm = b.nm then .bad .twice v1 else .ok (rs.map (swapR a b))) := k
      cases hf : findR rs v1 with
      | none =>
        rw [hf] at k
        rw [findR_has hf]
        walk_at "go"
        refine r_it (ov1.ke (Ke.gr g1)) ?_
        walk_at "go"
        exact badL k g1
      | some a =>
        rw [hf] at k
        obtain ⟨rfl, hma, hh⟩ := findR_some hf
        rw [hh]
        walk_at "go"
        refine r_iteD (fun h => absurd h (by decide +kernel)) fun _ => ?_
        walk_at "go"
        refine ⟨p, us, rs, a, rfl, g1.e _ _ hp, hrow.ext g1.e, by omega, hma, hnd, fun t1 H2 g2 ht1 => ?_⟩
        have g12 := g1.trans g2
        walk_at "go"
        refine r_iteD (fun h => absurd h (by decide +kernel)) fun _ => ?_
        walk_at "go"
        refine r_ixT (SqT.of (g12.e _ _ ht)) (atI_nat (j := 2) rfl) ?_
        refine ⟨p, us, rs, _, rfl, g12.e _ _ hp, hrow.ext g12.e, by omega, hkn.2.ext g12.e, fun H3 g3 => ⟨_, rfl, ?_⟩⟩
        have g13 := g12.trans g3
        have k : ResL tv H Q (match findR rs v2 with
          | none => .bad .unknown v2
          | some b => if a.nm = b.nm then .bad .twice (.str a.nm) else .ok (rs.map (swapR a b))) := k
        cases hf2 : findR rs v2 with
        | none =>
          rw [hf2] at k
          rw [findR_has hf2]
          walk_at "go"
          refine r_ixT (SqT.of (g13.e _ _ ht)) (atI_nat (j := 2) rfl) ?_
          walk_at "go"
          refine r_it (ov2.ke (Ke.gr g13)) ?_
          walk_at "go"
          exact badL k g13
        | some b =>
          rw [hf2] at k
          obtain ⟨rfl, hmb, hh2⟩ := findR_some hf2
          rw [hh2]
          have k : ResL tv H Q (if a.nm = b.nm then .bad .twice (.str a.nm) else .ok (rs.map (swapR a b))) := k
          walk_at "go"
          refine r_ixT (SqT.of (g13.e _ _ ht)) (atI_nat (j := 2) rfl) ?_
          walk_at "go"
          refine r_iteD (fun e => ?_) fun e => ?_
          · rw [if_pos e.symm] at k
            walk_at "go"
            refine r_it (ov1.ke (Ke.gr g13)) ?_
            walk_at "go"
            exact badL k g13
          · rw [if_neg (fun z => e z.symm)] at k
            have k : RowsQ H Q (rs.map (swapR a b)) := k
            walk_at "go"
            refine r_ixT (SqT.of (g13.e _ _ ht)) (atI_nat (j := 2) rfl) ?_
            refine ⟨p, us, rs, b, rfl, g13.e _ _ hp, hrow.ext g13.e, by omega, hmb, hnd, fun t2 H4 g4 ht2 => ?_⟩
            have g14 := g13.trans g4
            have ht1' := g4.e _ _ (g3.e _ _ ht1)
            have hp4 := g14.e _ _ hp
            walk_at "go"
            refine r_iL ?_
            walk_at "go"
            refine ⟨_, rfl, ⟨_, SqL.of hp4⟩, fun D hD => ?_⟩
            refine lc_list (xs := us) (fun i H' => Gr H4 H' ∧ ∃ ws, H' D = some (.lst ws) ∧ ws.length = i ∧ RowsAt H4 ws ((rs.take i).map (swapR a b))) ⟨Gr.new hD, [], upd_same, rfl, by rw [List.take_zero]; trivial⟩ (fun i H' hi ⟨g, _⟩ => SqL.of (g.e _ _ hp4)) (fun i x H' hx ⟨g, ws, hd, hwl, hws⟩ => ?_) fun H' ⟨g, ws, hd, hwl, hws⟩ => ?_
            · obtain ⟨u, r1, hr1, rfl, hu⟩ := hrow.at hx
              have hil := (List.getElem?_eq_some_iff.mp hx).1
              have hu4 := g14.e _ _ hu
              have hm1 := List.mem_of_getElem? hr1
              walk_at "go"
              refine ⟨rfl, ?_⟩
              walk_at "go"
              refine r_eqRow hok hm1 hma (g.e _ _ hu4) (g.e _ _ ht1') ⟨_, rfl, r_iteD (fun e1 => ?_) fun e1 => ?_⟩
              · walk_at "go"
                refine ⟨ws, hd, by show _ < 16777216; omega, g.mut hD, ws ++ [.ref t2], upd_same, by rw [List.length_append, List.length_singleton]; omega, rows_map hws hr1 ?_⟩
                unfold swapR
                rw [if_pos e1]
                exact ht2
              · walk_at "go"
                refine r_eqRow hok hm1 hmb (g.e _ _ hu4) (g.e _ _ ht2) ⟨_, rfl, r_iteD (fun e2 => ?_) fun e2 => ?_⟩
                · walk_at "go"
                  refine ⟨ws, hd, by show _ < 16777216; omega, g.mut hD, ws ++ [.ref t1], upd_same, by rw [List.length_append, List.length_singleton]; omega, rows_map hws hr1 ?_⟩
                  unfold swapR
                  rw [if_neg e1, if_pos e2]
                  exact ht1'
                · walk_at "go"
                  refine ⟨ws, hd, by show _ < 16777216; omega, g.mut hD, ws ++ [.ref u], upd_same, by rw [List.length_append, List.length_singleton]; omega, rows_map hws hr1 ?_⟩
                  unfold swapR
                  rw [if_neg e1, if_neg e2]
                  exact hu4
            · rw [List.take_of_length_le (by rw [hrow.len]; exact Nat.le_refl _)] at hws
              exact k D ws _ (g14.trans g) (g14.f _ hD) hd (hws.ext g.e)
end
end Tx

set_option maxRecDepth 100000
set_option maxHeartbeats 4000000
namespace Tx
open PySem PySem.Spec PyProof.Rows L2 My LamX
section
variable {P : Program} {w : World} {K : PySem.W.Frag} {mg : Str → Option Value} {base : Heap}
/-! ### _law_steps -/
theorem addR_ok {rs q : List Rw} {r : Rw} (h : RowsOk rs) (hn : IsNm r.nm) (ho : NumOk r) (e : addR rs r = .ok q) : RowsOk q := by
  unfold addR at e
  cases hd : dup ((rs ++ [r]).map Rw.nm) with
  | some n => rw [hd] at e; cases e
  | none =>
    rw [hd] at e
    have e : (if 40 < (rs ++ [r]).length then Res.bad .many (.int 40) else .ok (rs ++ [r])) = .ok q := e
    split at e
    · cases e
    · rename_i hl
      cases e
      exact ⟨h.1.snoc ho, dup_none hd, fun x hx => by
        rcases List.mem_append.mp hx with hx | hx
        · exact h.2.2.1 x hx
        · rw [List.mem_singleton.mp hx]; exact hn, by omega⟩
theorem stepA_ok {rs q : List Rw} {a : Act} (h : RowsOk rs) (e : stepA rs a = .ok q) : RowsOk q := by
  cases a with
  | come v1 v2 v3 v4 =>
    have e : (match why v1 v2 v3 v4 with
      | some y => Res.bad .painter (.str y)
      | none => addR rs (rowOf v1 v2 v3 v4)) = .ok q := e
    cases hw : why v1 v2 v3 v4 with
    | some y => rw [hw] at e; cases e
    | none =>
      rw [hw] at e
      obtain ⟨r, er, hn, ho⟩ := why_none hw
      have e : addR rs (rowOf v1 v2 v3 v4) = .ok q := e
      rw [rowOf_row er] at e
      exact addR_ok h hn ho e
  | leave v =>
    have e : (if hasV rs v = true then Res.ok (rs.filter fun r => decide (V.str r.nm ≠ v)) else .bad .unknown v) = .ok q := e
    split at e
    · cases e
      exact RowsOk.filter h _
    · cases e
  | move v v2 v3 =>
    have e : (match findR rs v with
      | none => Res.bad .unknown v
      | some r => match why v v2 v3 (.int r.pace) with
        | some y => .bad .painter (.str y)
        | none => .ok (rs.map (movR r (rowOf v v2 v3 (.int r.pace))))) = .ok q := e
    cases hf : findR rs v with
    | none => rw [hf] at e; cases e
    | some r =>
      rw [hf] at e
      have e : (match why v v2 v3 (.int r.pace) with
        | some y => Res.bad .painter (.str y)
        | none => .ok (rs.map (movR r (rowOf v v2 v3 (.int r.pace))))) = .ok q := e
      cases hw : why v v2 v3 (.int r.pace) with
      | some y => rw [hw] at e; cases e
      | none =>
        rw [hw] at e
        obtain ⟨row, er, hn, ho⟩ := why_none hw
        have e : Res.ok (rs.map (movR r (rowOf v v2 v3 (.int r.pace)))) = .ok q := e
        rw [rowOf_row er] at e
        cases e
        obtain ⟨rfl, _, _⟩ := findR_some hf
        have e2 : [V.str r.nm, v2, v3, .int r.pace] = [.str row.nm, .int row.day, .int row.post, .int row.pace] := er
        simp only [List.cons.injEq, V.str.injEq] at e2
        exact RowsOk.mov h hn ho e2.1.symm
  | swap v1 v2 =>
    have e : (match findR rs v1 with
      | none => Res.bad .unknown v1
      | some a => match findR rs v2 with
        | none => .bad .unknown v2
        | some b => if a.nm = b.nm then .bad .twice v1 else .ok (rs.map (swapR a b))) = .ok q := e
    cases hf : findR rs v1 with
    | none => rw [hf] at e; cases e
    | some a =>
      rw [hf] at e
      have e : (match findR rs v2 with
        | none => Res.bad .unknown v2
        | some b => if a.nm = b.nm then .bad .twice v1 else .ok (rs.map (swapR a b))) = .ok q := e
      cases hf2 : findR rs v2 with
      | none => rw [hf2] at e; cases e
      | some b =>
        rw [hf2] at e
        have e : (if a.nm = b.nm then Res.bad .twice v1 else .ok (rs.map (swapR a b))) = .ok q := e
        split at e
        · cases e
        · cases e
          exact RowsOk.swap h (findR_some hf).2.1 (findR_some hf2).2.1
theorem stepsA_ok {q : List Rw} : ∀ {l : List Act} {rs : List Rw}, RowsOk rs → stepsA rs l = .ok q → RowsOk q
  | [], rs, h, e => by cases e; exact h
  | a :: l, rs, h, e => by
    rw [stepsA_cons] at e
    cases hs : stepA rs a with
    | ok p =>
      rw [hs] at e
      exact stepsA_ok (stepA_ok h hs) e
    | bad c v => rw [hs] at e; cases e
/-- as ResL, the list of the start may come back -/
def ResM (tv : V → Str) (H : Hp) (p : Addr) (Q : VK) : Res → Prop
  | .ok rs => ∀ r us H1, Gr H H1 → (H r = none ∨ r = p) → H1 r = some (.lst us) → RowsAt H1 us rs → Q (.ref r) H1
  | .bad c v => ResL tv H Q (.bad c v)
def spLSteps (K : PySem.W.Frag) : Sp := fun vs H Q _ => ∃ B tv p q us rs avs ts, vs = [.ref p, .ref q] ∧ H p = some (.lst us) ∧ RowsAt H us rs ∧ RowsOk rs ∧ H q = some (.lst ts) ∧ AvsAt B H tv ts avs ∧ TvOk tv ∧ ResM tv H p Q (stepsW rs avs)
theorem ok_lsteps (T : Tx K mg) : FnG P w K mg base (L2.CX P w) 4 (a_Lsteps K) (spLSteps K) := by
  have F_Lis_action := ok_lisa (P := P) (w := w) (base := base) T
  have F_Lone_step := ok_lone (P := P) (w := w) (base := base) T
  refine fnG_of T.f_Lsteps sc_Lsteps (fun _ _ _ _ _ _ us hl => match us, hl with | [_, _], _ => rfl) (fun vs H Q E h => ?_) fun A outer s H vs Q E cdv hg hr h => ?_
  · obtain ⟨B, tv, p, q, us, rs, avs, ts, rfl, _⟩ := h
    rfl
  · obtain ⟨B, tv, p, q, us, rs, avs, ts, rfl, hp, hrow, hok, hq, has, hT, k⟩ := h
    have hln := R2At.len has
    refine ⟨_, (pss_cons (ps_for (passes_of rfl) rfl (pi_anyK (K := K) rfl (pv 1)) (pg_name (i := 2) sc_Lsteps.nd rfl (by first | exact Or.inl rfl | exact Or.inr rfl))
 (pss_one (ps_if (pt_not (pt_val (pe_callR F_Lis_action (hr.mono (by first | decide | omega)) T.k_Lis_action rfl T.g__law_is_action passL (pa_cons (pv 2) pa_nil))))
 (pss_one (ps_ret (pe_lst (pa_cons pe_str (pa_cons (pe_callB (call_reprQ T.sysm hr.units hg) rfl T.n_repr (by decide +kernel) (pa_cons (pv 2) pa_nil)) (pa_cons pe_bl pa_nil))))))
 pss_nil)))
 (pss_cons (ps_for (passes_of rfl) rfl (pi_anyK (K := K) rfl (pv 1)) (pg_name (i := 2) sc_Lsteps.nd rfl (by first | exact Or.inl rfl | exact Or.inr rfl))
 (pss_cons (ps_set (i := 0) sc_Lsteps.nd rfl (by first | exact Or.inl rfl | exact Or.inr rfl) (pe_callG F_Lone_step (hr.mono (by first | decide | omega)) hg T.k_Lone_step rfl T.g__law_one_step passL (pa_cons (pv 0) (pa_cons (pv 2) pa_nil))))
 (pss_one (ps_if (PW.pt (pw_and (pt_cmpR (op_ne0 (K := K) rfl hr.units0) (pv 0) (pe_lst pa_nil) (nomark _)) (pw_and1 (pt_val (pe_callB call_isi rfl T.n_isinstance (by decide +kernel) (pa_cons (pe_ix (ix_seqK (K := K) rfl) (pv 0) pe_int (fun _ _ => rfl)) (pa_cons (pe_bltn (v := .ty "str") rfl T.n_str (by decide +kernel) rfl) pa_nil)))))))
 (pss_one (ps_ret (pv 0)))
 pss_nil))))
 (pss_one (ps_ret (pv 0))))), ?_⟩
    try dsimp only [cxOf]
    walk_at "go"
    refine r_iL ?_
    walk_at "go"
    refine ⟨_, rfl, ⟨_, SqL.of hq⟩, ?_⟩
    refine for_list (xs := ts) (fun i σ' H' => ∃ o2, σ' = [some (.ref p), some (.ref q), o2] ∧ Gr H H' ∧ ∀ j a, j < i → avs[j]? = some a → ∃ x, a = Av.act x) ⟨_, rfl, Gr.refl _, fun j a h => absurd h (Nat.not_lt_zero j)⟩ (fun i σ' H' hi ⟨_, _, g, _⟩ => SqL.of (g.e _ _ hq)) (fun i v σ' H' hv ⟨o2, e, g, hall⟩ => ?_) fun σ' H' ⟨o2, e, g, hall⟩ => ?_
    · subst e
      obtain ⟨av, ha, hav⟩ := R2At.at has hv
      obtain ⟨hai, hae⟩ := List.getElem?_eq_some_iff.mp ha
      have hav1 := hav.ke (Ke.gr g)
      walk_at "go"
      refine ⟨v, isAct av, rfl, hav1.isR, fun H1 g1 => ⟨_, rfl, ?_⟩⟩
      cases av with
      | act x =>
        refine r_iteNT ?_
        walk_at "go"
        exact ⟨_, rfl, g.trans g1, fun j a hj e => by
          rcases Nat.lt_or_eq_of_le (Nat.le_of_lt_succ hj) with q | rfl
          · exact hall j a q e
          · rw [ha] at e
            exact ⟨x, (Option.some.inj e).symm⟩⟩
      | odd u =>
        have e1 : firstOdd avs = some u := by
          rw [← firstOdd_drop hall, List.drop_eq_getElem_cons hai, hae]
          rfl
        have e2 : stepsW rs avs = .bad .action u := by
          unfold stepsW
          rw [e1]
        rw [e2] at k
        have k : ResL tv H Q (.bad .action u) := k
        obtain ⟨rfl, hit, _⟩ := hav1
        refine r_iteNF ?_
        walk_at "go"
        refine r_it (hit.ke (Ke.gr g1)) ?_
        walk_at "go"
        exact badL k (g.trans g1)
    · subst e
      have e1 : firstOdd avs = none := by
        rw [← firstOdd_drop hall, List.drop_eq_nil_of_le (by omega)]
        rfl
      have e2 : stepsW rs avs = stepsA rs (actsOf avs) := by
        unfold stepsW
        rw [e1]
      rw [e2] at k
      have hlA := actsOf_len e1
      generalize hacts : actsOf avs = acts at k hlA
      walk_at "go"
      refine r_iL ?_
      walk_at "go"
      have hq1 := g.e _ _ hq
      refine ⟨_, rfl, ⟨_, SqL.of hq1⟩, ?_⟩
      refine for_list (xs := ts) (fun i σ' H2 => ∃ o2 r us' rs', σ' = [some (.ref r), some (.ref q), o2] ∧ Gr H' H2 ∧ (H r = none ∨ r = p) ∧ H2 r = some (.lst us') ∧ RowsAt H2 us' rs' ∧ RowsOk rs' ∧ stepsA rs' (acts.drop i) = stepsA rs acts) ⟨_, p, us, rs, rfl, Gr.refl _, .inr rfl, g.e _ _ hp, hrow.ext g.e, hok, rfl⟩ (fun i σ' H2 hi ⟨_, _, _, _, _, g2, _⟩ => SqL.of (g2.e _ _ hq1)) (fun i v σ' H2 hv ⟨o2, r, us', rs', e, g2, hr1, hr2, hr3, hr4, hst⟩ => ?_) fun σ' H2 ⟨o2, r, us', rs', e, g2, hr1, hr2, hr3, hr4, hst⟩ => ?_
      · subst e
        obtain ⟨av, hav0, hav⟩ := R2At.at has hv
        obtain ⟨a, rfl, ha⟩ := firstOdd_none e1 hav0
        rw [hacts] at ha
        obtain ⟨u, rfl, hu, hits⟩ := hav
        obtain ⟨hai, hae⟩ := List.getElem?_eq_some_iff.mp ha
        rw [List.drop_eq_getElem_cons hai, hae, stepsA_cons] at hst
        walk_at "go"
        have g12 := g.trans g2
        refine ⟨B, tv, r, u, us', rs', a, rfl, hr2, hr3, hr4, g12.e _ _ hu, fun x hx => (hits x hx).ke (Ke.gr g12), hT, ?_⟩
        cases e : stepA rs' a with
        | ok q2 =>
          rw [e] at hst
          intro r3 us3 H3 g3 hn3 h3 hrow3
          walk_at "go"
          refine ⟨by decide, fun q4 hq4 => ?_⟩
          have g4 := Gr.new (o := .lst []) hq4
          have h4 := g4.e _ _ h3
          have hrow4 := hrow3.ext g4.e
          refine r_ne0 (SqL.of h4) (SqL.of upd_same) ⟨_, rfl, ?_⟩
          generalize upd H3 q4 (.lst []) = H4 at g4 h4 hrow4 ⊢
          have fin : ∃ o2 r us' rs'_1, [some (V.ref r3), some (V.ref q), some (V.ref u)] = [some (.ref r), some (.ref q), o2] ∧ Gr H' H4 ∧ (H r = none ∨ r = p) ∧ H4 r = some (.lst us') ∧ RowsAt H4 us' rs'_1 ∧ RowsOk rs'_1 ∧ stepsA rs'_1 (acts.drop (i + 1)) = stepsA rs acts :=
            ⟨_, r3, us3, q2, rfl, (g2.trans g3).trans g4, .inl (g12.f _ hn3), h4, hrow4, stepA_ok hr4 e, hst⟩
          cases us3 with
          | nil =>
            refine r_iteF ?_
            walk_at "go"
            exact fin
          | cons u3 us3 =>
            refine r_iteT ?_
            walk_at "go"
            refine r_ixL (SqL.of h4) (atI_nat (j := 0) rfl) ?_
            walk_at "go"
            obtain ⟨t5, r5, _, rfl, h5⟩ := hrow4.at (i := 0) rfl
            refine r_isi (isT_str h5) ⟨_, rfl, ?_⟩
            refine r_iteF ?_
            walk_at "go"
            exact fin
        | bad c v =>
          rw [e] at hst
          rw [← hst] at k
          have k : ∀ q H1, Gr H H1 → H q = none → H1 q = some (.lst [.str c.word, .str (tv v), .bl true]) → Q (.ref q) H1 := k
          intro r3 H3 g3 hn3 h3
          walk_at "go"
          refine ⟨by decide, fun q4 hq4 => ?_⟩
          have g4 := Gr.new (o := .lst []) hq4
          have h4 := g4.e _ _ h3
          refine r_ne0 (SqL.of h4) (SqL.of upd_same) ⟨_, rfl, ?_⟩
          generalize upd H3 q4 (.lst []) = H4 at g4 h4 ⊢
          refine r_iteT ?_
          walk_at "go"
          refine r_ixL (SqL.of h4) (atI_nat (j := 0) rfl) ?_
          walk_at "go"
          refine r_isi kit_str.1 ⟨_, rfl, ?_⟩
          refine r_iteT ?_
          walk_at "go"
          exact k _ _ ((g12.trans g3).trans g4) (g12.f _ hn3) h4
      · subst e
        rw [List.drop_eq_nil_of_le (by omega)] at hst
        rw [← hst] at k
        have k : ∀ r us H1, Gr H H1 → (H r = none ∨ r = p) → H1 r = some (.lst us) → RowsAt H1 us rs' → Q (.ref r) H1 := k
        walk_at "go"
        exact k _ _ _ (g.trans g2) hr1 hr2 hr3
/-! ### _law_act -/
theorem ActP.gr {E : XK} {H H1 : Hp} {Q : Hp → Prop} {y D : Addr} {sts wts : List Stp} {ts : List V} (g : Gr H H1) : ∀ {r : Res}, ActP K E H Q y D sts wts ts r → ActP K E H1 Q y D sts wts ts r
  | .ok _, h => fun H2 k2 hy => h H2 ((Gr.kx g).trans k2) hy
  | .bad _ _, h => Err.gr h g
def spLAct (K : PySem.W.Frag) : Sp := fun vs H Q E => ∃ B tv y D q sts wts avs ts, vs = [.ref y, .ref q] ∧ YAt K H y D sts wts ∧ sts.length < 10000000 ∧ H q = some (.lst ts) ∧ AvsAt B H tv ts avs ∧ ts.length ≤ 6 ∧ ActP K E H (Q .non) y D sts wts ts (stepsW (lastR sts) avs)
theorem act_call {B : Hp} {tv : V → Str} {E : XK} {H : Hp} {Q : VK} {y D : Addr} {sts wts : List Stp} {avs : List Av} {ts : List V} (hy : YAt K H y D sts wts) (hl : sts.length < 10000000) (has : AvsAt B H tv ts avs) (h6 : ts.length ≤ 6) (k : ActP K E H (Q .non) y D sts wts ts (stepsW (lastR sts) avs)) :
    ∃ ws rest, V.ref y :: ts = ws ++ rest ∧ ws.length = 1 ∧ rest.length ≤ sizeLine ∧ ∀ p, H p = none → spAct K (ws ++ [V.ref p]) (upd H p (.tup rest)) Q E := by
  refine ⟨[.ref y], ts, rfl, rfl, by show _ ≤ 16777216; omega, fun p hp => ?_⟩
  have g := Gr.new (o := .tup ts) hp
  exact ⟨B, tv, y, D, p, sts, wts, avs, ts, rfl, hy.gr g, hl, upd_same, AvsAt.ke (Ke.gr g) has, ActP.gr g k⟩
theorem ok_lact (T : Tx K mg) (D0 : DPA K w) : FnR PP w K mg base (CXn PP w) 10 (a_Lact K) (spLAct K) := by
  have F_Yard_act := ok_act (w := w) (base := base) T D0
  refine fnR_of T.f_Lact sc_Lact (fun _ _ _ _ _ _ us hl => match us, hl with | [_, _], _ => rfl) (fun vs H Q E h => ?_) fun A outer s H vs Q E cdv hr h => ?_
  · obtain ⟨B, tv, y, D, q, sts, wts, avs, ts, rfl, _⟩ := h
    rfl
  · obtain ⟨B, tv, y, D, q, sts, wts, avs, ts, rfl, hy, hl, hq, has, h6, k⟩ := h
    obtain ⟨dx, W, vs, ws, a1, _⟩ := id hy
    have fin := act_call (Q := Q) hy hl has h6 k
    refine ⟨_, (pss_cons (ps_if (pt_cmpR (op_eqUK (K := K) rfl hr.units) (pe_callB (call_lenUK (K := K) rfl) rfl T.n_len (by decide +kernel) (pa_cons (pv 1) pa_nil)) pe_int (nomark _))
 (pss_one (ps_ret (pe_methR0 (pv 0) T.cl_Yard T.me_Yard_act F_Yard_act (hr.mono (by first | decide | omega)) (passZ (Oc.takes_of Oc.zn_ok rfl rfl rfl rfl)))))
 pss_nil)
 (pss_cons (ps_if (pt_cmpR (op_eqUK (K := K) rfl hr.units) (pe_callB (call_lenUK (K := K) rfl) rfl T.n_len (by decide +kernel) (pa_cons (pv 1) pa_nil)) pe_int (nomark _))
 (pss_one (ps_ret (pe_methR (pv 0) T.cl_Yard T.me_Yard_act F_Yard_act (hr.mono (by first | decide | omega)) (passZ (Oc.takes_of Oc.zn_ok rfl rfl rfl rfl)) (pa_cons (pe_ix (ix_seqK (K := K) rfl) (pv 1) pe_int (fun _ _ => rfl)) pa_nil))))
 pss_nil)
 (pss_cons (ps_if (pt_cmpR (op_eqUK (K := K) rfl hr.units) (pe_callB (call_lenUK (K := K) rfl) rfl T.n_len (by decide +kernel) (pa_cons (pv 1) pa_nil)) pe_int (nomark _))
 (pss_one (ps_ret (pe_methR (pv 0) T.cl_Yard T.me_Yard_act F_Yard_act (hr.mono (by first | decide | omega)) (passZ (Oc.takes_of Oc.zn_ok rfl rfl rfl rfl)) (pa_cons (pe_ix (ix_seqK (K := K) rfl) (pv 1) pe_int (fun _ _ => rfl)) (pa_cons (pe_ix (ix_seqK (K := K) rfl) (pv 1) pe_int (fun _ _ => rfl)) pa_nil)))))
 pss_nil)
 (pss_cons (ps_if (pt_cmpR (op_eqUK (K := K) rfl hr.units) (pe_callB (call_lenUK (K := K) rfl) rfl T.n_len (by decide +kernel) (pa_cons (pv 1) pa_nil)) pe_int (nomark _))
 (pss_one (ps_ret (pe_methR (pv 0) T.cl_Yard T.me_Yard_act F_Yard_act (hr.mono (by first | decide | omega)) (passZ (Oc.takes_of Oc.zn_ok rfl rfl rfl rfl)) (pa_cons (pe_ix (ix_seqK (K := K) rfl) (pv 1) pe_int (fun _ _ => rfl)) (pa_cons (pe_ix (ix_seqK (K := K) rfl) (pv 1) pe_int (fun _ _ => rfl)) (pa_cons (pe_ix (ix_seqK (K := K) rfl) (pv 1) pe_int (fun _ _ => rfl)) pa_nil))))))
 pss_nil)
 (pss_cons (ps_if (pt_cmpR (op_eqUK (K := K) rfl hr.units) (pe_callB (call_lenUK (K := K) rfl) rfl T.n_len (by decide +kernel) (pa_cons (pv 1) pa_nil)) pe_int (nomark _))
 (pss_one (ps_ret (pe_methR (pv 0) T.cl_Yard T.me_Yard_act F_Yard_act (hr.mono (by first | decide | omega)) (passZ (Oc.takes_of Oc.zn_ok rfl rfl rfl rfl)) (pa_cons (pe_ix (ix_seqK (K := K) rfl) (pv 1) pe_int (fun _ _ => rfl)) (pa_cons (pe_ix (ix_seqK (K := K) rfl) (pv 1) pe_int (fun _ _ => rfl)) (pa_cons (pe_ix (ix_seqK (K := K) rfl) (pv 1) pe_int (fun _ _ => rfl)) (pa_cons (pe_ix (ix_seqK (K := K) rfl) (pv 1) pe_int (fun _ _ => rfl)) pa_nil)))))))
 pss_nil)
 (pss_cons (ps_if (pt_cmpR (op_eqUK (K := K) rfl hr.units) (pe_callB (call_lenUK (K := K) rfl) rfl T.n_len (by decide +kernel) (pa_cons (pv 1) pa_nil)) pe_int (nomark _))
 (pss_one (ps_ret (pe_methR (pv 0) T.cl_Yard T.me_Yard_act F_Yard_act (hr.mono (by first | decide | omega)) (passZ (Oc.takes_of Oc.zn_ok rfl rfl rfl rfl)) (pa_cons (pe_ix (ix_seqK (K := K) rfl) (pv 1) pe_int (fun _ _ => rfl)) (pa_cons (pe_ix (ix_seqK (K := K) rfl) (pv 1) pe_int (fun _ _ => rfl)) (pa_cons (pe_ix (ix_seqK (K := K) rfl) (pv 1) pe_int (fun _ _ => rfl)) (pa_cons (pe_ix (ix_seqK (K := K) rfl) (pv 1) pe_int (fun _ _ => rfl)) (pa_cons (pe_ix (ix_seqK (K := K) rfl) (pv 1) pe_int (fun _ _ => rfl)) pa_nil))))))))
 pss_nil)
 (pss_one (ps_ret (pe_methR (pv 0) T.cl_Yard T.me_Yard_act F_Yard_act (hr.mono (by first | decide | omega)) (passZ (Oc.takes_of Oc.zn_ok rfl rfl rfl rfl)) (pa_cons (pe_ix (ix_seqK (K := K) rfl) (pv 1) pe_int (fun _ _ => rfl)) (pa_cons (pe_ix (ix_seqK (K := K) rfl) (pv 1) pe_int (fun _ _ => rfl)) (pa_cons (pe_ix (ix_seqK (K := K) rfl) (pv 1) pe_int (fun _ _ => rfl)) (pa_cons (pe_ix (ix_seqK (K := K) rfl) (pv 1) pe_int (fun _ _ => rfl)) (pa_cons (pe_ix (ix_seqK (K := K) rfl) (pv 1) pe_int (fun _ _ => rfl)) (pa_cons (pe_ix (ix_seqK (K := K) rfl) (pv 1) pe_int (fun _ _ => rfl)) pa_nil))))))))))))))), ?_⟩
    try dsimp only [cxOf]
    walk_at "go"
    match ts, h6 with
    | [], _ =>
      refine r_iteD (fun _ => ?_) fun h => absurd rfl h
      walk_at "go"
      refine ⟨y, dx, _, rfl, a1, rfl, ?_⟩
      exact fin
    | [x0], _ =>
      refine r_iteD (fun h => absurd (show (1 : Int) = 0 from h) (by decide)) fun _ => ?_
      walk_at "go"
      refine r_iteD (fun _ => ?_) fun h => absurd rfl h
      walk_at "go"
      refine ⟨y, dx, _, rfl, a1, rfl, ?_⟩
      walk_at "go"
      refine r_ixL (SqL.of hq) (atI_nat (j := 0) rfl) ?_
      walk_at "go"
      exact fin
    | [x0, x1], _ =>
      refine r_iteD (fun h => absurd (show (2 : Int) = 0 from h) (by decide)) fun _ => ?_
      walk_at "go"
      refine r_iteD (fun h => absurd (show (2 : Int) = 1 from h) (by decide)) fun _ => ?_
      walk_at "go"
      refine r_iteD (fun _ => ?_) fun h => absurd rfl h
      walk_at "go"
      refine ⟨y, dx, _, rfl, a1, rfl, ?_⟩
      walk_at "go"
      refine r_ixL (SqL.of hq) (atI_nat (j := 0) rfl) ?_
      walk_at "go"
      refine r_ixL (SqL.of hq) (atI_nat (j := 1) rfl) ?_
      walk_at "go"
      exact fin
    | [x0, x1, x2], _ =>
      refine r_iteD (fun h => absurd (show (3 : Int) = 0 from h) (by decide)) fun _ => ?_
      walk_at "go"
      refine r_iteD (fun h => absurd (show (3 : Int) = 1 from h) (by decide)) fun _ => ?_
      walk_at "go"
      refine r_iteD (fun h => absurd (show (3 : Int) = 2 from h) (by decide)) fun _ => ?_
      walk_at "go"
      refine r_iteD (fun _ => ?_) fun h => absurd rfl h
      walk_at "go"
      refine ⟨y, dx, _, rfl, a1, rfl, ?_⟩
      walk_at "go"
      refine r_ixL (SqL.of hq) (atI_nat (j := 0) rfl) ?_
      walk_at "go"
      refine r_ixL (SqL.of hq) (atI_nat (j := 1) rfl) ?_
      walk_at "go"
      refine r_ixL (SqL.of hq) (atI_nat (j := 2) rfl) ?_
      walk_at "go"
      exact fin
    | [x0, x1, x2, x3], _ =>
      refine r_iteD (fun h => absurd (show (4 : Int) = 0 from h) (by decide)) fun _ => ?_
      walk_at "go"
      refine r_iteD (fun h => absurd (show (4 : Int) = 1 from h) (by decide)) fun _ => ?_
      walk_at "go"
      refine r_iteD (fun h => absurd (show (4 : Int) = 2 from h) (by decide)) fun _ => ?_
      walk_at "go"
      refine r_iteD (fun h => absurd (show (4 : Int) = 3 from h) (by decide)) fun _ => ?_
      walk_at "go"
      refine r_iteD (fun _ => ?_) fun h => absurd rfl h
      walk_at "go"
      refine ⟨y, dx, _, rfl, a1, rfl, ?_⟩
      walk_at "go"
      refine r_ixL (SqL.of hq) (atI_nat (j := 0) rfl) ?_
      walk_at "go"
      refine r_ixL (SqL.of hq) (atI_nat (j := 1) rfl) ?_
      walk_at "go"
      refine r_ixL (SqL.of hq) (atI_nat (j := 2) rfl) ?_
      walk_at "go"
      refine r_ixL (SqL.of hq) (atI_nat (j := 3) rfl) ?_
      walk_at "go"
      exact fin
    | [x0, x1, x2, x3, x4], _ =>
      refine r_iteD (fun h => absurd (show (5 : Int) = 0 from h) (by decide)) fun _ => ?_
      walk_at "go"
      refine r_iteD (fun h => absurd (show (5 : Int) = 1 from h) (by decide)) fun _ => ?_
      walk_at "go"
      refine r_iteD (fun h => absurd (show (5 : Int) = 2 from h) (by decide)) fun _ => ?_
      walk_at "go"
      refine r_iteD (fun h => absurd (show (5 : Int) = 3 from h) (by decide)) fun _ => ?_
      walk_at "go"
      refine r_iteD (fun h => absurd (show (5 : Int) = 4 from h) (by decide)) fun _ => ?_
      walk_at "go"
      refine r_iteD (fun _ => ?_) fun h => absurd rfl h
      walk_at "go"
      refine ⟨y, dx, _, rfl, a1, rfl, ?_⟩
      walk_at "go"
      refine r_ixL (SqL.of hq) (atI_nat (j := 0) rfl) ?_
      walk_at "go"
      refine r_ixL (SqL.of hq) (atI_nat (j := 1) rfl) ?_
      walk_at "go"
      refine r_ixL (SqL.of hq) (atI_nat (j := 2) rfl) ?_
      walk_at "go"
      refine r_ixL (SqL.of hq) (atI_nat (j := 3) rfl) ?_
      walk_at "go"
      refine r_ixL (SqL.of hq) (atI_nat (j := 4) rfl) ?_
      walk_at "go"
      exact fin
    | [x0, x1, x2, x3, x4, x5], _ =>
      refine r_iteD (fun h => absurd (show (6 : Int) = 0 from h) (by decide)) fun _ => ?_
      walk_at "go"
      refine r_iteD (fun h => absurd (show (6 : Int) = 1 from h) (by decide)) fun _ => ?_
      walk_at "go"
      refine r_iteD (fun h => absurd (show (6 : Int) = 2 from h) (by decide)) fun _ => ?_
      walk_at "go"
      refine r_iteD (fun h => absurd (show (6 : Int) = 3 from h) (by decide)) fun _ => ?_
      walk_at "go"
      refine r_iteD (fun h => absurd (show (6 : Int) = 4 from h) (by decide)) fun _ => ?_
      walk_at "go"
      refine r_iteD (fun h => absurd (show (6 : Int) = 5 from h) (by decide)) fun _ => ?_
      walk_at "go"
      refine ⟨y, dx, _, rfl, a1, rfl, ?_⟩
      walk_at "go"
      refine r_ixL (SqL.of hq) (atI_nat (j := 0) rfl) ?_
      walk_at "go"
      refine r_ixL (SqL.of hq) (atI_nat (j := 1) rfl) ?_
      walk_at "go"
      refine r_ixL (SqL.of hq) (atI_nat (j := 2) rfl) ?_
      walk_at "go"
      refine r_ixL (SqL.of hq) (atI_nat (j := 3) rfl) ?_
      walk_at "go"
      refine r_ixL (SqL.of hq) (atI_nat (j := 4) rfl) ?_
      walk_at "go"
      refine r_ixL (SqL.of hq) (atI_nat (j := 5) rfl) ?_
      walk_at "go"
      exact fin
    | _ :: _ :: _ :: _ :: _ :: _ :: _ :: _, h6 => simp only [List.length_cons] at h6; omega
end
end Tx

set_option maxRecDepth 100000
set_option maxHeartbeats 4000000
namespace Tx
open PySem PySem.Spec PyProof.Rows L2 My LamX
section
variable {P : Program} {w : World} {K : PySem.W.Frag} {mg : Str → Option Value} {base : Heap}
/-! ### what a list, a tuple of known things is shown by -/
theorem kit_sqT {H : Hp} {t : Addr} {xs : List V} (h : SqT K H t xs) : Kit K H (.ref t) "tuple" true := by
  rcases h with (h | ⟨o, h⟩) | ⟨o, its, n, h, c, _⟩
  · exact kit_tup h
  · exact ⟨_, .fTuple h, rfl⟩
  · exact ⟨_, .kTuple h c, rfl⟩
/-- data that may be shown: by a text so long, at most so deep -/
structure ShD (d : PyData) (n m : Nat) : Prop where
  sh : d.showable = true
  nd : d.hasDict = false
  dp : d.depth ≤ m
  ln : d.shown.length ≤ n
theorem rowD_sh {r : Rw} (h : IsNm r.nm) (hn : NumOk r) : ShD (rowD r) 1000 1 := ⟨rowD_show hn, rowD_dict r, (show max 0 (max 0 (max 0 (max 0 0))) + 1 ≤ 1 by decide), rowD_len h hn⟩
theorem ShD.all {n m : Nat} : ∀ {l : List PyData}, (∀ d ∈ l, ShD d n m) → PyData.showableAll l = true ∧ PyData.hasDictAll l = false ∧ PyData.depthAll l ≤ m ∧ piled (PyData.shownAll l) ≤ (n + 2) * l.length ∧ (PyData.shownAll l).length = l.length
  | [], _ => ⟨rfl, rfl, Nat.zero_le _, Nat.zero_le _, rfl⟩
  | d :: l, h => by
    have h0 := h d List.mem_cons_self
    obtain ⟨a1, a2, a3, a4, a5⟩ := ShD.all (l := l) fun x hx => h x (List.mem_cons_of_mem _ hx)
    refine ⟨?_, ?_, ?_, ?_, congrArg (· + 1) a5⟩
    · show (d.showable && PyData.showableAll l) = true
      rw [h0.sh, a1]
      rfl
    · show (d.hasDict || PyData.hasDictAll l) = false
      rw [h0.nd, a2]
      rfl
    · show max d.depth (PyData.depthAll l) ≤ m
      have := h0.dp
      omega
    · show piled (d.shown :: PyData.shownAll l) ≤ _
      rw [piled_cons, List.length_cons, Nat.mul_succ]
      have := h0.ln
      omega
theorem textFrom_le : ∀ (ts : List Str) (k : Nat) (acc : Str), (textFrom k acc ts).length ≤ acc.length + piled ts
  | [], k, acc => by show acc.length ≤ _; omega
  | t :: r, k, acc => by
    have h := textFrom_le r (k + 1) (acc ++ (if k > 0 then ", " else "" : String) ++ t)
    have e : (acc ++ (if k > 0 then ", " else "" : String) ++ t).length = acc.length + (if k > 0 then 2 else 0) + t.length := by
      rw [strLen_append, strLen_append]
      split <;> rfl
    rw [e] at h
    show (textFrom (k + 1) _ r).length ≤ _
    rw [piled_cons]
    have hb : (if k > 0 then 2 else 0 : Nat) ≤ 2 := by split <;> decide
    omega
theorem ShD.list {l : List PyData} {n m N : Nat} (h : ∀ d ∈ l, ShD d n m) (hN : (n + 2) * l.length + 2 ≤ N) : ShD (.list l) N (m + 1) := by
  obtain ⟨a1, a2, a3, a4, a5⟩ := ShD.all h
  refine ⟨a1, a2, (show PyData.depthAll l + 1 ≤ m + 1 by omega), ?_⟩
  show (textFrom 0 "[" (PyData.shownAll l) ++ "]").length ≤ N
  rw [strLen_append]
  have h1 := textFrom_le (PyData.shownAll l) 0 "["
  have e1 : ((("[" : String) : Str)).length = 1 := rfl
  have e2 : ((("]" : String) : Str)).length = 1 := rfl
  rw [e1] at h1
  rw [e2]
  omega
theorem ShD.tuple {l : List PyData} {n m N : Nat} (h : ∀ d ∈ l, ShD d n m) (hN : (n + 2) * l.length + 3 ≤ N) : ShD (.tuple l) N (m + 1) := by
  obtain ⟨a1, a2, a3, a4, a5⟩ := ShD.all h
  refine ⟨a1, a2, (show PyData.depthAll l + 1 ≤ m + 1 by omega), ?_⟩
  show (tupleText (PyData.shownAll l)).length ≤ N
  unfold tupleText
  rw [strLen_append, strLen_append]
  have e1 : ((("(" : String) : Str)).length = 1 := rfl
  have e3 : (((if (PyData.shownAll l).length == 1 then ",)" else ")" : String) : Str)).length ≤ 2 := by split <;> decide
  have e4 : (Str.join ", " (PyData.shownAll l)).length ≤ piled (PyData.shownAll l) := by
    by_cases hn : PyData.shownAll l = []
    · rw [hn]
      decide
    · have := join_length_add _ hn
      omega
  rw [e1]
  omega
theorem r_shd {H : Hp} {v : V} {d : PyData} {n m : Nat} {Q : VK} (hd : Dp K H v d) (h : ShD d n m) (hn : n ≤ 16777216) (hm : m ≤ 40) (q : Q (.str d.shown) H) : rReprD K [v] H Q :=
  ⟨v, d, rfl, hd, h.sh, h.nd, Nat.le_trans h.dp hm, Nat.le_trans h.ln hn, q⟩
theorem rows_dp {H : Hp} : ∀ {us : List V} {rs : List Rw}, RowsAt H us rs → DpAll K H us (rs.map rowD)
  | [], [], _ => .nil
  | u :: us, r :: rs, h => by
    obtain ⟨t, r', e, rfl, ht⟩ := h.at (i := 0) rfl
    have e : r = r' := by simpa using e
    subst e
    exact .cons (rowD_dp ht) (rows_dp (us := us) (rs := rs) h.2)
theorem rowsD_sh {rs : List Rw} (h : RowsOk rs) : ShD (.list (rs.map rowD)) 50000 2 := ShD.list (n := 1000) (m := 1) (fun d hd => by
  obtain ⟨r, hr, rfl⟩ := List.mem_map.mp hd
  exact rowD_sh (h.2.2.1 r hr) (h.1 r hr)) (by rw [List.length_map]; have := h.2.2.2; omega)
/-! ### _law_shows -/
def spShows (K : PySem.W.Frag) : Sp := fun vs H Q _ => ∃ f p us rs, vs = [.ref f, .ref p] ∧ FAt K H f rs ∧ H p = some (.lst us) ∧ RowsAt H us rs ∧ ∀ H1, Gr H H1 → Q (.bl true) H1
theorem ok_shows (T : Tx K mg) : FnG P w K mg base (L2.CX P w) 3 (a_Lshows K) (spShows K) := by
  have F_Fence_painters := ok_fps (P := P) (w := w) (base := base) T
  have F_Painter_name := ok_name (P := P) (w := w) (base := base) T
  have F_Painter_day := ok_day (P := P) (w := w) (base := base) T
  have F_Painter_post := ok_post (P := P) (w := w) (base := base) T
  have F_Painter_stride := ok_stride (P := P) (w := w) (base := base) T
  refine fnG_of T.f_Lshows sc_Lshows (fun _ _ _ _ _ _ us hl => match us, hl with | [_, _], _ => rfl) (fun vs H Q E h => ?_) fun A outer s H vs Q E cdv hg hr h => ?_
  · obtain ⟨f, p, us, rs, rfl, _⟩ := h
    rfl
  · obtain ⟨f, p, us, rs, rfl, hf, hp, hrow, k⟩ := h
    obtain ⟨dx, t0, d0, ps0, h1, _, _, _, hok⟩ := id hf
    have hul : us.length ≤ 40 := by rw [hrow.len]; exact hok.2.2.2
    refine ⟨_, (pss_cons (ps_if (PW.pt (pw_or (pt_not (pt_val (pe_callB call_isi rfl T.n_isinstance (by decide +kernel) (pa_cons (pv 0) (pa_cons (pe_glob (v := .ref (He.ga K "Fence")) rfl T.g_Fence rfl) pa_nil))))) (pw_or1 (pt_not (pt_val (pe_callB call_isi rfl T.n_isinstance (by decide +kernel) (pa_cons (pe_propR (pv 0) T.cl_Fence T.pr_Fence_painters F_Fence_painters (hr.mono (by first | decide | omega)) passL) (pa_cons (pe_bltn (v := .ty "tuple") rfl T.n_tuple (by decide +kernel) rfl) pa_nil))))))))
 (pss_one (ps_ret pe_bl))
 pss_nil)
 (pss_cons (ps_setLc (i := 2) (own := [("_law_one", 3)]) rfl sc_Lshows.nd rfl rfl (sw_true rfl rfl rfl (by decide +kernel)) (pi_anyK (K := K) rfl (pe_propR (pv 0) T.cl_Fence T.pr_Fence_painters F_Fence_painters (hr.mono (by first | decide | omega)) passL)) (blkOk_by (own := [("_law_one", 3)]) (N := N_Lshows) (sc := defScope s_Lshows) (by decide +kernel)) (fun _ _ _ _ _ => (pg_name (i := 3) sc_Lshows.nd rfl (by first | exact Or.inl rfl | exact Or.inr rfl))) (fun _ _ _ _ _ => pts_nil) (fun _ _ _ _ _ => (pe_tup (pa_cons (pe_propR (pv 3) T.cl_Painter T.pr_Painter_name F_Painter_name (hr.mono (by first | decide | omega)) passL) (pa_cons (pe_propR (pv 3) T.cl_Painter T.pr_Painter_day F_Painter_day (hr.mono (by first | decide | omega)) passL) (pa_cons (pe_propR (pv 3) T.cl_Painter T.pr_Painter_post F_Painter_post (hr.mono (by first | decide | omega)) passL) (pa_cons (pe_propR (pv 3) T.cl_Painter T.pr_Painter_stride F_Painter_stride (hr.mono (by first | decide | omega)) passL) pa_nil)))))))
 (pss_one (ps_ret (pe_cmpR (op_eqUK (K := K) rfl hr.units) (pe_callB (call_reprD hr hg) rfl T.n_repr (by decide +kernel) (pa_cons (pv 2) pa_nil)) (pe_callB (call_reprD hr hg) rfl T.n_repr (by decide +kernel) (pa_cons (pe_lc (own := [("_law_row", 4)]) rfl sc_Lshows.nd (pi_anyK (K := K) rfl (pv 1)) (blkOk_by (own := [("_law_row", 4)]) (N := N_Lshows) (sc := defScope s_Lshows) (by decide +kernel)) (fun _ _ _ _ _ => (pg_name (i := 4) sc_Lshows.nd rfl (by first | exact Or.inl rfl | exact Or.inr rfl))) (fun _ _ _ _ _ => pts_nil) (fun _ _ _ _ _ => (pe_callTy (call_tupleU (K := K) rfl rfl) rfl T.n_tuple (by decide +kernel) (pa_cons (pv 4) pa_nil)))) pa_nil)) (nomark _)))))), ?_⟩
    try dsimp only [cxOf]
    walk_at "go"
    refine ⟨_, _, _, _, _, rfl, .own _, .base (.ins h1 T.cl_Fence T.ii_Fence.ha T.ii_Fence.hn T.ii_Fence.htk T.ii_Fence.hm), T.ii_Fence.me, ⟨_, rfl, r_iteF ?_⟩⟩
    walk_at "go"
    refine ⟨f, dx, _, rfl, h1, f, rs, rfl, hf, fun t ps ht hps => ?_⟩
    walk_at "go"
    refine r_isi (kit_sqT ht) ⟨_, rfl, ?_⟩
    walk_at "go"
    refine r_iT ?_
    walk_at "go"
    refine ⟨f, dx, _, rfl, h1, f, rs, rfl, hf, fun t ps ht hps => ?_⟩
    have hpl : ps.length ≤ 40 := by rw [hps.len]; exact hok.2.2.2
    refine ⟨_, rfl, ⟨_, ht⟩, fun D hD => ?_⟩
    refine lc_tup (xs := ps) (fun i H' => Gr H H' ∧ ∃ ws, H' D = some (.lst ws) ∧ ws.length = i ∧ RowsAt H' ws (rs.take i)) ⟨Gr.new hD, [], upd_same, rfl, by rw [List.take_zero]; trivial⟩ (fun i H' hi ⟨g, _⟩ => ht.ext g.e) (fun i v H' hv ⟨g, ws, hd, hwl, hws⟩ => ?_) fun H' ⟨g, ws, hd, hwl, hws⟩ => ?_
    · obtain ⟨b, r, hr1, rfl, hp1⟩ := hps.at hv
      have hil := (List.getElem?_eq_some_iff.mp hv).1
      have hp2 := hp1.ext g.e
      obtain ⟨dy, u, j1, _⟩ := id hp2
      walk_at "go"
      refine ⟨rfl, ?_⟩
      walk_at "go"
      refine ⟨b, dy, _, rfl, j1, b, r, rfl, hp2, ?_⟩
      walk_at "go"
      refine ⟨b, dy, _, rfl, j1, b, r, rfl, hp2, ?_⟩
      walk_at "go"
      refine ⟨b, dy, _, rfl, j1, b, r, rfl, hp2, ?_⟩
      walk_at "go"
      refine ⟨b, dy, _, rfl, j1, b, r, rfl, hp2, ?_⟩
      walk_at "go"
      refine ⟨by show 4 ≤ 16777216; decide, fun q hq => ?_⟩
      have g2 := Gr.new (o := .tup [.str r.nm, .int r.day, .int r.post, .int r.pace]) hq
      have hd2 := g2.e _ _ hd
      refine ⟨ws, hd2, by show _ < 16777216; omega, (g.trans g2).mut hD, ws ++ [.ref q], upd_same, by rw [List.length_append, List.length_singleton]; omega, ?_⟩
      rw [List.take_add_one, hr1]
      exact RowsAt.snoc (by rw [upd_ne (Ne.symm (ne_of_none hd hq))]; exact upd_same) ((hws.ext g2.e).put hd2)
    · have hws : RowsAt H' ws rs := by
        rw [List.take_of_length_le (by rw [hps.len]; exact Nat.le_refl _)] at hws
        exact hws
      walk_at "go"
      refine r_shd (.lst (SqL.of hd) (rows_dp hws)) (rowsD_sh hok) (by decide) (by decide) ?_
      walk_at "go"
      refine r_iL ?_
      walk_at "go"
      have hp' := g.e _ _ hp
      refine ⟨_, rfl, ⟨_, SqL.of hp'⟩, fun D2 hD2 => ?_⟩
      refine lc_list (xs := us) (fun i H2 => Gr H' H2 ∧ ∃ ws, H2 D2 = some (.lst ws) ∧ ws.length = i ∧ RowsAt H' ws (rs.take i)) ⟨Gr.new hD2, [], upd_same, rfl, by rw [List.take_zero]; trivial⟩ (fun i H2 hi ⟨g2, _⟩ => SqL.of (g2.e _ _ hp')) (fun i v H2 hv ⟨g2, ws2, hd2, hwl2, hws2⟩ => ?_) fun H2 ⟨g2, ws2, hd2, hwl2, hws2⟩ => ?_
      · obtain ⟨u, r, hr1, rfl, hu⟩ := hrow.at hv
        have hil := (List.getElem?_eq_some_iff.mp hv).1
        have hu' := g.e _ _ hu
        walk_at "go"
        refine ⟨rfl, ?_⟩
        walk_at "go"
        refine .inr ⟨u, _, rfl, .inr ⟨SqT.of (g2.e _ _ hu'), ?_⟩⟩
        refine ⟨ws2, hd2, by show _ < 16777216; omega, g2.mut hD2, ws2 ++ [.ref u], upd_same, by rw [List.length_append, List.length_singleton]; omega, ?_⟩
        rw [List.take_add_one, hr1]
        exact RowsAt.snoc hu' hws2
      · have hws2 : RowsAt H' ws2 rs := by
          rw [List.take_of_length_le (by rw [hrow.len]; exact Nat.le_refl _)] at hws2
          exact hws2
        walk_at "go"
        refine r_shd (.lst (SqL.of hd2) (rows_dp (hws2.ext g2.e))) (rowsD_sh hok) (by decide) (by decide) ?_
        walk_at "go"
        rw [decide_eq_true rfl]
        exact k _ (g.trans g2)
/-! ### _law_drawn -/
end
end Tx

set_option maxRecDepth 100000
set_option maxHeartbeats 4000000
namespace Tx
open PySem PySem.Spec PyProof.Rows L2 My LamX
section
variable {P : Program} {w : World} {K : PySem.W.Frag} {mg : Str → Option Value} {base : Heap}
/-! ### _law_drawn -/
theorem v2m {a b v : V} (h : v ∈ [a, b]) : v = a ∨ v = b := by simpa using h
theorem v3m {a b c v : V} (h : v ∈ [a, b, c]) : v = a ∨ v = b ∨ v = c := by simpa using h
theorem act_ok {a : Act} (h : ∀ v ∈ a.vs, okV v) (hl : ∀ v, a = .leave v → ∃ s, v = .str s) : a.Ok := ⟨h, hl⟩
theorem nm_come : IsNm "come" := nmB_iff.mp (by decide +kernel)
theorem nm_leave : IsNm "leave" := nmB_iff.mp (by decide +kernel)
theorem nm_move : IsNm "move" := nmB_iff.mp (by decide +kernel)
theorem nm_swap : IsNm "swap" := nmB_iff.mp (by decide +kernel)
theorem okVs_nil : ∀ v ∈ ([] : List V), okV v := fun _ h => (List.not_mem_nil h).elim
theorem okVs_cons {a : V} {l : List V} (h : okV a) (r : ∀ v ∈ l, okV v) : ∀ v ∈ a :: l, okV v := fun v hv => by
  rcases List.mem_cons.mp hv with rfl | hv
  · exact h
  · exact r v hv
theorem Gr.penD {H H' : Hp} {z : PenI} {n : Nat} (g : Gr H H') (d : Pen H z n) : Pen H' z n := Gr.pen g d
def spDrawnA : Sp := fun vs H Q _ => ∃ z n p q us rs, ∃ names : List Str, vs = [.ref (PenI.a z), .ref p, .ref q] ∧ Pen H z n ∧ n + 1000 ≤ 10 ^ 17 ∧ H p = some (.lst us) ∧ RowsAt H us rs ∧ RowsOk rs ∧ H q = some (.lst (names.map V.str)) ∧ names ≠ [] ∧ names.length ≤ 900 ∧ (∀ x ∈ names, IsNm x) ∧
  Aft z H n 200 (fun v H1 => ∃ t act, v = .ref t ∧ H1 t = some (.tup (Act.vs act)) ∧ act.Ok) Q
theorem ok_drawn (T : Tx K mg) : FnR P w K mg base (L2.CX P w) 7 (a_Ldrawn K) spDrawnA := by
  have F_Ldraw := ok_draw (P := P) (w := w) (base := base) T
  have F_Lpick := ok_pick (P := P) (w := w) (base := base) T
  have F_Laround := ok_around (P := P) (w := w) (base := base) T
  refine fnR_of T.f_Ldrawn sc_Ldrawn (fun _ _ _ _ _ _ us hl => match us, hl with | [_, _, _], _ => rfl) (fun vs H Q E h => ?_) fun A outer s H vs Q E cdv hr h => ?_
  · obtain ⟨z, n, p, q, us, rs, names, rfl, _⟩ := h
    rfl
  · obtain ⟨z, n, p, q, us, rs, names, rfl, hp, hn, hu, hrow, hok, hq, hn0, hn9, hnm, k⟩ := h
    have hul : us.length ≤ 40 := by rw [hrow.len]; exact hok.2.2.2
    have hmn0 : names.map V.str ≠ [] := by simpa using hn0
    have hml : (names.map V.str).length ≤ 1000 := by rw [List.length_map]; omega
    refine ⟨_, (pss_cons (ps_par (i := 3) (j := 4) (by rfl) sc_Ldrawn.nd rfl rfl (by decide) rfl rfl (pa_cons (pe_callR F_Ldraw (hr.mono (by first | decide | omega)) T.k_Ldraw rfl T.g__law_draw passL (pa_cons (pv 0) (pa_cons pe_int pa_nil))) (pa_cons (pe_op (op_addUK (K := K) rfl) (pe_lc (own := [("_law_row", 5)]) rfl sc_Ldrawn.nd (pi_anyK (K := K) rfl (pv 1)) (blkOk_by (own := [("_law_row", 5)]) (N := N_Ldrawn) (sc := defScope s_Ldrawn) (by decide +kernel)) (fun _ _ _ _ _ => (pg_name (i := 5) sc_Ldrawn.nd rfl (by first | exact Or.inl rfl | exact Or.inr rfl))) (fun _ _ _ _ _ => pts_nil) (fun _ _ _ _ _ => (pe_ix (ix_seqK (K := K) rfl) (pv 5) pe_int (fun _ _ => rfl)))) (pe_lst (pa_cons (pe_callR F_Lpick (hr.mono (by first | decide | omega)) T.k_Lpick rfl T.g__law_pick passL (pa_cons (pv 0) (pa_cons (pv 2) pa_nil))) pa_nil))) pa_nil)) (by rfl))
 (pss_cons (ps_par (i := 6) (j := 7) (by rfl) sc_Ldrawn.nd rfl rfl (by decide) rfl rfl (pa_cons (pe_callR F_Lpick (hr.mono (by first | decide | omega)) T.k_Lpick rfl T.g__law_pick passL (pa_cons (pv 0) (pa_cons (pv 4) pa_nil))) (pa_cons (pe_callR F_Lpick (hr.mono (by first | decide | omega)) T.k_Lpick rfl T.g__law_pick passL (pa_cons (pv 0) (pa_cons (pv 4) pa_nil))) pa_nil)) (by rfl))
 (pss_cons (ps_set (i := 8) sc_Ldrawn.nd rfl (by first | exact Or.inl rfl | exact Or.inr rfl) (pe_callR F_Lpick (hr.mono (by first | decide | omega)) T.k_Lpick rfl T.g__law_pick passL (pa_cons (pv 0) (pa_cons (pe_lst (pa_cons (pe_callR F_Laround (hr.mono (by first | decide | omega)) T.k_Laround rfl T.g__law_around passL (pa_cons (pv 0) (pa_cons pe_int pa_nil))) (pa_cons (pe_callR F_Laround (hr.mono (by first | decide | omega)) T.k_Laround rfl T.g__law_around passL (pa_cons (pv 0) (pa_cons (pe_op op_pow pe_int pe_int) pa_nil))) pa_nil))) pa_nil))))
 (pss_cons (ps_set (i := 9) sc_Ldrawn.nd rfl (by first | exact Or.inl rfl | exact Or.inr rfl) (pe_op op_mulU (pe_callR F_Lpick (hr.mono (by first | decide | omega)) T.k_Lpick rfl T.g__law_pick passL (pa_cons (pv 0) (pa_cons (pe_lst (pa_cons pe_int (pa_cons (pe_un un_neg pe_int) pa_nil))) pa_nil))) (pe_op (op_addUK (K := K) rfl) pe_int (pe_callR F_Lpick (hr.mono (by first | decide | omega)) T.k_Lpick rfl T.g__law_pick passL (pa_cons (pv 0) (pa_cons (pe_lst (pa_cons (pe_callR F_Ldraw (hr.mono (by first | decide | omega)) T.k_Ldraw rfl T.g__law_draw passL (pa_cons (pv 0) (pa_cons pe_int pa_nil))) (pa_cons (pe_callR F_Ldraw (hr.mono (by first | decide | omega)) T.k_Ldraw rfl T.g__law_draw passL (pa_cons (pv 0) (pa_cons (pe_op op_pow pe_int pe_int) pa_nil))) pa_nil))) pa_nil))))))
 (pss_cons (ps_set (i := 10) sc_Ldrawn.nd rfl (by first | exact Or.inl rfl | exact Or.inr rfl) (pe_callR F_Lpick (hr.mono (by first | decide | omega)) T.k_Lpick rfl T.g__law_pick passL (pa_cons (pv 0) (pa_cons (pe_lst (pa_cons pe_int (pa_cons (pe_callR F_Ldraw (hr.mono (by first | decide | omega)) T.k_Ldraw rfl T.g__law_draw passL (pa_cons (pv 0) (pa_cons pe_int pa_nil))) (pa_cons (pe_callR F_Ldraw (hr.mono (by first | decide | omega)) T.k_Ldraw rfl T.g__law_draw passL (pa_cons (pv 0) (pa_cons (pe_op op_pow pe_int pe_int) pa_nil))) pa_nil)))) pa_nil))))
 (pss_cons (ps_if (PW.pt (pw_or (pt_cmpR (op_eq0 (K := K) rfl hr.units0) (pv 1) (pe_lst pa_nil) (nomark _)) (pw_or1 (pt_cmpR op_lt (pv 3) pe_int (nomark _)))))
 (pss_one (ps_ret (pe_tup (pa_cons pe_str (pa_cons (pe_callR F_Lpick (hr.mono (by first | decide | omega)) T.k_Lpick rfl T.g__law_pick passL (pa_cons (pv 0) (pa_cons (pv 2) pa_nil))) (pa_cons (pv 10) (pa_cons (pv 8) (pa_cons (pv 9) pa_nil))))))))
 pss_nil)
 (pss_cons (ps_if (pt_cmpR op_lt (pv 3) pe_int (nomark _))
 (pss_one (ps_ret (pe_tup (pa_cons pe_str (pa_cons (pv 6) (pa_cons (pv 10) (pa_cons (pv 8) pa_nil)))))))
 pss_nil)
 (pss_cons (ps_if (pt_cmpR op_lt (pv 3) pe_int (nomark _))
 (pss_one (ps_ret (pe_tup (pa_cons pe_str (pa_cons (pv 6) (pa_cons (pv 7) pa_nil))))))
 pss_nil)
 (pss_one (ps_ret (pe_tup (pa_cons pe_str (pa_cons (pv 6) pa_nil))))))))))))), ?_⟩
    try dsimp only [cxOf]
    walk_at "go"
    refine r_draw hp (by decide) (by decide) (by omega) fun way n1 H1 w0 w1 hn1 kp1 hp1 => ?_
    have hu1 := kp1.l hu
    have hrow1 := hrow.kp kp1
    have hq1 := kp1.l hq
    walk_at "go"
    refine r_iL ?_
    walk_at "go"
    refine ⟨_, rfl, ⟨_, SqL.of hu1⟩, fun D hD => ?_⟩
    refine lc_list (xs := us) (fun i H' => Gr H1 H' ∧ H' D = some (.lst (((rs.map Rw.nm).take i).map V.str))) ⟨Gr.new hD, upd_same⟩ (fun i H' hi ⟨g, _⟩ => SqL.of (g.e _ _ hu1)) (fun i x H' hx ⟨g, hd⟩ => ?_) fun H' ⟨g, hd⟩ => ?_
    · obtain ⟨t, r, hr1, rfl, ht⟩ := hrow1.at hx
      have hil := (List.getElem?_eq_some_iff.mp hx).1
      walk_at "go"
      refine ⟨rfl, ?_⟩
      walk_at "go"
      refine r_ixT (SqT.of (g.e _ _ ht)) (atI_nat (j := 0) rfl) ?_
      refine ⟨_, hd, by rw [List.length_map, List.length_take]; show _ < 16777216; omega, g.mut hD, ?_⟩
      rw [upd_same, List.take_add_one, List.getElem?_map, hr1]
      simp
    have hd : H' D = some (.lst ((rs.map Rw.nm).map V.str)) := by rw [hd, List.take_of_length_le (by rw [List.length_map, hrow1.len]; exact Nat.le_refl _)]
    walk_at "go"
    refine r_pickL (g.pen hp1) (SqL.of (g.e _ _ hq1)) hmn0 hml (by omega) fun v2 n2 H2 hv2 hn2 kp2 hp2 => ?_
    obtain ⟨x2, hx2, rfl⟩ := List.mem_map.mp hv2
    have ix2 := hnm x2 hx2
    have kpa := (kp1.trans g.kp).trans kp2
    have hd2 := kp2.l hd
    walk_at "go"
    refine ⟨by show 1 ≤ 16777216; decide, fun l3 hl3 => ?_⟩
    have g3 := Gr.new (o := .lst [.str x2]) hl3
    refine r_catL (g3.e _ _ hd2) upd_same (by rw [List.length_map, List.length_map]; show _ + 1 ≤ 16777216; have := hrow.len; omega) fun l4 hl4 => ?_
    have g4 := g3.then (o := .lst ((rs.map Rw.nm).map V.str ++ [.str x2])) hl4
    have h4 : (upd (upd H2 l3 (.lst [.str x2])) l4 (.lst ((rs.map Rw.nm).map V.str ++ [.str x2]))) l4 = some (.lst ((rs.map Rw.nm).map V.str ++ [.str x2])) := upd_same
    have hp4 := g4.pen hp2
    have kpb := kpa.trans g4.kp
    generalize upd (upd H2 l3 (.lst [.str x2])) l4 (.lst ((rs.map Rw.nm).map V.str ++ [.str x2])) = H4 at h4 hp4 kpb ⊢
    have hall : ∀ v ∈ (rs.map Rw.nm).map V.str ++ [V.str x2], ∃ x : Str, v = .str x ∧ IsNm x := fun v hv => by
      rcases List.mem_append.mp hv with hv | hv
      · obtain ⟨x, hx, rfl⟩ := List.mem_map.mp hv
        obtain ⟨r, hr, rfl⟩ := List.mem_map.mp hx
        exact ⟨_, rfl, hok.2.2.1 r hr⟩
      · exact ⟨x2, List.mem_singleton.mp hv, ix2⟩
    have hne : (rs.map Rw.nm).map V.str ++ [V.str x2] ≠ [] := by simp
    have hlen : ((rs.map Rw.nm).map V.str ++ [V.str x2]).length ≤ 1000 := by
      rw [List.length_append, List.length_map, List.length_map, List.length_singleton]
      have := hrow.len
      omega
    generalize (rs.map Rw.nm).map V.str ++ [V.str x2] = nl at h4 hall hne hlen
    clear hd hd2 g3 g4 hl3 hl4 kpa hD g hv2
    walk_at "go"
    refine r_pickL hp4 (SqL.of h4) hne hlen (by omega) fun v5 n5 H5 hv5 hn5 kp5 hp5 => ?_
    obtain ⟨x5, rfl, ix5⟩ := hall v5 hv5
    walk_at "go"
    refine r_pickL hp5 (SqL.of (kp5.l h4)) hne hlen (by omega) fun v6 n6 H6 hv6 hn6 kp6 hp6 => ?_
    obtain ⟨x6, rfl, ix6⟩ := hall v6 hv6
    have kpc := (kpb.trans kp5).trans kp6
    clear h4 kpb kp5 kp6 hp4 hp5 kp1 kp2 hp1 hp2
    walk_at "go"
    refine r_around hp6 (by decide) (by decide) (by omega) fun i7 n7 H7 a7 b7 hn7 kp7 hp7 => ?_
    walk_at "go"
    refine r_around hp7 (by decide) (by decide) (by omega) fun i8 n8 H8 a8 b8 hn8 kp8 hp8 => ?_
    walk_at "go"
    refine ⟨by show 2 ≤ 16777216; decide, fun l9 hl9 => ?_⟩
    have g9 := Gr.new (o := .lst [.int i7, .int i8]) hl9
    walk_at "go"
    refine r_pickL (g9.pen hp8) (SqL.of upd_same) (by simp) (by show 2 ≤ 1000; decide) (by omega) fun v10 n10 H10 hv10 hn10 kp10 hp10 => ?_
    have hpost : ∃ i, v10 = .int i ∧ -(10 ^ 30) ≤ i ∧ i ≤ 10 ^ 30 := by
      rcases v2m hv10 with rfl | rfl
      · exact ⟨_, rfl, by omega, by omega⟩
      · exact ⟨_, rfl, a8, b8⟩
    obtain ⟨post, rfl, po1, po2⟩ := hpost
    have kpd := (((kpc.trans kp7).trans kp8).trans g9.kp).trans kp10
    clear kpc kp7 kp8 kp10 hp6 hp7 hp8 g9 hl9 hv10
    walk_at "go"
    refine ⟨by show 2 ≤ 16777216; decide, fun l11 hl11 => ?_⟩
    have g11 := Gr.new (o := .lst [.int 1, .int (-1)]) hl11
    walk_at "go"
    refine r_pickL (g11.pen hp10) (SqL.of upd_same) (by simp) (by show 2 ≤ 1000; decide) (by omega) fun v12 n12 H12 hv12 hn12 kp12 hp12 => ?_
    obtain ⟨sg, rfl, hsg⟩ : ∃ s : Int, v12 = .int s ∧ (s = 1 ∨ s = -1) := by
      rcases v2m hv12 with rfl | rfl
      · exact ⟨_, rfl, .inl rfl⟩
      · exact ⟨_, rfl, .inr rfl⟩
    have kpe := (kpd.trans g11.kp).trans kp12
    clear kpd kp12 hp10 g11 hl11 hv12
    walk_at "go"
    refine r_draw hp12 (by decide) (by decide) (by omega) fun i13 n13 H13 a13 b13 hn13 kp13 hp13 => ?_
    walk_at "go"
    refine r_draw hp13 (by decide) (by decide) (by omega) fun i14 n14 H14 a14 b14 hn14 kp14 hp14 => ?_
    walk_at "go"
    refine ⟨by show 2 ≤ 16777216; decide, fun l15 hl15 => ?_⟩
    have g15 := Gr.new (o := .lst [.int i13, .int i14]) hl15
    walk_at "go"
    refine r_pickL (g15.pen hp14) (SqL.of upd_same) (by simp) (by show 2 ≤ 1000; decide) (by omega) fun v16 n16 H16 hv16 hn16 kp16 hp16 => ?_
    have b14' : i14 < 10 ^ 18 := b14
    obtain ⟨x16, rfl, c16, d16⟩ : ∃ x : Int, v16 = .int x ∧ 0 ≤ x ∧ x < 10 ^ 18 := by
      rcases v2m hv16 with rfl | rfl
      · exact ⟨_, rfl, by omega, by omega⟩
      · exact ⟨_, rfl, a14, b14'⟩
    have kpf := (((kpe.trans kp13).trans kp14).trans g15.kp).trans kp16
    clear kpe kp13 kp14 kp16 hp12 hp13 hp14 g15 hl15 hv16
    walk_at "go"
    have hst : -(10 ^ 18) ≤ sg * (1 + x16) ∧ sg * (1 + x16) ≤ 10 ^ 18 := by rcases hsg with rfl | rfl <;> omega
    generalize sg * (1 + x16) = stride at hst
    walk_at "go"
    refine r_draw hp16 (by decide) (by decide) (by omega) fun i17 n17 H17 a17 b17 hn17 kp17 hp17 => ?_
    walk_at "go"
    refine r_draw hp17 (by decide) (by decide) (by omega) fun i18 n18 H18 a18 b18 hn18 kp18 hp18 => ?_
    have b18' : i18 < 10 ^ 30 := b18
    walk_at "go"
    refine ⟨by show 3 ≤ 16777216; decide, fun l19 hl19 => ?_⟩
    have g19 := Gr.new (o := .lst [.int 0, .int i17, .int i18]) hl19
    walk_at "go"
    refine r_pickL (g19.pen hp18) (SqL.of upd_same) (by simp) (by show 3 ≤ 1000; decide) (by omega) fun v20 n20 H20 hv20 hn20 kp20 hp20 => ?_
    obtain ⟨day, rfl, c20, d20⟩ : ∃ x : Int, v20 = .int x ∧ 0 ≤ x ∧ x < 10 ^ 30 := by
      rcases v3m hv20 with rfl | rfl | rfl
      · exact ⟨_, rfl, by decide, by decide⟩
      · exact ⟨_, rfl, a17, by omega⟩
      · exact ⟨_, rfl, a18, b18'⟩
    have kpg := (((kpf.trans kp17).trans kp18).trans g19.kp).trans kp20
    clear kpf kp17 kp18 kp20 hp16 hp17 hp18 g19 hl19 hv20
    walk_at "go"
    have fin : ∀ (act : Act) n' H', act.Ok → n' ≤ n20 + 10 → Kp H20 H' → Pen H' z n' → ∀ t, H' t = none → Q (.ref t) (upd H' t (.tup act.vs)) := fun act n' H' ha hn' kp' hp' t ht =>
      k _ n' _ ⟨t, act, rfl, upd_same, ha⟩ (by omega) ((kpg.trans kp').then ht) (hp'.new ht)
    have oS : ∀ {x : Str}, IsNm x → okV (.str x) := fun h => h
    have oI : ∀ {i : Int}, -(10 ^ 31) ≤ i → i ≤ 10 ^ 31 → okV (.int i) := fun h1 h2 => ⟨h1, h2⟩
    have hu20 := kpg.l hu
    have hq20 := kpg.l hq
    refine ⟨by decide, fun e1 he1 => ?_⟩
    have ge := Gr.new (o := .lst []) he1
    refine r_eq0 (SqL.of (ge.e _ _ hu20)) (SqL.of upd_same) ⟨_, rfl, ?_⟩
    have hpe := ge.pen hp20
    have kpE : Kp H20 (upd H20 e1 (.lst [])) := ge.kp
    cases us with
    | nil =>
      refine r_iteT ?_
      walk_at "go"
      refine r_pickL (ge.pen hp20) (SqL.of (ge.e _ _ hq20)) hmn0 hml (by omega) fun v21 n21 H21 hv21 hn21 kp21 hp21 => ?_
      obtain ⟨x21, hx21, rfl⟩ := List.mem_map.mp hv21
      walk_at "go"
      refine ⟨by show 5 ≤ 16777216; decide, fun t ht => ?_⟩
      exact fin (.come (.str x21) (.int day) (.int post) (.int stride)) n21 H21 (act_ok (okVs_cons (oS nm_come) (okVs_cons (oS (hnm x21 hx21)) (okVs_cons (oI (by omega) (by omega)) (okVs_cons (oI (by omega) (by omega)) (okVs_cons (oI (by omega) (by omega)) okVs_nil))))) (fun _ h => nomatch h)) (by omega) (ge.kp.trans kp21) hp21 t ht
    | cons u0 us =>
      refine r_iteF ?_
      walk_at "go"
      refine r_iteD (fun hw => ?_) fun hw => ?_
      · walk_at "go"
        refine r_pickL (ge.pen hp20) (SqL.of (ge.e _ _ hq20)) hmn0 hml (by omega) fun v21 n21 H21 hv21 hn21 kp21 hp21 => ?_
        obtain ⟨x21, hx21, rfl⟩ := List.mem_map.mp hv21
        walk_at "go"
        refine ⟨by show 5 ≤ 16777216; decide, fun t ht => ?_⟩
        exact fin (.come (.str x21) (.int day) (.int post) (.int stride)) n21 H21 (act_ok (okVs_cons (oS nm_come) (okVs_cons (oS (hnm x21 hx21)) (okVs_cons (oI (by omega) (by omega)) (okVs_cons (oI (by omega) (by omega)) (okVs_cons (oI (by omega) (by omega)) okVs_nil))))) (fun _ h => nomatch h)) (by omega) (ge.kp.trans kp21) hp21 t ht
      walk_at "go"
      refine r_iteD (fun hw6 => ?_) fun hw6 => ?_
      · walk_at "go"
        refine ⟨by show 4 ≤ 16777216; decide, fun t ht => ?_⟩
        exact fin (.move (.str x5) (.int day) (.int post)) n20 _ (act_ok (okVs_cons (oS nm_move) (okVs_cons (oS ix5) (okVs_cons (oI (by omega) (by omega)) (okVs_cons (oI (by omega) (by omega)) okVs_nil)))) (fun _ h => nomatch h)) (by omega) kpE hpe t ht
      walk_at "go"
      refine r_iteD (fun hw8 => ?_) fun hw8 => ?_
      · walk_at "go"
        refine ⟨by show 3 ≤ 16777216; decide, fun t ht => ?_⟩
        exact fin (.swap (.str x5) (.str x6)) n20 _ (act_ok (okVs_cons (oS nm_swap) (okVs_cons (oS ix5) (okVs_cons (oS ix6) okVs_nil))) (fun _ h => nomatch h)) (by omega) kpE hpe t ht
      walk_at "go"
      refine ⟨by show 2 ≤ 16777216; decide, fun t ht => ?_⟩
      exact fin (.leave (.str x5)) n20 _ (act_ok (okVs_cons (oS nm_leave) (okVs_cons (oS ix5) okVs_nil)) (fun v h => ⟨x5, by cases h; rfl⟩)) (by omega) kpE hpe t ht
end
end Tx

set_option maxRecDepth 100000
set_option maxHeartbeats 4000000
namespace Tx
open PySem PySem.Spec PyProof.Rows L2 My LamX
section
variable {P : Program} {w : World} {K : PySem.W.Frag} {mg : Str → Option Value} {base : Heap}
/-! ### _law_told -/
theorem takes_len {X : Cx} {W : WX} (t : L2.Takes X W) : L2.Takes X (fun cls d σ H => σ.length = X.N.length → W cls d σ H) := fun u s' ⟨a, B, sI, pins, σ, H, cls, d, e, I, nb, up, sky, na, os, ag, w⟩ =>
  t u s' ⟨a, B, sI, pins, σ, H, cls, d, e, I, nb, up, sky, na, os, ag, w I.len⟩
/-- what is made of an error -/
def ShT (H : Hp) (v : V) (t : Str) : Prop := ∃ B d, Dq B H v d ∧ ShQ d 20000 6 ∧ t = d.shown
theorem r_sht {H : Hp} {v : V} {t : Str} {Q : VK} (h : ShT H v t) (q : Q (.str t) H) : rReprQ [v] H Q := by
  obtain ⟨B, d, h1, h2, rfl⟩ := h
  exact ⟨B, v, d, rfl, h1, h2.sh, Nat.le_trans h2.dp (by decide), Nat.le_trans h2.ln (by decide), q⟩
def toldE (K : PySem.W.Frag) (Q : VK) : XK := fun cls d H => ∃ dd c v t, d = some dd ∧ cls = Kd.cls K c ∧ H dd = some (.xd [(c.fld, v)]) ∧ ShT H v t ∧ ∀ p a, H a = none → H p = none → Q (.ref p) (upd H p (.lst [.str c.word, .str t, .bl true]))
def TTold (K : PySem.W.Frag) : (XK → Hp → VK → Prop) → Hp → VK → Prop := fun tl H Q => tl (toldE K Q) H (fun x H1 => 2 ≤ sizeLine ∧ ∀ p, H1 p = none → Q (.ref p) (upd H1 p (.lst [.str "made", x])))
theorem call_isOK {Y : Cx} {K : PySem.W.Frag} {C a : Addr} {f : Str} {oe : Obj} {cls : Value} {d : Option Addr} (hK : Y.K = K) (c : ExcC K C) (hz : Zc cls d oe) (hf : ∃ vs, oe.data = .fields vs) (hp : (a, oe) ∈ Y.pn) : CallR Y (.builtin "isinstance") (Ow.rIsO K f C a cls d) := by
  subst hK
  exact Ow.call_isO c hz hf hp
theorem pe_oxFK {Y : Cx} {K : PySem.W.Frag} {C a : Addr} {f : Str} {newId initId B : String} {tl : List Value} {oe : Obj} {cls : Value} {d : Option Addr} {e : Expr} {te : TE} {pos : Pos} (hK : Y.K = K) (hP : Y.prog = PP) (T : Ox.XTxt PP K C f newId initId B tl) (hz : Zc cls d oe) (hf : ∃ vs, oe.data = .fields vs) (hp : (a, oe) ∈ Y.pn) (he : PE Y e te)
    (hb : attributeBase e f Y.env (eval e Y.env) = eval e Y.env := by rfl) : PE Y (.Attribute e f pos) (Ow.tOxF C a f cls d te) := by
  subst hK
  rw [← hP] at T
  exact Ow.pe_oxF T hz hf hp he hb
theorem told_gives {X : Cx} (T : Tx X.K X.mg) (hP : X.prog = PP) {k : Nat} (hr : Room (k + 3) X.A) (hgd : X.A.guards = some []) {q : Str} {g : Addr} {cdg : Value} :
    GivesTo X N_Ltold "_law_told" (defScope s_Ltold) g cdg (defBody s_Ltold) "_law_call" q (TTold X.K) := by
  intro f c' s H Q tl act hc h
  have hr' : Room (k + 2) (X.A.deeper (envOfC "_law_told" (defScope s_Ltold) s.heap.objs.size g cdg)) := hr.deeper _
  have hg' : (X.A.deeper (envOfC "_law_told" (defScope s_Ltold) s.heap.objs.size g cdg)).guards = some [] := guards_deeper hgd
  refine ⟨_, pss_one (Ow.ps_try_asL (X := (cxOf C8.CX0 X.prog X.w X.K X.mg X.base N_Ltold "_law_told" (defScope s_Ltold) g cdg X.A X.stack s H C8.E0).nox) (n := "e") (i := 1) (Wout := fun _ _ _ _ => False)
      (tb := fun W D σ H => ∃ Ech : XK, (∀ cls d σ' H', Ech cls d H' → σ'.length = 2 → W cls d σ' H') ∧ σ[0]? = some (some (.ref f)) ∧ H c' = some (CodeO c' q) ∧
        tl Ech H (fun x H1 => 2 ≤ sizeLine ∧ ∀ p, H1 p = none → D.rt (.ref p) (upd H1 p (.lst [.str "made", x]))))
      rfl rfl sc_Ltold.nd rfl rfl LamX.takes0 (fun W pn xe tk _ => ?_)
      (Ow.HdsAs.cons (c := xIA X.K) ⟨rfl, by decide, .inl T.g_InvalidAction⟩ (fun a oe cls d pn hz hf => pss_one (ps_ret (pe_lst (pa_cons pe_str (pa_cons (pe_callB (call_reprQ T.sysm hr'.units hg') rfl T.n_repr (by decide +kernel) (pa_cons (pe_oxFK (K := X.K) rfl hP T.x_InvalidAction hz hf List.mem_cons_self (pv 1)) pa_nil)) (pa_cons (pe_callB (call_isOK (K := X.K) (f := "value") rfl T.ec_InvalidAction hz hf List.mem_cons_self) rfl T.n_isinstance (by decide +kernel) (pa_cons (pv 1) (pa_cons (pe_bltn (v := .ty "ValueError") rfl T.n_ValueError (by decide +kernel) rfl) pa_nil))) pa_nil))))))
      (Ow.HdsAs.cons (c := xIP X.K) ⟨rfl, by decide, .inl T.g_InvalidPainter⟩ (fun a oe cls d pn hz hf => pss_one (ps_ret (pe_lst (pa_cons pe_str (pa_cons (pe_callB (call_reprQ T.sysm hr'.units hg') rfl T.n_repr (by decide +kernel) (pa_cons (pe_oxFK (K := X.K) rfl hP T.x_InvalidPainter hz hf List.mem_cons_self (pv 1)) pa_nil)) (pa_cons (pe_callB (call_isOK (K := X.K) (f := "reason") rfl T.ec_InvalidPainter hz hf List.mem_cons_self) rfl T.n_isinstance (by decide +kernel) (pa_cons (pv 1) (pa_cons (pe_bltn (v := .ty "ValueError") rfl T.n_ValueError (by decide +kernel) rfl) pa_nil))) pa_nil))))))
      (Ow.HdsAs.cons (c := xDN X.K) ⟨rfl, by decide, .inl T.g_DuplicateName⟩ (fun a oe cls d pn hz hf => pss_one (ps_ret (pe_lst (pa_cons pe_str (pa_cons (pe_callB (call_reprQ T.sysm hr'.units hg') rfl T.n_repr (by decide +kernel) (pa_cons (pe_oxFK (K := X.K) rfl hP T.x_DuplicateName hz hf List.mem_cons_self (pv 1)) pa_nil)) (pa_cons (pe_callB (call_isOK (K := X.K) (f := "value") rfl T.ec_DuplicateName hz hf List.mem_cons_self) rfl T.n_isinstance (by decide +kernel) (pa_cons (pv 1) (pa_cons (pe_bltn (v := .ty "ValueError") rfl T.n_ValueError (by decide +kernel) rfl) pa_nil))) pa_nil))))))
      (Ow.HdsAs.cons (c := xTM X.K) ⟨rfl, by decide, .inl T.g_TooMany⟩ (fun a oe cls d pn hz hf => pss_one (ps_ret (pe_lst (pa_cons pe_str (pa_cons (pe_callB (call_reprQ T.sysm hr'.units hg') rfl T.n_repr (by decide +kernel) (pa_cons (pe_oxFK (K := X.K) rfl hP T.x_TooMany hz hf List.mem_cons_self (pv 1)) pa_nil)) (pa_cons (pe_callB (call_isOK (K := X.K) (f := "limit") rfl T.ec_TooMany hz hf List.mem_cons_self) rfl T.n_isinstance (by decide +kernel) (pa_cons (pv 1) (pa_cons (pe_bltn (v := .ty "OverflowError") rfl T.n_OverflowError (by decide +kernel) rfl) pa_nil))) pa_nil))))))
      (Ow.HdsAs.cons (c := xUN X.K) ⟨rfl, by decide, .inl T.g_UnknownName⟩ (fun a oe cls d pn hz hf => pss_one (ps_ret (pe_lst (pa_cons pe_str (pa_cons (pe_callB (call_reprQ T.sysm hr'.units hg') rfl T.n_repr (by decide +kernel) (pa_cons (pe_oxFK (K := X.K) rfl hP T.x_UnknownName hz hf List.mem_cons_self (pv 1)) pa_nil)) (pa_cons (pe_callB (call_isOK (K := X.K) (f := "value") rfl T.ec_UnknownName hz hf List.mem_cons_self) rfl T.n_isinstance (by decide +kernel) (pa_cons (pv 1) (pa_cons (pe_bltn (v := .ty "KeyError") rfl T.n_KeyError (by decide +kernel) rfl) pa_nil))) pa_nil))))))
      (Ow.HdsAs.cut fun _ _ _ _ z => z))))))), ?_⟩
  · refine ⟨fun pins s' σ H' D I h' => ?_⟩
    obtain ⟨Ech, hW, h1, h2, h3⟩ := h'
    refine (pss_one (ps_ret (pe_lst (pa_cons pe_str (pa_cons (act (fun cls d σ H => σ.length = 2 → W cls d σ H) pn xe Ech _ _ (takes_len tk) hW) pa_nil))))).run pins s' σ H' D I ?_
    exact ⟨h1, h2, h3⟩
  · refine ⟨toldE X.K Q, fun cls d σ' H' ⟨dd, c, v, t, ed, ec, hv, hsh, k⟩ hl => ?_, rfl, hc, h⟩
    subst ed ec
    obtain ⟨o0, o1, rfl⟩ : ∃ o0 o1, σ' = [o0, o1] := by
      match σ', hl with
      | [a, b], _ => exact ⟨a, b, rfl⟩
    cases c with
    | painter =>
      refine ⟨false, T.xm_InvalidPainter_InvalidAction, fun z => (nomatch z), fun _ => ?_⟩
      refine ⟨true, T.xm_InvalidPainter_InvalidPainter, fun _ a ha => ?_, fun z => nomatch z⟩
      refine ⟨_, rfl, rfl, rfl, dd, v, rfl, hv, ?_⟩
      walk_at "go"
      refine r_sht hsh ?_
      exact ⟨_, rfl, _, _, true, rfl, fun u h => h, rfl, ⟨dd, v, rfl, hv⟩, T.kt_InvalidPainter_ValueError, (by show 3 ≤ 16777216; decide), fun p hp => k p a ha hp⟩
    | twice =>
      refine ⟨false, T.xm_DuplicateName_InvalidAction, fun z => (nomatch z), fun _ => ?_⟩
      refine ⟨false, T.xm_DuplicateName_InvalidPainter, fun z => (nomatch z), fun _ => ?_⟩
      refine ⟨true, T.xm_DuplicateName_DuplicateName, fun _ a ha => ?_, fun z => nomatch z⟩
      refine ⟨_, rfl, rfl, rfl, dd, v, rfl, hv, ?_⟩
      walk_at "go"
      refine r_sht hsh ?_
      exact ⟨_, rfl, _, _, true, rfl, fun u h => h, rfl, ⟨dd, v, rfl, hv⟩, T.kt_DuplicateName_ValueError, (by show 3 ≤ 16777216; decide), fun p hp => k p a ha hp⟩
    | many =>
      refine ⟨false, T.xm_TooMany_InvalidAction, fun z => (nomatch z), fun _ => ?_⟩
      refine ⟨false, T.xm_TooMany_InvalidPainter, fun z => (nomatch z), fun _ => ?_⟩
      refine ⟨false, T.xm_TooMany_DuplicateName, fun z => (nomatch z), fun _ => ?_⟩
      refine ⟨true, T.xm_TooMany_TooMany, fun _ a ha => ?_, fun z => nomatch z⟩
      refine ⟨_, rfl, rfl, rfl, dd, v, rfl, hv, ?_⟩
      walk_at "go"
      refine r_sht hsh ?_
      exact ⟨_, rfl, _, _, true, rfl, fun u h => h, rfl, ⟨dd, v, rfl, hv⟩, T.kt_TooMany_OverflowError, (by show 3 ≤ 16777216; decide), fun p hp => k p a ha hp⟩
    | unknown =>
      refine ⟨false, T.xm_UnknownName_InvalidAction, fun z => (nomatch z), fun _ => ?_⟩
      refine ⟨false, T.xm_UnknownName_InvalidPainter, fun z => (nomatch z), fun _ => ?_⟩
      refine ⟨false, T.xm_UnknownName_DuplicateName, fun z => (nomatch z), fun _ => ?_⟩
      refine ⟨false, T.xm_UnknownName_TooMany, fun z => (nomatch z), fun _ => ?_⟩
      refine ⟨true, T.xm_UnknownName_UnknownName, fun _ a ha => ?_, fun z => nomatch z⟩
      refine ⟨_, rfl, rfl, rfl, dd, v, rfl, hv, ?_⟩
      walk_at "go"
      refine r_sht hsh ?_
      exact ⟨_, rfl, _, _, true, rfl, fun u h => h, rfl, ⟨dd, v, rfl, hv⟩, T.kt_UnknownName_KeyError, (by show 3 ≤ 16777216; decide), fun p hp => k p a ha hp⟩
    | action =>
      refine ⟨true, T.xm_InvalidAction_InvalidAction, fun _ a ha => ?_, fun z => nomatch z⟩
      refine ⟨_, rfl, rfl, rfl, dd, v, rfl, hv, ?_⟩
      walk_at "go"
      refine r_sht hsh ?_
      exact ⟨_, rfl, _, _, true, rfl, fun u h => h, rfl, ⟨dd, v, rfl, hv⟩, T.kt_InvalidAction_ValueError, (by show 3 ≤ 16777216; decide), fun p hp => k p a ha hp⟩
end
end Tx

set_option maxRecDepth 100000
set_option maxHeartbeats 4000000
namespace My
open PySem PySem.Spec PyProof.Rows L2
section
variable {P : Program} {w : World} {K : PySem.W.Frag} {mg : Str → Option Value} {base : Heap} {CX : CXT} {k : Nat} {f : Addr} {sp : Sp} {x qual : Str} {params : Arguments} {body : List Stmt} {scope : Scope} {N ps : List Str}
theorem codeAt_of {oc : Value} {od : Option Addr} {fd : FuncData} {osl : Array (Option Value)} {q : Str} (lk : K.lookup f = some ⟨oc, od, .func fd, osl⟩) (hc : PySem.W.codeIn K fd.code q = true) : fd.code = .ref (Hk.codeAt K f) := by
  unfold Hk.codeAt
  rw [lk]
  cases e : fd.code with
  | ref c =>
    show Value.ref c = Value.ref (match fd.code with | Value.ref c => c | _ => 0)
    rw [e]
  | _ => rw [e] at hc; cases hc
/-- a law's def that makes lambdas: its code object is known -/
theorem fnG_ofT (F : ∃ fd, FunD K x qual params body scope [] [] f fd) (S : FnScope N ps scope)
    (hb : ∀ (kV doc pm : Value) (an : Option Addr) (cdv ct : Value) (us : List Value), us.length = ps.length → bindArgs (PySem.W.fnOf x qual params body scope .none kV doc pm an cdv ct) ⟨us, []⟩ = pure (ps.zip us))
    (len : ∀ vs H Q E, sp vs H Q E → vs.length = ps.length)
    (hbody : ∀ (A : Around) (outer : List Env) (s : Shared) (H : Hp) (vs : List V) (Q : VK) (E : XK) (cdv : Value), cdv = .ref (Hk.codeAt K f) → (A.deeper (envOfC qual scope s.heap.objs.size f cdv)).guards = some [] → Room k (A.deeper (envOfC qual scope s.heap.objs.size f cdv)) → sp vs H Q E →
      ∃ t, PSs (cxOf CX P w K mg base N qual scope f cdv A outer s H E) body t ∧ t { nx := fun _ H' => Q .non H', rt := Q } (start N vs) H) :
    FnG P w K mg base CX (k + 1) f sp := by
  obtain ⟨fd, F⟩ := F
  obtain ⟨oc, od, dV, kV, doc, pm, an, cdv, ct, osl, rfl, lk, hcd, hd, hk⟩ := F.ex
  have ec : cdv = .ref (Hk.codeAt K f) := codeAt_of lk hcd
  intro A outer s H us vs Q E hr hg e0 r hsp
  rcases hd with ⟨_, hd⟩ | ⟨hd, _⟩
  · subst hd
    have hl : us.length = ps.length := by rw [← r.length]; exact len _ _ _ _ hsp
    refine StX.run_bnd lk hcd S hr e0 (G := fun ws H2 => ws = vs ∧ H2 = H) (fun A' Ex Q' h => ?_) fun s2 H2 ws hw hr' => ?_
    · obtain ⟨ds, rd, hbt⟩ := bindsR_all (hb kV doc pm an cdv ct) s us (e0.mod.kin.keeps fun b o e => (e0.bs b o e).1) hl
      cases rd
      rw [List.append_nil] at hbt
      refine hbt _ A' Ex _ ?_
      exact h s H vs us e0 Un.refl rfl (fun _ _ z => z) r (len _ _ _ _ hsp) ⟨rfl, rfl⟩
    · obtain ⟨e1, e2⟩ := hw
      subst e1 e2
      exact hbody A outer s2 _ ws Q E cdv ec (guards_deeper hg) hr' hsp
  · exact absurd rfl hd
end
end My
namespace Tx
open PySem PySem.Spec PyProof.Rows L2 My LamX
section
variable {P : Program} {w : World} {K : PySem.W.Frag} {mg : Str → Option Value} {base : Heap}
theorem It.shT {B H : Hp} {tv : V → Str} {v : V} (h : It B H tv v) : ShT H v (tv v) := by
  obtain ⟨_, d, h1, h2, h3⟩ := h
  exact ⟨B, d, h1, h2, h3⟩
theorem shK_shT {H : Hp} {tv : V → Str} {v : V} (hT : TvOk tv) (h : shK v) : ShT H v (tv v) := by
  obtain ⟨d, h1, h2, h3⟩ := shK_data (B := H) (H := H) h
  exact ⟨H, d, h1, ⟨h2.sh, Nat.le_trans h2.dp (by decide), Nat.le_trans h2.ln (by decide), h2.ch⟩, by rw [hT v h, h3]⟩
theorem stepA_bad {rs : List Rw} {a : Act} {c : Kd} {v : V} (h : RowsOk rs) (e : stepA rs a = .bad c v) : v ∈ a.vs ∨ shK v := by
  have h40 : shK (.int 40) := .inr ⟨40, rfl, by decide, by decide⟩
  cases a with
  | come v1 v2 v3 v4 =>
    have e : (match why v1 v2 v3 v4 with
      | some y => Res.bad .painter (.str y)
      | none => addR rs (rowOf v1 v2 v3 v4)) = .bad c v := e
    cases hw : why v1 v2 v3 v4 with
    | some y => rw [hw] at e; cases e; exact .inr (why_sh hw)
    | none =>
      rw [hw] at e
      obtain ⟨r, er, hn, ho⟩ := why_none hw
      have e : addR rs (rowOf v1 v2 v3 v4) = .bad c v := e
      rw [rowOf_row er, addR_eq h.2.1] at e
      split at e
      · cases e; exact .inr (okV.sh (v := .str r.nm) hn)
      · split at e
        · cases e
        · cases e; exact .inr h40
  | leave u =>
    have e : (if hasV rs u = true then Res.ok (rs.filter fun r => decide (V.str r.nm ≠ u)) else .bad .unknown u) = .bad c v := e
    split at e
    · cases e
    · cases e; exact .inl m1
  | move u v2 v3 =>
    have e : (match findR rs u with
      | none => Res.bad .unknown u
      | some r => match why u v2 v3 (.int r.pace) with
        | some y => .bad .painter (.str y)
        | none => .ok (rs.map (movR r (rowOf u v2 v3 (.int r.pace))))) = .bad c v := e
    cases hf : findR rs u with
    | none => rw [hf] at e; cases e; exact .inl m1
    | some r =>
      rw [hf] at e
      have e : (match why u v2 v3 (.int r.pace) with
        | some y => Res.bad .painter (.str y)
        | none => .ok (rs.map (movR r (rowOf u v2 v3 (.int r.pace))))) = .bad c v := e
      cases hw : why u v2 v3 (.int r.pace) with
      | some y => rw [hw] at e; cases e; exact .inr (why_sh hw)
      | none => rw [hw] at e; cases e
  | swap v1 v2 =>
    have e : (match findR rs v1 with
      | none => Res.bad .unknown v1
      | some a => match findR rs v2 with
        | none => .bad .unknown v2
        | some b => if a.nm = b.nm then .bad .twice v1 else .ok (rs.map (swapR a b))) = .bad c v := e
    cases hf : findR rs v1 with
    | none => rw [hf] at e; cases e; exact .inl m1
    | some a =>
      rw [hf] at e
      have e : (match findR rs v2 with
        | none => Res.bad .unknown v2
        | some b => if a.nm = b.nm then .bad .twice v1 else .ok (rs.map (swapR a b))) = .bad c v := e
      cases hf2 : findR rs v2 with
      | none => rw [hf2] at e; cases e; exact .inl m2
      | some b =>
        rw [hf2] at e
        have e : (if a.nm = b.nm then Res.bad .twice v1 else .ok (rs.map (swapR a b))) = .bad c v := e
        split at e
        · cases e; exact .inl m1
        · cases e
theorem stepsA_bad {c : Kd} {v : V} : ∀ {l : List Act} {rs : List Rw}, RowsOk rs → stepsA rs l = .bad c v → (∃ a ∈ l, v ∈ a.vs) ∨ shK v
  | [], rs, h, e => by cases e
  | a :: l, rs, h, e => by
    rw [stepsA_cons] at e
    cases hs : stepA rs a with
    | ok p =>
      rw [hs] at e
      rcases stepsA_bad (stepA_ok h hs) e with ⟨b, hb, hv⟩ | h
      · exact .inl ⟨b, List.mem_cons_of_mem _ hb, hv⟩
      · exact .inr h
    | bad c' v' =>
      rw [hs] at e
      cases e
      rcases stepA_bad h hs with hv | h
      · exact .inl ⟨a, List.mem_cons_self, hv⟩
      · exact .inr h
theorem firstOdd_mem {v : V} : ∀ {l : List Av}, firstOdd l = some v → ∃ i : Nat, l[i]? = some (Av.odd v)
  | .odd u :: _, h => by
    have h : some u = some v := h
    cases h
    exact ⟨0, rfl⟩
  | .act _ :: r, h => by
    obtain ⟨i, e⟩ := firstOdd_mem (l := r) h
    exact ⟨i + 1, by simpa using e⟩
theorem actsOf_mem {x : Act} : ∀ {l : List Av}, x ∈ actsOf l → ∃ i : Nat, l[i]? = some (Av.act x)
  | .odd u :: r, h => by
    obtain ⟨i, e⟩ := actsOf_mem (l := r) h
    exact ⟨i + 1, by simpa using e⟩
  | .act y :: r, h => by
    rcases List.mem_cons.mp (show x ∈ y :: actsOf r from h) with e | h
    · exact ⟨0, by rw [e]; rfl⟩
    · obtain ⟨i, e⟩ := actsOf_mem (l := r) h
      exact ⟨i + 1, by simpa using e⟩
theorem R2At.atR {α : Type} {R : V → α → Prop} {a : α} : ∀ {us : List V} {l : List α} {i : Nat}, R2At R us l → l[i]? = some a → ∃ u, us[i]? = some u ∧ R u a
  | [], [], _, _, h => by simp at h
  | v :: us, b :: l, 0, ⟨h1, _⟩, hm => by
    have e : some b = some a := hm
    cases e
    exact ⟨v, rfl, h1⟩
  | v :: us, b :: l, i + 1, ⟨_, h⟩, hm => by simpa using R2At.atR (us := us) (l := l) (i := i) h (by simpa using hm)
theorem stepsW_bad {B H : Hp} {tv : V → Str} {ts : List V} {avs : List Av} {rs : List Rw} {c : Kd} {v : V} (ha : AvsAt B H tv ts avs) (hT : TvOk tv) (h : RowsOk rs) (e : stepsW rs avs = .bad c v) : ShT H v (tv v) := by
  unfold stepsW at e
  cases e1 : firstOdd avs with
  | some u =>
    rw [e1] at e
    cases e
    obtain ⟨i, hi⟩ := firstOdd_mem e1
    obtain ⟨_, _, _, hit, _⟩ := R2At.atR ha hi
    exact hit.shT
  | none =>
    rw [e1] at e
    rcases stepsA_bad h e with ⟨a, hm, hv⟩ | hs
    · obtain ⟨i, hi⟩ := actsOf_mem hm
      obtain ⟨_, _, _, _, _, hits⟩ := R2At.atR ha hi
      exact (hits v hv).shT
    · exact shK_shT hT hs
/-! ### _law_told with a lambda -/
theorem pe_told {X : Cx} (T : Tx X.K X.mg) (hP : X.prog = PP) {k : Nat} (hr : Room (k + 8) X.A) (hgd : X.A.guards = some []) {c Pt : Addr} (TB : TabB X.base X.mg c Pt) (hcode : X.env.code = .ref c) {q : Str} (hq : X.env.qual ++ "<lambda>" = q) {params : Arguments} {body : Expr} {scope : Scope} {t : XK → TE} {p lpos pos : Pos}
    (hg : Gl X "_law_told") (L : LamS X.env.scope scope) (hdef : defaultsOf params X.env = ([], []))
    (hbind : ∀ (q : Str) (cl : List (Str × Addr)) (pm cv ctv : Value), bindArgs (PySem.W.kla_fn "<lambda>" q params body scope cl pm cv ctv) ⟨[], []⟩ = pure [])
    (hbody : ∀ (A : Around) (outer : List Env) (s : Shared) (H : Hp) (E : XK) (f c' : Addr), Room (k + 6) (A.deeper (lamEnv X scope s.heap.objs.size f c')) → PE (lamCx X A outer s H E scope f c') body (t E)) :
    PE X (.Call (.Name "_law_told" p) [.Lambda params body scope lpos] [] pos) (tLam [(Pt, q)] (TTold X.K) t) := by
  subst hq
  obtain ⟨fd, F⟩ := T.f_Ltold
  obtain ⟨oc, od, dV, kV, doc, pm, an, cdv, ct, osl, rfl, lk, hcd, hd, hk⟩ := F.ex
  rcases hd with ⟨_, hd⟩ | ⟨hd, _⟩
  · subst hd
    refine pe_lamcall (a := "_law_call") (Ng := N_Ltold) (c := c) hg T.g__law_told F.kp lk hcd (Binds.all fun us hl => ?_) sc_Ltold rfl (.inl rfl) (told_gives (k := k) T hP (hr.mono (by omega)) hgd) TB hcode List.mem_cons_self (fun p hp _ => ?_) hr L hdef hbind hbody
    · match us, hl with
      | [_], _ => rfl
    · rcases List.mem_cons.mp hp with rfl | hp
      · rfl
      · exact (List.not_mem_nil hp).elim
  · exact absurd rfl hd
end
end Tx

set_option maxRecDepth 100000
set_option maxHeartbeats 4000000
namespace Tx
open PySem PySem.Spec PyProof.Rows L2 My LamX
section
variable {P : Program} {w : World} {K : PySem.W.Frag} {mg : Str → Option Value} {base : Heap}
/-! ### what stays -/
theorem exN_l {H H' : Hp} (e : ExtN H H') {p : Addr} {xs : List V} (h : H p = some (.lst xs)) : H' p = some (.lst xs) := e _ _ h fun _ z => nomatch z
theorem Pen.exN {z : PenI} {n : Nat} {H H' : Hp} (e : ExtN H H') (d : Pen H z n) : Pen H' z n := by
  obtain ⟨b, r, d, y⟩ := d
  exact ⟨b, r, ⟨e _ _ d.d fun _ z => (nomatch z), e _ _ d.c fun _ z => (nomatch z)⟩, y⟩
theorem tabs_kp {T : List (Addr × Str)} {H H' : Hp} (t : Tabs T H) (k : Kp H H') : Tabs T H' := fun p hp => by
  obtain ⟨ps, h1, h2, h3⟩ := t p hp
  refine ⟨ps, k.k _ _ rfl h1, h2, fun pos cv hc => ?_⟩
  obtain ⟨c, e1, e2⟩ := h3 pos cv hc
  exact ⟨c, e1, k.k _ _ rfl e2⟩
theorem tabs_gr {T : List (Addr × Str)} {H H' : Hp} (t : Tabs T H) (k : Gr H H') : Tabs T H' := t.ext k.e
theorem exN_gr {H H' : Hp} (k : Gr H H') : ExtN H H' := ExtN.of k.e
theorem out2 {H : Hp} {y D C dx b : Addr} {fs : List (Str × V)} {xs : List V} {o : HO} (hy : H y = some (.ins C dx fs)) (hD : H D = some (.lst xs)) (hb : H b = some o) (n1 : o ≠ .ins C dx fs) (n2 : o ≠ .lst xs) : b ∉ [y, D] := by
  simp only [List.mem_cons, List.not_mem_nil, or_false]
  rintro (rfl | rfl)
  · rw [hy] at hb
    exact n1 (Option.some.inj hb).symm
  · rw [hD] at hb
    exact n2 (Option.some.inj hb).symm
theorem tabs_kx {T : List (Addr × Str)} {H H' : Hp} {y D C dx : Addr} {fs : List (Str × V)} {xs : List V} (hy : H y = some (.ins C dx fs)) (hD : H D = some (.lst xs)) (t : Tabs T H) (k : Kx [y, D] H H') : Tabs T H' := fun p hp => by
  obtain ⟨ps, h1, h2, h3⟩ := t p hp
  refine ⟨ps, k.k _ _ (out2 hy hD h1 (fun z => nomatch z) (fun z => nomatch z)) h1, h2, fun pos cv hc => ?_⟩
  obtain ⟨c, e1, e2⟩ := h3 pos cv hc
  exact ⟨c, e1, k.k _ _ (out2 hy hD e2 (fun z => nomatch z) (fun z => nomatch z)) e2⟩
theorem kx_l {H H' : Hp} {y D C dx q : Addr} {fs : List (Str × V)} {xs : List V} (hy : H y = some (.ins C dx fs)) (k : Kx [y, D] H H') (n : q ≠ D) (h : H q = some (.lst xs)) : H' q = some (.lst xs) := k.k _ _ (by
  simp only [List.mem_cons, List.not_mem_nil, or_false]
  rintro (rfl | rfl)
  · rw [hy] at h
    cases h
  · exact n rfl) h
theorem kx_pen {H H' : Hp} {y D C dx : Addr} {fs : List (Str × V)} {xs : List V} {z : PenI} {n : Nat} (hy : H y = some (.ins C dx fs)) (hD : H D = some (.lst xs)) (k : Kx [y, D] H H') (hc : z.c ≠ D) (d : Pen H z n) : Pen H' z n := by
  obtain ⟨b, r, d, q⟩ := d
  exact ⟨b, r, ⟨k.k _ _ (out2 hy hD d.d (fun z => nomatch z) (fun z => nomatch z)) d.d, kx_l hy k hc d.c⟩, q⟩
theorem RowsAt.fo {H H' : Hp} (e : Fo H H') : ∀ {vs : List V} {rs : List Rw}, RowsAt H vs rs → RowsAt H' vs rs
  | [], [], _ => trivial
  | v :: vs, r :: rs, h => by
    obtain ⟨h1, h2⟩ := h
    obtain ⟨p, e1, e2⟩ := h1
    exact ⟨⟨p, e1, e.tup e2⟩, RowsAt.fo e h2⟩
/-! ### the state of the law -/
def AcAt (H : Hp) : List Stp → List (List Act) → Prop
  | [], [] => True
  | s :: l, a :: r => (AsAt H s.1 a ∧ (∀ x ∈ a, Act.Ok x) ∧ a.length ≤ 6) ∧ AcAt H l r
  | _, _ => False
theorem AcAt.fo {H H' : Hp} (e : Fo H H') : ∀ {l : List Stp} {r : List (List Act)}, AcAt H l r → AcAt H' l r
  | [], [], _ => trivial
  | _ :: _, _ :: _, ⟨⟨h1, h2⟩, h⟩ => ⟨⟨h1.fo e, h2⟩, AcAt.fo e h⟩
theorem AcAt.snoc {H : Hp} {s : Stp} {a : List Act} (h1 : AsAt H s.1 a) (h2 : ∀ x ∈ a, Act.Ok x) (h3 : a.length ≤ 6) : ∀ {l : List Stp} {r : List (List Act)}, AcAt H l r → AcAt H (l ++ [s]) (r ++ [a])
  | [], [], _ => ⟨⟨h1, h2, h3⟩, trivial⟩
  | _ :: _, _ :: _, ⟨h, k⟩ => ⟨h, AcAt.snoc h1 h2 h3 k⟩
theorem AcAt.len {H : Hp} : ∀ {l : List Stp} {r : List (List Act)}, AcAt H l r → l.length = r.length
  | [], [], _ => rfl
  | _ :: _, _ :: _, ⟨_, k⟩ => congrArg (· + 1) (AcAt.len k)
def actD (a : Act) : PyData := .tuple (a.vs.map datV)
def stepD (l : List Act) : PyData := .tuple (l.map actD)
theorem ts_dp {α : Type} {f : α → List V} {g : α → PyData} {H : Hp} : ∀ {ts : List V} {l : List α}, (∀ a ∈ l, ∀ t, H t = some (.tup (f a)) → Dp K H (.ref t) (g a)) → TsAt H f ts l → DpAll K H ts (l.map g)
  | [], [], _, _ => .nil
  | _ :: ts, a :: l, hg, ⟨⟨t, e, ht⟩, h⟩ => by
    subst e
    exact .cons (hg a List.mem_cons_self t ht) (ts_dp (ts := ts) (l := l) (fun x hx => hg x (List.mem_cons_of_mem _ hx)) h)
theorem acts_dp {H : Hp} {ts : List V} {l : List Act} (h : AsAt H ts l) (ok : ∀ a ∈ l, Act.Ok a) : DpAll K H ts (l.map actD) := ts_dp (fun a ha t ht => .tup (SqT.of ht) (okVs.dp (ok a ha).1)) h
theorem steps_dp {H : Hp} : ∀ {ds : List V} {sts : List Stp} {acc : List (List Act)}, TsAt H (fun s : Stp => s.1) ds sts → AcAt H sts acc → DpAll K H ds (acc.map stepD)
  | [], [], [], _, _ => .nil
  | d :: ds, s :: sts, a :: acc, h, k => by
    obtain ⟨⟨t, rfl, ht⟩, h2⟩ := h
    exact .cons (.tup (SqT.of ht) (acts_dp k.1.1 k.1.2.1)) (steps_dp (ds := ds) (sts := sts) (acc := acc) h2 k.2)
theorem datV_sh {v : V} (h : okV v) : ShD (datV v) 100 0 := by
  cases v with
  | str s =>
    have := repr_le (s := s) fun c hc => by have := (h.2.2 c hc).2; omega
    have := h.2.1
    exact ⟨rfl, rfl, Nat.le_refl _, (show (reprText s).length ≤ 100 by omega)⟩
  | int i =>
    have h1 : -(10 ^ 31) ≤ i := h.1
    have h2 : i ≤ 10 ^ 31 := h.2
    have := tS_small (i := i) (k := 32) (by omega) (by omega) (by decide)
    exact ⟨decide_eq_true (log_i (by omega) (by omega)), rfl, Nat.le_refl _, (show (tS i).length ≤ 100 by omega)⟩
  | _ => exact h.elim
theorem actD_sh {a : Act} (h : a.Ok) : ShD (actD a) 600 1 := ShD.tuple (n := 100) (m := 0) (fun d hd => by
  obtain ⟨v, hv, rfl⟩ := List.mem_map.mp hd
  exact datV_sh (h.1 v hv)) (by
  rw [List.length_map]
  have : a.vs.length ≤ 5 := by
    cases a with
    | come _ _ _ _ => show 5 ≤ 5; decide
    | leave _ => show 2 ≤ 5; decide
    | move _ _ _ => show 4 ≤ 5; decide
    | swap _ _ => show 3 ≤ 5; decide
  omega)
theorem stepD_sh {l : List Act} (h : ∀ a ∈ l, Act.Ok a) (h6 : l.length ≤ 6) : ShD (stepD l) 4000 2 := ShD.tuple (n := 600) (m := 1) (fun d hd => by
  obtain ⟨v, hv, rfl⟩ := List.mem_map.mp hd
  exact actD_sh (h v hv)) (by
  rw [List.length_map]
  omega)
theorem AcAt.ok {H : Hp} : ∀ {l : List Stp} {r : List (List Act)}, AcAt H l r → ∀ a ∈ r, (∀ x ∈ a, Act.Ok x) ∧ a.length ≤ 6
  | [], [], _, a, h => (List.not_mem_nil h).elim
  | _ :: _, _ :: _, ⟨h1, k⟩, a, h => by
    rcases List.mem_cons.mp h with rfl | h
    · exact h1.2
    · exact AcAt.ok k a h
theorem steps_sh {H : Hp} {l : List Stp} {r : List (List Act)} (h : AcAt H l r) (hl : l.length ≤ 20) : ShD (.tuple (r.map stepD)) 100000 3 := ShD.tuple (n := 4000) (m := 2) (fun d hd => by
  obtain ⟨v, hv, rfl⟩ := List.mem_map.mp hd
  have := h.ok v hv
  exact stepD_sh this.1 this.2) (by
  rw [List.length_map, ← h.len]
  omega)
/-- the lists of the law -/
structure LR (H : Hp) (z : PenI) (D pr pd ps : Addr) (sts : List Stp) (acc : List (List Act)) (us ds : List V) (names : List Str) : Prop where
  row : H pr = some (.lst us)
  rows : RowsAt H us (lastR sts)
  done : H pd = some (.lst ds)
  dsa : TsAt H (fun s : Stp => s.1) ds sts
  acc : AcAt H sts acc
  spare : H ps = some (.lst (names.map V.str))
  n1 : pr ≠ D
  n2 : pd ≠ D
  n3 : ps ≠ D
  n4 : z.c ≠ D
section
variable {H H' : Hp} {z : PenI} {y D pr pd ps : Addr} {sts : List Stp} {acc : List (List Act)} {us ds : List V} {names : List Str}
theorem LR.by (h : LR H z D pr pd ps sts acc us ds names) (e : Fo H H') (l : ∀ q xs, q ≠ D → H q = some (.lst xs) → H' q = some (.lst xs)) : LR H' z D pr pd ps sts acc us ds names :=
  ⟨l _ _ h.n1 h.row, RowsAt.fo e h.rows, l _ _ h.n2 h.done, h.dsa.fo e, h.acc.fo e, l _ _ h.n3 h.spare, h.n1, h.n2, h.n3, h.n4⟩
theorem LR.kp (h : LR H z D pr pd ps sts acc us ds names) (k : Kp H H') : LR H' z D pr pd ps sts acc us ds names := h.by (Fo.kp k) fun _ _ _ e => k.l e
theorem LR.gr (h : LR H z D pr pd ps sts acc us ds names) (g : Gr H H') : LR H' z D pr pd ps sts acc us ds names := h.kp g.kp
theorem LR.exN (h : LR H z D pr pd ps sts acc us ds names) (e : ExtN H H') : LR H' z D pr pd ps sts acc us ds names := h.by (Fo.exN e) fun _ _ _ q => exN_l e q
theorem YAt.rows {wts : List Stp} (h : YAt K H y D sts wts) : RowsOk (lastR sts) := by
  obtain ⟨dx, W, vs, ws, a1, a2, a3, a4, a5, a6⟩ := h
  unfold lastR
  cases e : sts.getLast? with
  | none => exact rows0
  | some s =>
    rw [List.getLast?_eq_getElem?] at e
    have hl := (List.getElem?_eq_some_iff.mp e).1
    have : sts.length - 1 < vs.length := by rw [a4.len]; exact hl
    obtain ⟨s', e', _, _, f, _, _, _, hf⟩ := a4.at (List.getElem?_eq_getElem this)
    rw [e] at e'
    cases e'
    obtain ⟨_, _, _, _, _, _, _, _, hok⟩ := hf
    exact hok
theorem YAt.two {wts : List Stp} (h : YAt K H y D sts wts) : ∃ dx W vs, H y = some (.ins (CY K) dx (yF D W)) ∧ H D = some (.lst vs) := by
  obtain ⟨dx, W, vs, ws, a1, a2, _⟩ := h
  exact ⟨dx, W, vs, a1, a2⟩
theorem LR.kx {wts : List Stp} (h : LR H z D pr pd ps sts acc us ds names) (ya : YAt K H y D sts wts) (k : Kx [y, D] H H') : LR H' z D pr pd ps sts acc us ds names := by
  obtain ⟨dx, W, vs, a1, a2⟩ := ya.two
  exact h.by (Fo.kx a1 a2 k) fun q xs n e => kx_l a1 k n e
end
end
end Tx

set_option maxRecDepth 100000
set_option maxHeartbeats 4000000
namespace Tx
open PySem PySem.Spec PyProof.Rows L2 My LamX
section
variable {P : Program} {w : World} {K : PySem.W.Frag} {mg : Str → Option Value} {base : Heap}
/-! ### how long data is shown -/
theorem ShQ.all {n m : Nat} : ∀ {l : List PyData}, (∀ d ∈ l, ShQ d n m) → PyData.showableAll l = true ∧ PyData.depthAll l ≤ m ∧ piled (PyData.shownAll l) ≤ (n + 2) * l.length ∧ (PyData.shownAll l).length = l.length ∧ ∀ t ∈ PyData.shownAll l, Sg t
  | [], _ => ⟨rfl, Nat.zero_le _, Nat.zero_le _, rfl, fun _ h => (List.not_mem_nil h).elim⟩
  | d :: l, h => by
    have h0 := h d List.mem_cons_self
    obtain ⟨a1, a3, a4, a5, a6⟩ := ShQ.all (l := l) fun x hx => h x (List.mem_cons_of_mem _ hx)
    refine ⟨?_, ?_, ?_, congrArg (· + 1) a5, fun t ht => ?_⟩
    · show (d.showable && PyData.showableAll l) = true
      rw [h0.sh, a1]
      rfl
    · show max d.depth (PyData.depthAll l) ≤ m
      have := h0.dp
      omega
    · show piled (d.shown :: PyData.shownAll l) ≤ _
      rw [piled_cons, List.length_cons, Nat.mul_succ]
      have := h0.ln
      omega
    · rcases List.mem_cons.mp (show t ∈ d.shown :: PyData.shownAll l from ht) with rfl | ht
      · exact h0.ch
      · exact a6 t ht
theorem ShQ.list {l : List PyData} {n m N : Nat} (h : ∀ d ∈ l, ShQ d n m) (hN : (n + 2) * l.length + 2 ≤ N) : ShQ (.list l) N (m + 1) := by
  obtain ⟨a1, a3, a4, a5, a6⟩ := ShQ.all h
  refine ⟨a1, (show PyData.depthAll l + 1 ≤ m + 1 by omega), ?_, (show Sg (textFrom 0 "[" (PyData.shownAll l) ++ "]") from (Sg.textFrom (by decide +kernel) a6).app (by decide +kernel))⟩
  show (textFrom 0 "[" (PyData.shownAll l) ++ "]").length ≤ N
  rw [strLen_append]
  have h1 := textFrom_le (PyData.shownAll l) 0 "["
  have e1 : ((("[" : String) : Str)).length = 1 := rfl
  have e2 : ((("]" : String) : Str)).length = 1 := rfl
  rw [e1] at h1
  rw [e2]
  omega
theorem ShQ.tuple {l : List PyData} {n m N : Nat} (h : ∀ d ∈ l, ShQ d n m) (hN : (n + 2) * l.length + 3 ≤ N) : ShQ (.tuple l) N (m + 1) := by
  obtain ⟨a1, a3, a4, a5, a6⟩ := ShQ.all h
  refine ⟨a1, (show PyData.depthAll l + 1 ≤ m + 1 by omega), ?_, (show Sg (tupleText (PyData.shownAll l)) from ((show Sg ("(" : Str) by decide +kernel).app (Sg.join a6)).app (by split <;> decide +kernel))⟩
  show (tupleText (PyData.shownAll l)).length ≤ N
  unfold tupleText
  rw [strLen_append, strLen_append]
  have e1 : ((("(" : String) : Str)).length = 1 := rfl
  have e3 : (((if (PyData.shownAll l).length == 1 then ",)" else ")" : String) : Str)).length ≤ 2 := by split <;> decide
  have e4 : (Str.join ", " (PyData.shownAll l)).length ≤ piled (PyData.shownAll l) := by
    by_cases hn : PyData.shownAll l = []
    · rw [hn]
      decide
    · have := join_length_add _ hn
      omega
  rw [e1]
  omega
theorem ShQ.mono {d : PyData} {n m n' m' : Nat} (h : ShQ d n m) (h1 : n ≤ n') (h2 : m ≤ m') : ShQ d n' m' := ⟨h.sh, Nat.le_trans h.dp h2, Nat.le_trans h.ln h1, h.ch⟩
/-- a value with short texts, shown by a text so long, at most so deep -/
def Iq (B H : Hp) (n m : Nat) (v : V) : Prop := (∀ s, v = .str s → s.length ≤ 100) ∧ ∃ d, Dq B H v d ∧ ShQ d n m
theorem Iq.ke {B H H' : Hp} {n m : Nat} {v : V} (k : Ke B H H') (h : Iq B H n m v) : Iq B H' n m v := by
  obtain ⟨h1, d, h2, h3⟩ := h
  exact ⟨h1, d, Dq.ke k _ _ h2, h3⟩
theorem Iq.mono {B H : Hp} {n m n' m' : Nat} {v : V} (h : Iq B H n m v) (h1 : n ≤ n') (h2 : m ≤ m') : Iq B H n' m' v := by
  obtain ⟨h3, d, h4, h5⟩ := h
  exact ⟨h3, d, h4, h5.mono h1 h2⟩
theorem Iq.all {B H : Hp} {n m : Nat} : ∀ {xs : List V}, (∀ v ∈ xs, Iq B H n m v) → ∃ ds, DqAll B H xs ds ∧ ∀ d ∈ ds, ShQ d n m
  | [], _ => ⟨[], .nil, fun _ h => (List.not_mem_nil h).elim⟩
  | v :: xs, h => by
    obtain ⟨_, d, h1, h2⟩ := h v List.mem_cons_self
    obtain ⟨ds, h3, h4⟩ := Iq.all (xs := xs) fun x hx => h x (List.mem_cons_of_mem _ hx)
    exact ⟨d :: ds, .cons h1 h3, fun x hx => by
      rcases List.mem_cons.mp hx with rfl | hx
      · exact h2
      · exact h4 x hx⟩
theorem Iq.tuple {B H : Hp} {n m N : Nat} {t : Addr} {xs : List V} (h : ∀ v ∈ xs, Iq B H n m v) (ht : H t = some (.tup xs)) (hN : (n + 2) * xs.length + 3 ≤ N) : Iq B H N (m + 1) (.ref t) := by
  obtain ⟨ds, h1, h2⟩ := Iq.all h
  rw [h1.len] at hN
  exact ⟨(fun _ e => nomatch e), _, .tup ht h1, ShQ.tuple h2 hN⟩
theorem Iq.list {B H : Hp} {n m N : Nat} {t : Addr} {xs : List V} (h : ∀ v ∈ xs, Iq B H n m v) (ht : H t = some (.lst xs)) (hb : B t = none) (hN : (n + 2) * xs.length + 2 ≤ N) : Iq B H N (m + 1) (.ref t) := by
  obtain ⟨ds, h1, h2⟩ := Iq.all h
  rw [h1.len] at hN
  exact ⟨(fun _ e => nomatch e), _, .lst ht hb h1, ShQ.list h2 hN⟩
theorem Iq.non {B H : Hp} {n m : Nat} (h : 4 ≤ n) : Iq B H n m .non := ⟨(fun _ e => nomatch e), _, .non, rfl, Nat.zero_le _, h, by decide +kernel⟩
theorem Iq.bl {B H : Hp} {n m : Nat} {b : Bool} (h : 5 ≤ n) : Iq B H n m (.bl b) := ⟨(fun _ e => nomatch e), _, .bl b, rfl, Nat.zero_le _, by cases b <;> (show _ ≤ n) <;> (have e1 : (PyData.bool false).shown.length = 5 := by decide +kernel) <;> (have e2 : (PyData.bool true).shown.length = 4 := by decide +kernel) <;> omega, by cases b <;> decide +kernel⟩
theorem log_j {i : Int} (h1 : -(10 ^ 82) ≤ i) (h2 : i ≤ 10 ^ 82) : i.natAbs.log2 < 1920 := by
  by_cases h : i.natAbs = 0
  · rw [h]
    decide
  · refine Nat.lt_of_lt_of_le ((Nat.log2_lt h).mpr (show i.natAbs < 2 ^ 300 from ?_)) (by decide)
    have e : (10 : Nat) ^ 82 < 2 ^ 300 := by decide +kernel
    have : i.natAbs ≤ 10 ^ 82 := by omega
    exact Nat.lt_of_le_of_lt this e
theorem Iq.int {B H : Hp} {m : Nat} {i : Int} (h1 : -(10 ^ 82) ≤ i) (h2 : i ≤ 10 ^ 82) : Iq B H 100 m (.int i) := ⟨(fun _ e => nomatch e), _, .int i, decide_eq_true (log_j h1 h2), Nat.zero_le _, (by
  have := tS_small (i := i) (k := 83) (by omega) (by omega) (by decide)
  show (tS i).length ≤ 100
  omega), (show Sg (tS i) from fun c hc => by rcases tS_mem hc with h | h <;> omega)⟩
theorem Iq.str {B H : Hp} {m : Nat} {s : Str} (h : s.length ≤ 9) (h2 : ∀ c ∈ cl s, c < 128) : Iq B H 100 m (.str s) := ⟨fun z e => by cases e; omega, _, .str s, rfl, Nat.zero_le _, by
  have := repr_le (s := s) fun c hc => by have := h2 c hc; omega
  show (reprText s).length ≤ 100
  omega, (show Sg (reprText s) from repr_signs fun c hc => by have := h2 c hc; omega)⟩
/-- a value and, if it is a tuple, its items -/
def Bq (B H : Hp) (n m : Nat) (v : V) : Prop := Iq B H n m v ∧ ∀ t xs, v = .ref t → H t = some (.tup xs) → ∀ x ∈ xs, Iq B H 2000 3 x
theorem Bq.mono {B H : Hp} {n m n' m' : Nat} {v : V} (h : Bq B H n m v) (h1 : n ≤ n') (h2 : m ≤ m') : Bq B H n' m' v := ⟨h.1.mono h1 h2, h.2⟩
theorem Bq.atom {B H : Hp} {v : V} (h : Iq B H 100 0 v) (n : ∀ t, v ≠ .ref t) : Bq B H 1000 1 v := ⟨h.mono (by decide) (by decide), fun t _ e => absurd e (n t)⟩
theorem Bq.tup' {B H : Hp} {t : Addr} {xs : List V} {n m N : Nat} (h : ∀ v ∈ xs, Iq B H n m v) (ht : H t = some (.tup xs)) (h1 : n ≤ 2000) (h2 : m ≤ 3) (hN : (n + 2) * xs.length + 3 ≤ N) : Bq B H N (m + 1) (.ref t) := ⟨Iq.tuple h ht hN, fun t' xs' e e2 x hx => by
  cases e
  rw [ht] at e2
  cases e2
  exact (h x hx).mono h1 h2⟩
theorem Bq.tup {B H : Hp} {t : Addr} {xs : List V} (h : ∀ v ∈ xs, Iq B H 100 0 v) (ht : H t = some (.tup xs)) (hl : xs.length ≤ 8) : Bq B H 1000 1 (.ref t) := Bq.tup' (N := 1000) h ht (by decide) (by decide) (by omega)
theorem Bq.oth {B H : Hp} {n m : Nat} {t : Addr} (h : Iq B H n m (.ref t)) (nt : ∀ xs, H t ≠ some (.tup xs)) : Bq B H n m (.ref t) := ⟨h, fun t' xs e e2 => by cases e; exact absurd e2 (nt xs)⟩
theorem Bq.ke {B H H' : Hp} {n m : Nat} {v : V} (k : Ke B H H') (h : Bq B H n m v) : Bq B H' n m v := by
  refine ⟨h.1.ke k, fun t xs e e2 x hx => ?_⟩
  subst e
  obtain ⟨_, d, hd, _⟩ := id h.1
  cases hd with
  | tup h0 _ =>
    have := k.t _ _ h0
    rw [e2] at this
    cases this
    exact (h.2 t _ rfl h0 x hx).ke k
  | lst h0 hb _ => have := k.l _ _ hb h0; rw [e2] at this; cases this
  | d0 h0 hb => have := k.d _ _ hb rfl h0; rw [e2] at this; cases this
  | d1 h0 _ hb => have := k.d _ _ hb rfl h0; rw [e2] at this; cases this
def BqL (B H : Hp) (n m : Nat) (xs : List V) : Prop := ∀ v ∈ xs, Bq B H n m v
theorem BqL.nil {B H : Hp} {n m : Nat} : BqL B H n m [] := fun _ h => (List.not_mem_nil h).elim
theorem BqL.cons {B H : Hp} {n m : Nat} {v : V} {xs : List V} (h : Bq B H n m v) (r : BqL B H n m xs) : BqL B H n m (v :: xs) := fun x hx => by
  rcases List.mem_cons.mp hx with rfl | hx
  · exact h
  · exact r x hx
theorem BqL.app {B H : Hp} {n m : Nat} {xs ys : List V} (h : BqL B H n m xs) (r : BqL B H n m ys) : BqL B H n m (xs ++ ys) := fun x hx => by
  rcases List.mem_append.mp hx with hx | hx
  · exact h x hx
  · exact r x hx
theorem BqL.ke {B H H' : Hp} {n m : Nat} {xs : List V} (k : Ke B H H') (h : BqL B H n m xs) : BqL B H' n m xs := fun x hx => (h x hx).ke k
theorem iq_nil {B H : Hp} {n m : Nat} : ∀ v ∈ ([] : List V), Iq B H n m v := fun _ h => (List.not_mem_nil h).elim
theorem iq_cons {B H : Hp} {n m : Nat} {v : V} {xs : List V} (h : Iq B H n m v) (r : ∀ x ∈ xs, Iq B H n m x) : ∀ x ∈ v :: xs, Iq B H n m x := fun x hx => by
  rcases List.mem_cons.mp hx with rfl | hx
  · exact h
  · exact r x hx
theorem iqN {B H : Hp} : Iq B H 100 0 .non := Iq.non (by decide)
theorem iqB {B H : Hp} {b : Bool} : Iq B H 100 0 (.bl b) := Iq.bl (by decide)
/-! ### _law_odd -/
def spOddQ : Sp := fun vs H Q _ => ∃ (B : Hp) (z : PenI) (n : Nat), vs = [.ref (PenI.a z)] ∧ (∀ b, H b = none → B b = none) ∧ Pen H z n ∧ n + 10 ≤ 10 ^ 17 ∧ Aft z H n 5 (fun v H1 => Bq B H1 1000 1 v) Q
theorem ok_odd (T : Tx K mg) : FnR P w K mg base (L2.CX P w) 7 (a_Lodd K) spOddQ := by
  have F_Lpick := ok_pick (P := P) (w := w) (base := base) T
  refine fnR_of T.f_Lodd sc_Lodd (fun _ _ _ _ _ _ us hl => match us, hl with | [_], _ => rfl) (fun vs H Q E h => ?_) fun A outer s H vs Q E cdv hr h => ?_
  · obtain ⟨B, z, n, rfl, _⟩ := h
    rfl
  · obtain ⟨B, z, n, rfl, hB, hp, hn, k⟩ := h
    refine ⟨_, (pss_cons (ps_set (i := 1) sc_Lodd.nd rfl (by first | exact Or.inl rfl | exact Or.inr rfl) (pe_lst (pa_cons pe_non (pa_cons pe_bl (pa_cons pe_bl (pa_cons pe_int (pa_cons pe_int (pa_cons (pe_un un_neg pe_int) (pa_cons pe_int (pa_cons pe_int (pa_cons (pe_op op_pow pe_int pe_int) (pa_cons (pe_op op_mulW (pe_op op_pow pe_int pe_int) (pe_op op_pow pe_int pe_int)) (pa_cons pe_str (pa_cons pe_str (pa_cons pe_str (pa_cons pe_str (pa_cons pe_str (pa_cons pe_str pa_nil))))))))))))))))))
 (pss_cons (ps_set (i := 1) sc_Lodd.nd rfl (by first | exact Or.inl rfl | exact Or.inr rfl) (pe_op (op_addUK (K := K) rfl) (pv 1) (pe_lst (pa_cons (pe_tup pa_nil) (pa_cons (pe_lst pa_nil) (pa_cons pe_dnewK (pa_cons (pe_tup (pa_cons pe_str pa_nil)) (pa_cons (pe_lst (pa_cons pe_str pa_nil)) (pa_cons (pe_disp (pps_cons pe_str pe_int pps_nil) (by rfl) (by rfl) (fun z => by cases z) (by decide)) (pa_cons (pe_tup (pa_cons pe_str (pa_cons pe_int (pa_cons pe_int (pa_cons pe_int pa_nil))))) (pa_cons (pe_tup (pa_cons pe_non pa_nil)) (pa_cons pe_str (pa_cons (pe_tup (pa_cons pe_str (pa_cons pe_int pa_nil))) (pa_cons (pe_lst (pa_cons pe_str (pa_cons pe_int (pa_cons pe_int (pa_cons pe_int pa_nil))))) pa_nil))))))))))))))
 (pss_one (ps_ret (pe_callR F_Lpick (hr.mono (by first | decide | omega)) T.k_Lpick rfl T.g__law_pick passL (pa_cons (pv 0) (pa_cons (pv 1) pa_nil))))))), ?_⟩
    try dsimp only [cxOf]
    walk_at "go"
    refine r_I (wide_mul (a := 200) (b := 200) (by decide) (by decide) (by decide) (by decide) (by decide)) ?_
    walk_at "go"
    refine ⟨by show 16 ≤ 16777216; decide, fun p1 h1 => ?_⟩
    have g1 := Gr.new (o := .lst [V.non, V.bl true, V.bl false, V.int 0, V.int 1, V.int (-1), V.int 2, V.int 5, V.int (10 ^ Int.toNat 30), V.int (10 ^ Int.toNat 40 * 10 ^ Int.toNat 41), V.str "", V.str "a", V.str "A", V.str "a b", V.str "zz", V.str "abcdefghi"]) h1
    have o1 : BqL B (upd H p1 (.lst [V.non, V.bl true, V.bl false, V.int 0, V.int 1, V.int (-1), V.int 2, V.int 5, V.int (10 ^ Int.toNat 30), V.int (10 ^ Int.toNat 40 * 10 ^ Int.toNat 41), V.str "", V.str "a", V.str "A", V.str "a b", V.str "zz", V.str "abcdefghi"])) 1000 1 [V.non, V.bl true, V.bl false, V.int 0, V.int 1, V.int (-1), V.int 2, V.int 5, V.int (10 ^ Int.toNat 30), V.int (10 ^ Int.toNat 40 * 10 ^ Int.toNat 41), V.str "", V.str "a", V.str "A", V.str "a b", V.str "zz", V.str "abcdefghi"] := by
      repeat (refine BqL.cons (Bq.atom (by first | exact iqN | exact iqB | exact Iq.int (by decide +kernel) (by decide +kernel) | exact Iq.str (by decide +kernel) (by decide +kernel)) (fun _ => by simp)) ?_)
      exact BqL.nil
    have l1 : [V.non, V.bl true, V.bl false, V.int 0, V.int 1, V.int (-1), V.int 2, V.int 5, V.int (10 ^ Int.toNat 30), V.int (10 ^ Int.toNat 40 * 10 ^ Int.toNat 41), V.str "", V.str "a", V.str "A", V.str "a b", V.str "zz", V.str "abcdefghi"].length = 16 := rfl
    have e1 : (upd H p1 (.lst [V.non, V.bl true, V.bl false, V.int 0, V.int 1, V.int (-1), V.int 2, V.int 5, V.int (10 ^ Int.toNat 30), V.int (10 ^ Int.toNat 40 * 10 ^ Int.toNat 41), V.str "", V.str "a", V.str "A", V.str "a b", V.str "zz", V.str "abcdefghi"])) p1 = some (.lst [V.non, V.bl true, V.bl false, V.int 0, V.int 1, V.int (-1), V.int 2, V.int 5, V.int (10 ^ Int.toNat 30), V.int (10 ^ Int.toNat 40 * 10 ^ Int.toNat 41), V.str "", V.str "a", V.str "A", V.str "a b", V.str "zz", V.str "abcdefghi"]) := upd_same
    generalize [V.non, V.bl true, V.bl false, V.int 0, V.int 1, V.int (-1), V.int 2, V.int 5, V.int (10 ^ Int.toNat 30), V.int (10 ^ Int.toNat 40 * 10 ^ Int.toNat 41), V.str "", V.str "a", V.str "A", V.str "a b", V.str "zz", V.str "abcdefghi"] = xs1 at g1 o1 l1 e1 ⊢
    generalize upd H p1 (.lst xs1) = H0 at g1 o1 e1 ⊢
    have oo : BqL B H0 1000 1 [] := BqL.nil
    walk_at "go"
    refine ⟨by show 0 ≤ 16777216; decide, fun q1 hq1 => ?_⟩
    have n1 := Gr.new (o := .tup []) hq1
    have hb : B q1 = none := hB _ (g1.f _ hq1)
    have up : (upd H0 q1 (.tup [])) q1 = some (.tup []) := upd_same
    have oo := (oo.ke (Ke.gr n1)).app (BqL.cons (v := .ref q1) (Bq.tup (iq_nil) up (by show 0 ≤ 8; decide)) BqL.nil)
    have o1 := o1.ke (Ke.gr n1)
    have g1 := g1.trans n1
    have e1 := n1.e _ _ e1
    generalize upd H0 q1 (.tup []) = H1 at up oo o1 g1 e1 ⊢
    clear up hb
    walk_at "go"
    refine ⟨by show 0 ≤ 16777216; decide, fun q2 hq2 => ?_⟩
    have n1 := Gr.new (o := .lst []) hq2
    have hb : B q2 = none := hB _ (g1.f _ hq2)
    have up : (upd H1 q2 (.lst [])) q2 = some (.lst []) := upd_same
    have oo := (oo.ke (Ke.gr n1)).app (BqL.cons (v := .ref q2) (Bq.oth ((Iq.list (N := 1000) (n := 100) (m := 0) (iq_nil) up hb (by show 102 * 0 + 2 ≤ 1000; decide)).mono (by decide) (by decide)) (fun _ e => by rw [up] at e; cases e)) BqL.nil)
    have o1 := o1.ke (Ke.gr n1)
    have g1 := g1.trans n1
    have e1 := n1.e _ _ e1
    generalize upd H1 q2 (.lst []) = H2 at up oo o1 g1 e1 ⊢
    clear up hb
    walk_at "go"
    intro q3 hq3
    have n1 := Gr.new (o := .dK []) hq3
    have hb : B q3 = none := hB _ (g1.f _ hq3)
    have up : (upd H2 q3 (.dK [])) q3 = some (.dK []) := upd_same
    have oo := (oo.ke (Ke.gr n1)).app (BqL.cons (v := .ref q3) (Bq.oth ⟨(fun _ e => nomatch e), _, .d0 up hb, rfl, by decide, by decide +kernel, by decide +kernel⟩ (fun _ e => by rw [up] at e; cases e)) BqL.nil)
    have o1 := o1.ke (Ke.gr n1)
    have g1 := g1.trans n1
    have e1 := n1.e _ _ e1
    generalize upd H2 q3 (.dK []) = H3 at up oo o1 g1 e1 ⊢
    clear up hb
    walk_at "go"
    refine ⟨by show 1 ≤ 16777216; decide, fun q4 hq4 => ?_⟩
    have n1 := Gr.new (o := .tup [.str "a"]) hq4
    have hb : B q4 = none := hB _ (g1.f _ hq4)
    have up : (upd H3 q4 (.tup [.str "a"])) q4 = some (.tup [.str "a"]) := upd_same
    have oo := (oo.ke (Ke.gr n1)).app (BqL.cons (v := .ref q4) (Bq.tup (iq_cons (Iq.str (by decide +kernel) (by decide +kernel)) (iq_nil)) up (by show 1 ≤ 8; decide)) BqL.nil)
    have o1 := o1.ke (Ke.gr n1)
    have g1 := g1.trans n1
    have e1 := n1.e _ _ e1
    generalize upd H3 q4 (.tup [.str "a"]) = H4 at up oo o1 g1 e1 ⊢
    clear up hb
    walk_at "go"
    refine ⟨by show 1 ≤ 16777216; decide, fun q5 hq5 => ?_⟩
    have n1 := Gr.new (o := .lst [.str "a"]) hq5
    have hb : B q5 = none := hB _ (g1.f _ hq5)
    have up : (upd H4 q5 (.lst [.str "a"])) q5 = some (.lst [.str "a"]) := upd_same
    have oo := (oo.ke (Ke.gr n1)).app (BqL.cons (v := .ref q5) (Bq.oth ((Iq.list (N := 1000) (n := 100) (m := 0) (iq_cons (Iq.str (by decide +kernel) (by decide +kernel)) (iq_nil)) up hb (by show 102 * 1 + 2 ≤ 1000; decide)).mono (by decide) (by decide)) (fun _ e => by rw [up] at e; cases e)) BqL.nil)
    have o1 := o1.ke (Ke.gr n1)
    have g1 := g1.trans n1
    have e1 := n1.e _ _ e1
    generalize upd H4 q5 (.lst [.str "a"]) = H5 at up oo o1 g1 e1 ⊢
    clear up hb
    walk_at "go"
    refine r_disp fun q6 hq6 => ?_
    walk_at "go"
    refine ⟨upd_same, [(.inr "a", .int 0)], rfl, (show 1 ≤ 15 by decide), ?_⟩
    rw [L2.upd_upd, show mergeK [] [((Sum.inr "a" : Key), V.int 0)] = [(.inr "a", .int 0)] from rfl]
    have n1 := Gr.new (o := .dK [(.inr "a", .int 0)]) hq6
    have hb : B q6 = none := hB _ (g1.f _ hq6)
    have up : (upd H5 q6 (.dK [(.inr "a", .int 0)])) q6 = some (.dK [(.inr "a", .int 0)]) := upd_same
    have oo := (oo.ke (Ke.gr n1)).app (BqL.cons (v := .ref q6) (Bq.oth ⟨(fun _ e => nomatch e), _, .d1 up (by decide +kernel) hb, by decide +kernel, by decide, by decide +kernel, by decide +kernel⟩ (fun _ e => by rw [up] at e; cases e)) BqL.nil)
    have o1 := o1.ke (Ke.gr n1)
    have g1 := g1.trans n1
    have e1 := n1.e _ _ e1
    generalize upd H5 q6 (.dK [(.inr "a", .int 0)]) = H6 at up oo o1 g1 e1 ⊢
    clear up hb
    walk_at "go"
    refine ⟨by show 4 ≤ 16777216; decide, fun q7 hq7 => ?_⟩
    have n1 := Gr.new (o := .tup [.str "a", .int 0, .int 0, .int 1]) hq7
    have hb : B q7 = none := hB _ (g1.f _ hq7)
    have up : (upd H6 q7 (.tup [.str "a", .int 0, .int 0, .int 1])) q7 = some (.tup [.str "a", .int 0, .int 0, .int 1]) := upd_same
    have oo := (oo.ke (Ke.gr n1)).app (BqL.cons (v := .ref q7) (Bq.tup (iq_cons (Iq.str (by decide +kernel) (by decide +kernel)) (iq_cons (Iq.int (by decide +kernel) (by decide +kernel)) (iq_cons (Iq.int (by decide +kernel) (by decide +kernel)) (iq_cons (Iq.int (by decide +kernel) (by decide +kernel)) (iq_nil))))) up (by show 4 ≤ 8; decide)) BqL.nil)
    have o1 := o1.ke (Ke.gr n1)
    have g1 := g1.trans n1
    have e1 := n1.e _ _ e1
    generalize upd H6 q7 (.tup [.str "a", .int 0, .int 0, .int 1]) = H7 at up oo o1 g1 e1 ⊢
    clear up hb
    walk_at "go"
    refine ⟨by show 1 ≤ 16777216; decide, fun q8 hq8 => ?_⟩
    have n1 := Gr.new (o := .tup [.non]) hq8
    have hb : B q8 = none := hB _ (g1.f _ hq8)
    have up : (upd H7 q8 (.tup [.non])) q8 = some (.tup [.non]) := upd_same
    have oo := (oo.ke (Ke.gr n1)).app (BqL.cons (v := .ref q8) (Bq.tup (iq_cons (iqN) (iq_nil)) up (by show 1 ≤ 8; decide)) BqL.nil)
    have o1 := o1.ke (Ke.gr n1)
    have g1 := g1.trans n1
    have e1 := n1.e _ _ e1
    generalize upd H7 q8 (.tup [.non]) = H8 at up oo o1 g1 e1 ⊢
    clear up hb
    have oo := oo.app (BqL.cons (v := .str "0") (Bq.atom (Iq.str (by decide +kernel) (by decide +kernel)) (fun _ => by simp)) BqL.nil)
    walk_at "go"
    refine ⟨by show 2 ≤ 16777216; decide, fun q9 hq9 => ?_⟩
    have n1 := Gr.new (o := .tup [.str "a", .int 1]) hq9
    have hb : B q9 = none := hB _ (g1.f _ hq9)
    have up : (upd H8 q9 (.tup [.str "a", .int 1])) q9 = some (.tup [.str "a", .int 1]) := upd_same
    have oo := (oo.ke (Ke.gr n1)).app (BqL.cons (v := .ref q9) (Bq.tup (iq_cons (Iq.str (by decide +kernel) (by decide +kernel)) (iq_cons (Iq.int (by decide +kernel) (by decide +kernel)) (iq_nil))) up (by show 2 ≤ 8; decide)) BqL.nil)
    have o1 := o1.ke (Ke.gr n1)
    have g1 := g1.trans n1
    have e1 := n1.e _ _ e1
    generalize upd H8 q9 (.tup [.str "a", .int 1]) = H9 at up oo o1 g1 e1 ⊢
    clear up hb
    walk_at "go"
    refine ⟨by show 4 ≤ 16777216; decide, fun q10 hq10 => ?_⟩
    have n1 := Gr.new (o := .lst [.str "a", .int 0, .int 0, .int 1]) hq10
    have hb : B q10 = none := hB _ (g1.f _ hq10)
    have up : (upd H9 q10 (.lst [.str "a", .int 0, .int 0, .int 1])) q10 = some (.lst [.str "a", .int 0, .int 0, .int 1]) := upd_same
    have oo := (oo.ke (Ke.gr n1)).app (BqL.cons (v := .ref q10) (Bq.oth ((Iq.list (N := 1000) (n := 100) (m := 0) (iq_cons (Iq.str (by decide +kernel) (by decide +kernel)) (iq_cons (Iq.int (by decide +kernel) (by decide +kernel)) (iq_cons (Iq.int (by decide +kernel) (by decide +kernel)) (iq_cons (Iq.int (by decide +kernel) (by decide +kernel)) (iq_nil))))) up hb (by show 102 * 4 + 2 ≤ 1000; decide)).mono (by decide) (by decide)) (fun _ e => by rw [up] at e; cases e)) BqL.nil)
    have o1 := o1.ke (Ke.gr n1)
    have g1 := g1.trans n1
    have e1 := n1.e _ _ e1
    generalize upd H9 q10 (.lst [.str "a", .int 0, .int 0, .int 1]) = H10 at up oo o1 g1 e1 ⊢
    clear up hb
    walk_at "go"
    refine ⟨by show 11 ≤ 16777216; decide, fun p8 h8 => ?_⟩
    have l8 : BqL B H10 1000 1 [V.ref q1, V.ref q2, V.ref q3, V.ref q4, V.ref q5, V.ref q6, V.ref q7, V.ref q8, V.str "0", V.ref q9, V.ref q10] := oo
    have s8 : [V.ref q1, V.ref q2, V.ref q3, V.ref q4, V.ref q5, V.ref q6, V.ref q7, V.ref q8, V.str "0", V.ref q9, V.ref q10].length = 11 := rfl
    generalize [V.ref q1, V.ref q2, V.ref q3, V.ref q4, V.ref q5, V.ref q6, V.ref q7, V.ref q8, V.str "0", V.ref q9, V.ref q10] = ys at l8 s8 ⊢
    have n8 := Gr.new (o := .lst ys) h8
    refine r_catL (n8.e _ _ e1) upd_same (by rw [l1, s8]; decide) fun p9 h9 => ?_
    have n9 := n8.then (o := .lst (xs1 ++ ys)) h9
    have o9 := (o1.app l8).ke (Ke.gr n9)
    have g9 := g1.trans n9
    have e9 : (upd (upd H10 p8 (.lst ys)) p9 (.lst (xs1 ++ ys))) p9 = some (.lst (xs1 ++ ys)) := upd_same
    have hne : xs1 ++ ys ≠ [] := fun e => by have := congrArg List.length e; rw [List.length_append, l1, s8] at this; cases this
    have hle : (xs1 ++ ys).length ≤ 1000 := by rw [List.length_append, l1, s8]; decide
    generalize upd (upd H10 p8 (.lst ys)) p9 (.lst (xs1 ++ ys)) = H9' at g9 o9 e9 ⊢
    walk_at "go"
    refine r_pickL (g9.pen hp) (SqL.of e9) hne hle (by omega) fun v n2 H2 hv hn2 kp2 hp2 => ?_
    walk_at "go"
    exact k v n2 H2 ((o9 v hv).ke (Ke.kp kp2)) hn2 (g9.kp.trans kp2) hp2
end
end Tx

set_option maxRecDepth 100000
set_option maxHeartbeats 4000000
namespace My
open PySem PySem.Spec PyProof.Rows L2
theorem cut_all {xs : List V} {lo hi : Option Int} (h : HT.sIx xs.length 0 lo = 0 ∧ HT.sIx xs.length xs.length hi = xs.length) : cutV xs lo hi = xs := by
  unfold cutV
  rw [h.1, h.2]
  simp
/-- a part of a tuple -/
theorem r_slG {K : PySem.W.Frag} {H : Hp} {p : Addr} {xs : List V} {lo hi : Option Int} {Q : VK} (h : H p = some (.tup xs)) (k : ∀ r H', Gr H H' → H' r = some (.tup (cutV xs lo hi)) → Q (.ref r) H') : rSlU K (.ref p) lo hi H Q :=
  .inr (.inr ⟨p, xs, rfl, SqT.of h, fun z => k p H (Gr.refl _) (by rw [cut_all z]; exact h), fun _ r hr => k r _ (Gr.new hr) upd_same⟩)
/-- two tuples, one behind the other -/
theorem r_catG {K : PySem.W.Frag} {H : Hp} {p q : Addr} {xs ys : List V} {Q : VK} (h1 : H p = some (.tup xs)) (h2 : H q = some (.tup ys)) (c : xs.length + ys.length ≤ sizeLine) (k : ∀ r H', Gr H H' → H' r = some (.tup (xs ++ ys)) → Q (.ref r) H') : rAddU K (.ref p) (.ref q) H Q :=
  .inr (.inr (.inr ⟨p, q, xs, ys, rfl, rfl, SqT.of h1, SqT.of h2, c, fun z => k q H (Gr.refl _) (by rw [z]; exact h2), fun _ z => k p H (Gr.refl _) (by rw [z, List.append_nil]; exact h1), fun _ _ r hr => k r _ (Gr.new hr) upd_same⟩))
theorem cut_mem {xs : List V} {lo hi : Option Int} {x : V} (h : x ∈ cutV xs lo hi) : x ∈ xs := by
  unfold cutV at h
  exact List.mem_of_mem_drop (List.mem_of_mem_take h)
theorem cut_le {xs : List V} {lo hi : Option Int} : (cutV xs lo hi).length ≤ xs.length := by
  unfold cutV
  rw [List.length_take, List.length_drop]
  omega
end My
namespace Tx
open PySem PySem.Spec PyProof.Rows L2 My LamX
section
variable {P : Program} {w : World} {K : PySem.W.Frag} {mg : Str → Option Value} {base : Heap}
theorem okV.iq {B H : Hp} : ∀ {v : V}, okV v → Iq B H 100 0 v
  | .str s, h => Iq.str (by have := h.2.1; omega) fun c hc => by have := (h.2.2 c hc).2; omega
  | .int i, h => Iq.int (by have := h.1; omega) (by have := h.2; omega)
theorem Act.len5 (a : Act) : 2 ≤ a.vs.length ∧ a.vs.length ≤ 5 := by
  cases a with
  | come _ _ _ _ => exact ⟨(show 2 ≤ 5 by decide), (show 5 ≤ 5 by decide)⟩
  | leave _ => exact ⟨(show 2 ≤ 2 by decide), (show 2 ≤ 5 by decide)⟩
  | move _ _ _ => exact ⟨(show 2 ≤ 4 by decide), (show 4 ≤ 5 by decide)⟩
  | swap _ _ => exact ⟨(show 2 ≤ 3 by decide), (show 3 ≤ 5 by decide)⟩
theorem iq_app {B H : Hp} {n m : Nat} {xs ys : List V} (h : ∀ x ∈ xs, Iq B H n m x) (r : ∀ x ∈ ys, Iq B H n m x) : ∀ x ∈ xs ++ ys, Iq B H n m x := fun x hx => by
  rcases List.mem_append.mp hx with hx | hx
  · exact h x hx
  · exact r x hx
theorem iq_cut {B H : Hp} {n m : Nat} {xs : List V} {lo hi : Option Int} (h : ∀ x ∈ xs, Iq B H n m x) : ∀ x ∈ cutV xs lo hi, Iq B H n m x := fun x hx => h x (cut_mem hx)
theorem iq_ke {B H H' : Hp} {n m : Nat} {xs : List V} (k : Ke B H H') (h : ∀ x ∈ xs, Iq B H n m x) : ∀ x ∈ xs, Iq B H' n m x := fun x hx => (h x hx).ke k
theorem iq_mono {B H : Hp} {n m n' m' : Nat} {xs : List V} (h : ∀ x ∈ xs, Iq B H n m x) (h1 : n ≤ n') (h2 : m ≤ m') : ∀ x ∈ xs, Iq B H n' m' x := fun x hx => (h x hx).mono h1 h2
/-! ### _law_bent -/
def spBent : Sp := fun vs H Q _ => ∃ (B : Hp) (z : PenI) (n : Nat) (p q : Addr) (us : List V) (rs : List Rw) (names : List Str), vs = [.ref (PenI.a z), .ref p, .ref q] ∧ (∀ b, H b = none → B b = none) ∧ Pen H z n ∧ n + 2000 ≤ 10 ^ 17 ∧ H p = some (.lst us) ∧ RowsAt H us rs ∧ RowsOk rs ∧ H q = some (.lst (names.map V.str)) ∧ names ≠ [] ∧ names.length ≤ 900 ∧ (∀ x ∈ names, IsNm x) ∧
  Aft z H n 300 (fun v H1 => Bq B H1 12000 4 v) Q
theorem ok_bent (T : Tx K mg) : FnR P w K mg base (L2.CX P w) 8 (a_Lbent K) spBent := by
  have F_Ldraw := ok_draw (P := P) (w := w) (base := base) T
  have F_Lpick := ok_pick (P := P) (w := w) (base := base) T
  have F_Ldrawn := ok_drawn (P := P) (w := w) (base := base) T
  have F_Lodd := ok_odd (P := P) (w := w) (base := base) T
  refine fnR_of T.f_Lbent sc_Lbent (fun _ _ _ _ _ _ us hl => match us, hl with | [_, _, _], _ => rfl) (fun vs H Q E h => ?_) fun A outer s H vs Q E cdv hr h => ?_
  · obtain ⟨B, z, n, p, q, us, rs, names, rfl, _⟩ := h
    rfl
  · obtain ⟨B, z, n, p, q, us, rs, names, rfl, hB, hp, hn, hu, hrow, hok, hq, hn0, hn9, hnm, k⟩ := h
    refine ⟨_, (pss_cons (ps_set (i := 3) sc_Lbent.nd rfl (by first | exact Or.inl rfl | exact Or.inr rfl) (pe_callR F_Ldrawn (hr.mono (by first | decide | omega)) T.k_Ldrawn rfl T.g__law_drawn passL (pa_cons (pv 0) (pa_cons (pv 1) (pa_cons (pv 2) pa_nil)))))
 (pss_cons (ps_par (i := 4) (j := 5) (by rfl) sc_Lbent.nd rfl rfl (by decide) rfl rfl (pa_cons (pe_callR F_Ldraw (hr.mono (by first | decide | omega)) T.k_Ldraw rfl T.g__law_draw passL (pa_cons (pv 0) (pa_cons pe_int pa_nil))) (pa_cons (pe_callR F_Ldraw (hr.mono (by first | decide | omega)) T.k_Ldraw rfl T.g__law_draw passL (pa_cons (pv 0) (pa_cons (pe_callB (call_lenUK (K := K) rfl) rfl T.n_len (by decide +kernel) (pa_cons (pv 3) pa_nil)) pa_nil))) pa_nil)) (by rfl))
 (pss_cons (ps_if (pt_cmpR (op_eqUK (K := K) rfl hr.units) (pv 4) pe_int (nomark _))
 (pss_one (ps_ret (pe_callR F_Lpick (hr.mono (by first | decide | omega)) T.k_Lpick rfl T.g__law_pick passL (pa_cons (pv 0) (pa_cons (pe_lst (pa_cons (pe_callR F_Lodd (hr.mono (by first | decide | omega)) T.k_Lodd rfl T.g__law_odd passL (pa_cons (pv 0) pa_nil)) (pa_cons (pe_tup (pa_cons pe_str pa_nil)) (pa_cons (pe_tup (pa_cons pe_str pa_nil)) (pa_cons (pe_tup (pa_cons pe_str (pa_cons pe_str pa_nil))) (pa_cons (pe_tup (pa_cons pe_str (pa_cons pe_str (pa_cons pe_str pa_nil)))) (pa_cons (pe_tup (pa_cons pe_str (pa_cons pe_str pa_nil))) pa_nil))))))) pa_nil)))))
 pss_nil)
 (pss_cons (ps_if (pt_cmpR (op_eqUK (K := K) rfl hr.units) (pv 4) pe_int (nomark _))
 (pss_one (ps_ret (pe_callR F_Lpick (hr.mono (by first | decide | omega)) T.k_Lpick rfl T.g__law_pick passL (pa_cons (pv 0) (pa_cons (pe_lst (pa_cons (pe_op (op_addUK (K := K) rfl) (pv 3) (pe_tup (pa_cons pe_int pa_nil))) (pa_cons (pe_slice (sl_anyK (K := K) rfl) (pv 3) po_none (po_some (pe_un un_neg pe_int))) (pa_cons (pe_callTy call_list_of rfl T.n_list (by decide +kernel) (pa_cons (pv 3) pa_nil)) (pa_cons (pe_tup (pa_cons (pv 3) pa_nil)) (pa_cons (pe_slice (sl_anyK (K := K) rfl) (pv 3) (po_some pe_int) po_none) (pa_cons (pe_op (op_addUK (K := K) rfl) (pe_tup (pa_cons pe_str pa_nil)) (pe_slice (sl_anyK (K := K) rfl) (pv 3) (po_some pe_int) po_none)) pa_nil))))))) pa_nil)))))
 pss_nil)
 (pss_cons (ps_if (pt_cmpR op_lt (pv 4) pe_int (nomark _))
 (pss_cons (ps_set (i := 6) sc_Lbent.nd rfl (by first | exact Or.inl rfl | exact Or.inr rfl) (pe_lst (pa_cons (pe_un un_neg pe_int) (pa_cons (pe_op op_pow pe_int pe_int) (pa_cons (pe_op (op_addUK (K := K) rfl) (pe_op op_pow pe_int pe_int) pe_int) (pa_cons (pe_op (op_addUK (K := K) rfl) (pe_op op_pow pe_int pe_int) pe_int) (pa_cons (pe_op op_sub (pe_un un_neg (pe_op op_pow pe_int pe_int)) pe_int) (pa_cons (pe_callR F_Lodd (hr.mono (by first | decide | omega)) T.k_Lodd rfl T.g__law_odd passL (pa_cons (pv 0) pa_nil)) (pa_cons (pe_callR F_Lodd (hr.mono (by first | decide | omega)) T.k_Lodd rfl T.g__law_odd passL (pa_cons (pv 0) pa_nil)) (pa_cons (pe_callR F_Lodd (hr.mono (by first | decide | omega)) T.k_Lodd rfl T.g__law_odd passL (pa_cons (pv 0) pa_nil)) pa_nil))))))))))
 (pss_one (ps_ret (pe_op (op_addUK (K := K) rfl) (pe_op (op_addUK (K := K) rfl) (pe_slice (sl_anyK (K := K) rfl) (pv 3) po_none (po_some (pv 5))) (pe_tup (pa_cons (pe_callR F_Lpick (hr.mono (by first | decide | omega)) T.k_Lpick rfl T.g__law_pick passL (pa_cons (pv 0) (pa_cons (pv 6) pa_nil))) pa_nil))) (pe_slice (sl_anyK (K := K) rfl) (pv 3) (po_some (pe_op (op_addUK (K := K) rfl) (pv 5) pe_int)) po_none)))))
 pss_nil)
 (pss_one (ps_ret (pv 3)))))))), ?_⟩
    try dsimp only [cxOf]
    walk_at "go"
    refine ⟨z, n, p, q, us, rs, names, rfl, hp, by omega, hu, hrow, hok, hq, hn0, hn9, hnm, fun v n1 H1 hv hn1 kp1 hp1 => ?_⟩
    obtain ⟨t, act, rfl, ht, hact⟩ := hv
    have hit : ∀ v ∈ act.vs, Iq B H1 100 0 v := fun v hv => okV.iq (hact.1 v hv)
    obtain ⟨l2, l5⟩ := Act.len5 act
    generalize act.vs = xs at ht hit l2 l5
    clear hact act hu hrow hok hq hn0 hnm
    walk_at "go"
    refine r_draw hp1 (by decide) (by decide) (by omega) fun way n2 H2 w0 w1 hn2 kp2 hp2 => ?_
    have ht2 := kp2.k _ _ rfl ht
    have hit := iq_ke (Ke.kp kp2) hit
    have kpa := kp1.trans kp2
    walk_at "go"
    refine r_draw hp2 (by omega) (by omega) (by omega) fun at' n3 H3 a0 a1 hn3 kp3 hp3 => ?_
    have ht3 := kp3.k _ _ rfl ht2
    have hit := iq_ke (Ke.kp kp3) hit
    have kpb := kpa.trans kp3
    have hB3 : ∀ b, H3 b = none → B b = none := fun b hb => hB b (kpb.f b hb)
    have k : Aft z H3 n3 60 (fun v H1 => Bq B H1 12000 4 v) Q := fun v n' H' hv hn' kp' hp' => k v n' H' hv (by omega) (kpb.trans kp') hp'
    have hn3' : n3 ≤ n + 220 := by omega
    clear hB hp hn1 kp1 hp1 ht kp2 hp2 ht2 kpa kp3 kpb hn2 hn3 w0 w1
    have bt : Bq B H3 1000 1 (.ref t) := Bq.tup hit ht3 (by omega)
    walk_at "go"
    refine r_iteD (fun e => ?_) fun e => ?_
    · walk_at "go"
      refine ⟨B, z, n3, rfl, hB3, hp3, by omega, fun v n4 H4 hv hn4 kp4 hp4 => ?_⟩
      have g0 : Kp H3 H4 := kp4
      have oo : BqL B H4 12000 4 [v] := BqL.cons (hv.mono (by decide) (by decide)) BqL.nil
      have g1 := Gr.refl H4
      walk_at "go"
      refine ⟨by show 1 ≤ 16777216; decide, fun q1 hq1 => ?_⟩
      have n1 := Gr.new (o := .tup [.str "come"]) hq1
      have up : (upd H4 q1 (.tup [.str "come"])) q1 = some (.tup [.str "come"]) := upd_same
      have oo := (oo.ke (Ke.gr n1)).app (BqL.cons (v := .ref q1) ((Bq.tup (iq_cons (Iq.str (by decide +kernel) (by decide +kernel)) (iq_nil)) up (by show 1 ≤ 8; decide)).mono (by decide) (by decide)) BqL.nil)
      have g1 := g1.trans n1
      generalize upd H4 q1 (.tup [.str "come"]) = G1 at up oo g1 ⊢
      clear up n1
      walk_at "go"
      refine ⟨by show 1 ≤ 16777216; decide, fun q2 hq2 => ?_⟩
      have n1 := Gr.new (o := .tup [.str "undo"]) hq2
      have up : (upd G1 q2 (.tup [.str "undo"])) q2 = some (.tup [.str "undo"]) := upd_same
      have oo := (oo.ke (Ke.gr n1)).app (BqL.cons (v := .ref q2) ((Bq.tup (iq_cons (Iq.str (by decide +kernel) (by decide +kernel)) (iq_nil)) up (by show 1 ≤ 8; decide)).mono (by decide) (by decide)) BqL.nil)
      have g1 := g1.trans n1
      generalize upd G1 q2 (.tup [.str "undo"]) = G2 at up oo g1 ⊢
      clear up n1
      walk_at "go"
      refine ⟨by show 2 ≤ 16777216; decide, fun q3 hq3 => ?_⟩
      have n1 := Gr.new (o := .tup [.str "act", .str "a"]) hq3
      have up : (upd G2 q3 (.tup [.str "act", .str "a"])) q3 = some (.tup [.str "act", .str "a"]) := upd_same
      have oo := (oo.ke (Ke.gr n1)).app (BqL.cons (v := .ref q3) ((Bq.tup (iq_cons (Iq.str (by decide +kernel) (by decide +kernel)) (iq_cons (Iq.str (by decide +kernel) (by decide +kernel)) (iq_nil))) up (by show 2 ≤ 8; decide)).mono (by decide) (by decide)) BqL.nil)
      have g1 := g1.trans n1
      generalize upd G2 q3 (.tup [.str "act", .str "a"]) = G3 at up oo g1 ⊢
      clear up n1
      walk_at "go"
      refine ⟨by show 3 ≤ 16777216; decide, fun q4 hq4 => ?_⟩
      have n1 := Gr.new (o := .tup [.str "leave", .str "a", .str "b"]) hq4
      have up : (upd G3 q4 (.tup [.str "leave", .str "a", .str "b"])) q4 = some (.tup [.str "leave", .str "a", .str "b"]) := upd_same
      have oo := (oo.ke (Ke.gr n1)).app (BqL.cons (v := .ref q4) ((Bq.tup (iq_cons (Iq.str (by decide +kernel) (by decide +kernel)) (iq_cons (Iq.str (by decide +kernel) (by decide +kernel)) (iq_cons (Iq.str (by decide +kernel) (by decide +kernel)) (iq_nil)))) up (by show 3 ≤ 8; decide)).mono (by decide) (by decide)) BqL.nil)
      have g1 := g1.trans n1
      generalize upd G3 q4 (.tup [.str "leave", .str "a", .str "b"]) = G4 at up oo g1 ⊢
      clear up n1
      walk_at "go"
      refine ⟨by show 2 ≤ 16777216; decide, fun q5 hq5 => ?_⟩
      have n1 := Gr.new (o := .tup [.str "swap", .str "a"]) hq5
      have up : (upd G4 q5 (.tup [.str "swap", .str "a"])) q5 = some (.tup [.str "swap", .str "a"]) := upd_same
      have oo := (oo.ke (Ke.gr n1)).app (BqL.cons (v := .ref q5) ((Bq.tup (iq_cons (Iq.str (by decide +kernel) (by decide +kernel)) (iq_cons (Iq.str (by decide +kernel) (by decide +kernel)) (iq_nil))) up (by show 2 ≤ 8; decide)).mono (by decide) (by decide)) BqL.nil)
      have g1 := g1.trans n1
      generalize upd G4 q5 (.tup [.str "swap", .str "a"]) = G5 at up oo g1 ⊢
      clear up n1
      walk_at "go"
      refine ⟨by show 6 ≤ 16777216; decide, fun pl hpl => ?_⟩
      have l8 : BqL B G5 12000 4 [v, V.ref q1, V.ref q2, V.ref q3, V.ref q4, V.ref q5] := oo
      generalize hgl : [v, V.ref q1, V.ref q2, V.ref q3, V.ref q4, V.ref q5] = ys at l8 ⊢
      have hy0 : ys ≠ [] := by rw [← hgl]; simp
      have hyl : ys.length ≤ 1000 := by rw [← hgl]; show 6 ≤ 1000; decide
      have n8 := Gr.new (o := .lst ys) hpl
      have g2 := g1.trans n8
      walk_at "go"
      refine r_pickL (g2.pen hp4) (SqL.of upd_same) hy0 hyl (by omega) fun v2 n5 H5 hv5 hn5 kp5 hp5 => ?_
      walk_at "go"
      exact k v2 n5 H5 ((l8 v2 hv5).ke ((Ke.gr n8).trans (Ke.kp kp5))) (by omega) ((g0.trans g2.kp).trans kp5) hp5
    walk_at "go"
    refine r_iteD (fun e => ?_) fun e => ?_
    · walk_at "go"
      refine ⟨by show 1 ≤ 16777216; decide, fun q0 hq0 => ?_⟩
      have g1 := Gr.new (o := .tup [.int 0]) hq0
      have up : (upd H3 q0 (.tup [.int 0])) q0 = some (.tup [.int 0]) := upd_same
      have ht := g1.e _ _ ht3
      have hit := iq_ke (Ke.gr g1) hit
      generalize upd H3 q0 (.tup [.int 0]) = G0 at g1 up ht hit ⊢
      refine r_catG ht up (by show _ + 1 ≤ 16777216; omega) fun q1 G1 n1 hq1 => ?_
      have oo : BqL B G1 12000 4 [.ref q1] := BqL.cons ((Bq.tup' (N := 12000) (iq_app (iq_ke (Ke.gr n1) hit) (iq_cons (Iq.int (by decide +kernel) (by decide +kernel)) iq_nil)) hq1 (by decide) (by decide) (by rw [List.length_append]; show 102 * (_ + 1) + 3 ≤ 12000; omega)).mono (by decide) (by decide)) BqL.nil
      have g1 := g1.trans n1
      have ht := n1.e _ _ ht
      have hit := iq_ke (Ke.gr n1) hit
      clear n1 hq1 up hq0
      walk_at "go"
      refine r_slG ht fun q2 G2 n1 hq2 => ?_
      have oo := (oo.ke (Ke.gr n1)).app (BqL.cons (v := .ref q2) ((Bq.tup' (N := 12000) (iq_cut (iq_ke (Ke.gr n1) hit)) hq2 (by decide) (by decide) (by have := cut_le (xs := xs) (lo := none) (hi := some (-1)); omega)).mono (by decide) (by decide)) BqL.nil)
      have g1 := g1.trans n1
      have ht := n1.e _ _ ht
      have hit := iq_ke (Ke.gr n1) hit
      clear n1 hq2
      walk_at "go"
      refine ⟨t, xs, rfl, .inr (SqT.of ht), fun q3 hq3 => ?_⟩
      have n1 := Gr.new (o := .lst xs) hq3
      have hb : B q3 = none := hB3 _ (g1.f _ hq3)
      have up : (upd G2 q3 (.lst xs)) q3 = some (.lst xs) := upd_same
      have oo := (oo.ke (Ke.gr n1)).app (BqL.cons (v := .ref q3) (Bq.oth ((Iq.list (N := 12000) (iq_ke (Ke.gr n1) hit) up hb (by omega)).mono (by decide) (by decide)) (fun _ e => by rw [up] at e; cases e)) BqL.nil)
      have g1 := g1.trans n1
      have ht := n1.e _ _ ht
      have hit := iq_ke (Ke.gr n1) hit
      generalize upd G2 q3 (.lst xs) = G3 at up oo g1 ht hit ⊢
      clear n1 up hb
      walk_at "go"
      refine ⟨by show 1 ≤ 16777216; decide, fun q4 hq4 => ?_⟩
      have n1 := Gr.new (o := .tup [.ref t]) hq4
      have up : (upd G3 q4 (.tup [.ref t])) q4 = some (.tup [.ref t]) := upd_same
      have oo := (oo.ke (Ke.gr n1)).app (BqL.cons (v := .ref q4) ((Bq.tup' (N := 12000) (iq_cons (bt.ke (Ke.gr (g1.trans n1))).1 iq_nil) up (by decide) (by decide) (by show 1002 * 1 + 3 ≤ 12000; decide)).mono (by decide) (by decide)) BqL.nil)
      have g1 := g1.trans n1
      have ht := n1.e _ _ ht
      have hit := iq_ke (Ke.gr n1) hit
      generalize upd G3 q4 (.tup [.ref t]) = G4 at up oo g1 ht hit ⊢
      clear n1 up
      walk_at "go"
      refine r_slG ht fun q5 G5 n1 hq5 => ?_
      have oo := (oo.ke (Ke.gr n1)).app (BqL.cons (v := .ref q5) ((Bq.tup' (N := 12000) (iq_cut (iq_ke (Ke.gr n1) hit)) hq5 (by decide) (by decide) (by have := cut_le (xs := xs) (lo := some 1) (hi := none); omega)).mono (by decide) (by decide)) BqL.nil)
      have g1 := g1.trans n1
      have ht := n1.e _ _ ht
      have hit := iq_ke (Ke.gr n1) hit
      clear n1 hq5
      walk_at "go"
      refine ⟨by show 1 ≤ 16777216; decide, fun q6 hq6 => ?_⟩
      have n1 := Gr.new (o := .tup [.str "Come"]) hq6
      have up : (upd G5 q6 (.tup [.str "Come"])) q6 = some (.tup [.str "Come"]) := upd_same
      have oo := oo.ke (Ke.gr n1)
      have g1 := g1.trans n1
      have ht := n1.e _ _ ht
      have hit := iq_ke (Ke.gr n1) hit
      generalize upd G5 q6 (.tup [.str "Come"]) = G6 at up oo g1 ht hit ⊢
      clear n1
      walk_at "go"
      refine r_slG ht fun q7 G7 n1 hq7 => ?_
      have up := n1.e _ _ up
      have oo := oo.ke (Ke.gr n1)
      have g1 := g1.trans n1
      have hit := iq_ke (Ke.gr n1) hit
      clear n1
      have hcl := cut_le (xs := xs) (lo := some 1) (hi := none)
      refine r_catG up hq7 (by show 1 + _ ≤ 16777216; omega) fun q8 G8 n1 hq8 => ?_
      have oo := (oo.ke (Ke.gr n1)).app (BqL.cons (v := .ref q8) ((Bq.tup' (N := 12000) (iq_app (iq_cons (Iq.str (by decide +kernel) (by decide +kernel)) iq_nil) (iq_cut (iq_ke (Ke.gr n1) hit))) hq8 (by decide) (by decide) (by rw [List.length_append]; show 102 * (1 + _) + 3 ≤ 12000; omega)).mono (by decide) (by decide)) BqL.nil)
      have g1 := g1.trans n1
      clear n1 hq8
      walk_at "go"
      refine ⟨by show 6 ≤ 16777216; decide, fun pl hpl => ?_⟩
      have l8 : BqL B G8 12000 4 [V.ref q1, V.ref q2, V.ref q3, V.ref q4, V.ref q5, V.ref q8] := oo
      generalize hgl : [V.ref q1, V.ref q2, V.ref q3, V.ref q4, V.ref q5, V.ref q8] = ys at l8 ⊢
      have hy0 : ys ≠ [] := by rw [← hgl]; simp
      have hyl : ys.length ≤ 1000 := by rw [← hgl]; show 6 ≤ 1000; decide
      have n8 := Gr.new (o := .lst ys) hpl
      have g2 := g1.trans n8
      walk_at "go"
      refine r_pickL (g2.pen hp3) (SqL.of upd_same) hy0 hyl (by omega) fun v2 n5 H5 hv5 hn5 kp5 hp5 => ?_
      walk_at "go"
      exact k v2 n5 H5 ((l8 v2 hv5).ke ((Ke.gr n8).trans (Ke.kp kp5))) (by omega) (g2.kp.trans kp5) hp5
    walk_at "go"
    refine r_iteD (fun e => ?_) fun e => ?_
    · walk_at "go"
      refine ⟨B, z, n3, rfl, hB3, hp3, by omega, fun v4 n4 H4 hv4 hn4 kp4 hp4 => ?_⟩
      walk_at "go"
      refine ⟨B, z, n4, rfl, fun b hb => hB3 b (kp4.f b hb), hp4, by omega, fun v5 n5 H5 hv5 hn5 kp5 hp5 => ?_⟩
      walk_at "go"
      refine ⟨B, z, n5, rfl, fun b hb => hB3 b (kp4.f b (kp5.f b hb)), hp5, by omega, fun v6 n6 H6 hv6 hn6 kp6 hp6 => ?_⟩
      have hv4 := hv4.ke ((Ke.kp kp5).trans (Ke.kp kp6))
      have hv5 := hv5.ke (Ke.kp kp6)
      have kpc := (kp4.trans kp5).trans kp6
      walk_at "go"
      refine ⟨by show 8 ≤ 16777216; decide, fun pl hpl => ?_⟩
      have l8 : ∀ x ∈ [V.int (-1), V.int (10 ^ Int.toNat 30), V.int (10 ^ Int.toNat 30 + 1), V.int (10 ^ Int.toNat 18 + 1), V.int (-10 ^ Int.toNat 18 - 1), v4, v5, v6], Iq B H6 1000 1 x := by
        have I : ∀ {i : Int}, -(10 ^ 82) ≤ i → i ≤ 10 ^ 82 → Iq B H6 1000 1 (.int i) := fun h1 h2 => (Iq.int (m := 0) h1 h2).mono (by decide) (by decide)
        exact iq_cons (I (by decide +kernel) (by decide +kernel)) (iq_cons (I (by decide +kernel) (by decide +kernel)) (iq_cons (I (by decide +kernel) (by decide +kernel)) (iq_cons (I (by decide +kernel) (by decide +kernel)) (iq_cons (I (by decide +kernel) (by decide +kernel)) (iq_cons hv4.1 (iq_cons hv5.1 (iq_cons hv6.1 iq_nil)))))))
      generalize hgl : [V.int (-1), V.int (10 ^ Int.toNat 30), V.int (10 ^ Int.toNat 30 + 1), V.int (10 ^ Int.toNat 18 + 1), V.int (-10 ^ Int.toNat 18 - 1), v4, v5, v6] = ys at l8 ⊢
      have hy0 : ys ≠ [] := by rw [← hgl]; simp
      have hyl : ys.length ≤ 1000 := by rw [← hgl]; show 8 ≤ 1000; decide
      have n8 := Gr.new (o := .lst ys) hpl
      have kpd := kpc.trans n8.kp
      have hl8 : (upd H6 pl (.lst ys)) pl = some (.lst ys) := upd_same
      have l8 := iq_ke (Ke.gr n8) l8
      have hp7 := n8.pen hp6
      have ht7 := kpd.k _ _ rfl ht3
      have hit7 := iq_ke (Ke.kp kpd) hit
      generalize upd H6 pl (.lst ys) = H7 at kpd hl8 l8 hp7 ht7 hit7 ⊢
      clear n8 kpc kp4 kp5 kp6 hp4 hp5 hp6 hv4 hv5 hv6 hgl
      walk_at "go"
      refine r_slG ht7 fun q1 G1 g1 hq1 => ?_
      walk_at "go"
      refine r_pickL (g1.pen hp7) (SqL.of (g1.e _ _ hl8)) hy0 hyl (by omega) fun v8 n8 H8 hv8 hn8 kp8 hp8 => ?_
      have iv := (l8 v8 hv8).ke ((Ke.gr g1).trans (Ke.kp kp8))
      have ht8 := kp8.k _ _ rfl (g1.e _ _ ht7)
      have hq8 := kp8.k _ _ rfl hq1
      have hit8 := iq_ke ((Ke.gr g1).trans (Ke.kp kp8)) hit7
      have kpe := (kpd.trans g1.kp).trans kp8
      clear g1 kp8 hq1 hit7 ht7 kpd hp7 l8 hl8 hv8
      walk_at "go"
      refine ⟨by show 1 ≤ 16777216; decide, fun q2 hq2 => ?_⟩
      have n1 := Gr.new (o := .tup [v8]) hq2
      have up : (upd H8 q2 (.tup [v8])) q2 = some (.tup [v8]) := upd_same
      have ht9 := n1.e _ _ ht8
      have hq9 := n1.e _ _ hq8
      have hit9 := iq_ke (Ke.gr n1) hit8
      have iv9 := iv.ke (Ke.gr n1)
      have kpf := kpe.trans n1.kp
      have hp9 := n1.pen hp8
      generalize upd H8 q2 (.tup [v8]) = H9 at up ht9 hq9 hit9 iv9 kpf hp9 ⊢
      clear n1 kpe iv hit8 hq8 ht8
      have c1 := cut_le (xs := xs) (lo := none) (hi := some at')
      refine r_catG hq9 up (by show _ + 1 ≤ 16777216; omega) fun q3 G3 n1 hq3 => ?_
      walk_at "go"
      refine r_slG (n1.e _ _ ht9) fun q4 G4 n2 hq4 => ?_
      have c2 := cut_le (xs := xs) (lo := some (at' + 1)) (hi := none)
      refine r_catG (n2.e _ _ hq3) hq4 (by rw [List.length_append]; show _ + 1 + _ ≤ 16777216; omega) fun q5 G5 n3' hq5 => ?_
      have gg := (n1.trans n2).trans n3'
      walk_at "go"
      refine k (.ref q5) n8 G5 ?_ (by omega) (kpf.trans gg.kp) (gg.pen hp9)
      refine (Bq.tup' (N := 12000) (n := 1000) (m := 1) (iq_app (iq_app (iq_cut (iq_mono (iq_ke (Ke.gr gg) hit9) (by decide) (by decide))) (iq_cons (iv9.ke (Ke.gr gg)) iq_nil)) (iq_cut (iq_mono (iq_ke (Ke.gr gg) hit9) (by decide) (by decide)))) hq5 (by decide) (by decide) ?_).mono (by decide) (by decide)
      rw [List.length_append, List.length_append]
      show 1002 * (_ + 1 + _) + 3 ≤ 12000
      omega
    walk_at "go"
    exact k (.ref t) n3 H3 (bt.mono (by decide) (by decide)) (by omega) (Kp.refl _) hp3
end
end Tx

set_option maxRecDepth 100000
set_option maxHeartbeats 4000000
namespace Tx
open PySem PySem.Spec PyProof.Rows L2 My LamX
section
variable {P : Program} {w : World} {K : PySem.W.Frag} {mg : Str → Option Value} {base : Heap}
/-! ### law -/
def qLam : Str := ("law" : Str) ++ (".<locals>." : Str) ++ ("<lambda>" : Str)
theorem qLam_eq : ("law" : Str) ++ (".<locals>." : Str) ++ ("<lambda>" : Str) = qLam := rfl
abbrev tbL (K : PySem.W.Frag) : List (Addr × Str) := [(Hk.tabAt K (a_law K), qLam)]
def spLaw (K : PySem.W.Frag) : Sp := fun vs H Q _ => ∃ p, ∃ ns : List Int, vs = [.ref p] ∧ SqL K H p (ns.map V.int) ∧ Tabs (tbL K) H ∧ ∀ H1, Q (.bl true) H1
/-- the script: read, never written -/
structure ScOk (K : PySem.W.Frag) (p : Addr) (ns : List Int) (Sc : Hp → Prop) : Prop where
  rd : ∀ H, Sc H → SqL K H p (ns.map V.int)
  kp : ∀ H H', Kp H H' → Sc H → Sc H'
  ex : ∀ H H', ExtN H H' → Sc H → Sc H'
  kx : ∀ H, Sc H → ∀ y D, H y = none → H D = none → ∀ H2 H3, Kx [y, D] H2 H3 → Sc H2 → Sc H3
theorem script_ok {H : Hp} {p : Addr} {ns : List Int} (h : SqL K H p (ns.map V.int)) : ∃ Sc, Sc H ∧ ScOk K p ns Sc := by
  have out : ∀ {H : Hp} {o : HO}, H p = some o → ∀ y D, H y = none → H D = none → ∀ H2 H3, Kx [y, D] H2 H3 → H2 p = some o → H3 p = some o := fun hp y D hy hD H2 H3 k e => k.k _ _ (by
    simp only [List.mem_cons, List.not_mem_nil, or_false]
    rintro (rfl | rfl)
    · rw [hy] at hp; cases hp
    · rw [hD] at hp; cases hp) e
  rcases h with (h | ⟨o, h⟩) | h
  · exact ⟨fun H => H p = some (.lst (ns.map V.int)), h, fun H h => SqL.of h, fun H H' k h => k.l h, fun H H' e h => exN_l e h, fun H h => out h⟩
  · exact ⟨fun H => H p = some (.frz o (.lst (ns.map V.int))), h, fun H h => .inl (.inr ⟨o, h⟩), fun H H' k h => k.k _ _ rfl h, fun H H' e h => e _ _ h (fun _ z => nomatch z), fun H h => out h⟩
  · exact ⟨fun _ => True, trivial, fun H _ => .inr h, fun _ _ _ _ => trivial, fun _ _ _ _ => trivial, fun _ _ _ _ _ _ _ _ _ _ => trivial⟩
theorem fo_put {H : Hp} {p : Addr} {xs ys : List V} (h : H p = some (.lst xs)) : Fo H (upd H p (.lst ys)) := fun b o hf e => by
  by_cases hb : b = p
  · subst hb
    rw [h] at e
    have e := Option.some.inj e
    subst e
    rcases hf with ⟨_, hf⟩ | ⟨_, _, hf⟩ | ⟨_, _, _, _, hf⟩ | ⟨_, _, _, hf⟩ | ⟨_, _, hf⟩ <;> cases hf
  · rw [upd_ne hb]
    exact e
def nextS (sts : List Stp) (ts : List V) : Res → List Stp
  | .ok rs => sts ++ [(ts, rs)]
  | .bad _ _ => sts
def toldW (tv : V → Str) : Res → List V
  | .ok _ => [.str "made", .non]
  | .bad c v => [.str c.word, .str (tv v), .bl true]
def toldD (tv : V → Str) : Res → PyData
  | .ok _ => .list [.str "made", .none]
  | .bad c v => .list [.str c.word, .str (tv v), .bool true]
theorem word_sh {c : Kd} : ShQ (.str c.word) 300000 0 := by cases c <;> exact ⟨rfl, by decide, by decide +kernel, by decide +kernel⟩
theorem toldD_sh {tv : V → Str} {r : Res} (h : ∀ c v, r = .bad c v → (tv v).length ≤ 20000 ∧ Sg (tv v)) : ShQ (toldD tv r) 1000000 1 := by
  cases r with
  | ok rs =>
    have q : ShQ (.list [.str "made", .none]) 100 1 := ⟨rfl, by decide, by decide +kernel, by decide +kernel⟩
    exact ShQ.mono (n := 100) (m := 1) q (by decide) (by decide)
  | bad c v =>
    obtain ⟨h1, h2⟩ := h c v rfl
    have e1 := StrLaws.reprText_len (tv v) fun c hc => by
      have e : (16 : Nat) ^ 8 = 4294967296 := by decide
      have := h2 c hc
      omega
    have s2 : ShQ (.str (tv v)) 300000 0 := ⟨rfl, Nat.zero_le _, (show (reprText (tv v)).length ≤ 300000 by omega), (show Sg (reprText (tv v)) from repr_signs h2)⟩
    have s3 : ShQ (.bool true) 300000 0 := ⟨rfl, by decide, by decide +kernel, by decide +kernel⟩
    refine ShQ.list (n := 300000) (m := 0) (l := [.str c.word, .str (tv v), .bool true]) (fun d hd => ?_) (by show 300002 * 3 + 2 ≤ 1000000; decide)
    simp only [List.mem_cons, List.not_mem_nil, or_false] at hd
    rcases hd with rfl | rfl | rfl
    · exact word_sh
    · exact s2
    · exact s3
theorem r_told {tv : V → Str} {r : Res} {H : Hp} {q : Addr} {Q : VK} (h : ShQ (toldD tv r) 1000000 1) (hq : H q = some (.lst (toldW tv r))) (k : Q (.str (toldD tv r).shown) H) : rReprQ [.ref q] H Q := by
  refine ⟨fun _ => none, _, toldD tv r, rfl, ?_, h.sh, Nat.le_trans h.dp (by decide), Nat.le_trans h.ln (by decide), k⟩
  cases r with
  | ok rs => exact .lst hq rfl (.cons (.str _) (.cons .non .nil))
  | bad c v => exact .lst hq rfl (.cons (.str _) (.cons (.str _) (.cons (.bl _) .nil)))
/-- what is due -/
def DueT (tv : V → Str) (H : Hp) (D qd : Addr) : Res → Prop
  | .ok rs => ∃ us, H qd = some (.lst us) ∧ RowsAt H us rs ∧ qd ≠ D
  | .bad c v => H qd = some (.lst [.str c.word, .str (tv v), .bl true]) ∧ qd ≠ D
theorem DueT.by {tv : V → Str} {H H' : Hp} {D qd : Addr} (e : Fo H H') (l : ∀ q xs, q ≠ D → H q = some (.lst xs) → H' q = some (.lst xs)) : ∀ {r : Res}, DueT tv H D qd r → DueT tv H' D qd r
  | .ok _, ⟨us, h1, h2, h3⟩ => ⟨us, l _ _ h3 h1, RowsAt.fo e h2, h3⟩
  | .bad _ _, ⟨h1, h3⟩ => ⟨l _ _ h3 h1, h3⟩
/-! ### what repr makes of values, once for all -/
open Classical in
noncomputable def tvOf (B H : Hp) (v : V) : Str := if h : ∃ d, Dq B H v d ∧ ShQ d 20000 6 then (Classical.choose h).shown else shV v
theorem Iq.it {B H : Hp} {n m : Nat} {v : V} (h : Iq B H n m v) (h1 : n ≤ 20000) (h2 : m ≤ 6) : It B H (tvOf B H) v := by
  obtain ⟨h3, d, h4, h5⟩ := h
  have hx : ∃ d, Dq B H v d ∧ ShQ d 20000 6 := ⟨d, h4, h5.mono h1 h2⟩
  have hc := Classical.choose_spec hx
  refine ⟨h3, Classical.choose hx, hc.1, hc.2, ?_⟩
  unfold tvOf
  rw [dif_pos hx]
theorem tvOf_ok {B H : Hp} : TvOk (tvOf B H) := fun v h => by
  obtain ⟨d, h2, h3, h4⟩ := shK_data (B := B) (H := H) h
  have hx : ∃ d, Dq B H v d ∧ ShQ d 20000 6 := ⟨d, h2, h3.mono (by decide) (by decide)⟩
  have hc := (Classical.choose_spec hx).1
  have e : ∀ d', Dq B H v d' → d' = d := fun d' h' => by
    rcases h with ⟨s, rfl, _⟩ | ⟨i, rfl, _⟩
    · cases h'
      cases h2
      rfl
    · cases h'
      cases h2
      rfl
  unfold tvOf
  rw [dif_pos hx, e _ hc, h4]
theorem badP_not {d : PyData} (h : badP d = false) : ∃ z ds, d = .tuple (.str z :: ds) ∧ szO z = some (ds.length + 1) := by
  unfold badP at h
  split at h
  · rename_i z r
    exact ⟨z, r, rfl, by simpa using h⟩
  · cases h
theorem Bq.av {B H : Hp} {v : V} (h : Bq B H 12000 4 v) : ∃ av, AvAt B H (tvOf B H) v av := by
  have hi := Iq.it h.1 (by decide) (by decide)
  obtain ⟨h1, d, h2, h3⟩ := id h.1
  cases hb : badP d with
  | true => exact ⟨.odd v, rfl, hi, d, h2, hb⟩
  | false =>
    obtain ⟨z, ds, rfl, hz⟩ := badP_not hb
    cases h2 with
    | @tup a xs _ h0 ha =>
      cases ha with
      | @cons x xs _ _ hx hr =>
        cases hx
        rw [← hr.len] at hz
        obtain ⟨act, e⟩ := act_of hz
        refine ⟨.act act, a, rfl, by rw [e]; exact h0, fun y hy => ?_⟩
        rw [e] at hy
        exact Iq.it (h.2 a _ rfl h0 y hy) (by decide) (by decide)
theorem avs_of {B H : Hp} : ∀ {ts : List V}, BqL B H 12000 4 ts → ∃ avs, AvsAt B H (tvOf B H) ts avs
  | [], _ => ⟨[], trivial⟩
  | v :: ts, h => by
    obtain ⟨a, ha⟩ := Bq.av (h v List.mem_cons_self)
    obtain ⟨l, hl⟩ := avs_of (ts := ts) fun x hx => h x (List.mem_cons_of_mem _ hx)
    exact ⟨a :: l, ha, hl⟩
theorem reprS_le {s : Str} (h : Sg s) : (reprText s).length ≤ 10 * s.length + 2 := StrLaws.reprText_len s fun c hc => by
  have e : (16 : Nat) ^ 8 = 4294967296 := by decide
  have := h c hc
  omega
/-! ### the state of the law -/
structure T6 (K : PySem.W.Frag) (Sc : Hp → Prop) (H : Hp) (z : PenI) (y D pr ps : Addr) (names : List Str) (n : Nat) (sts : List Stp) (us : List V) : Prop where
  pen : Pen H z n
  tabs : Tabs (tbL K) H
  sc : Sc H
  ya : YAt K H y D sts []
  row : H pr = some (.lst us)
  rows : RowsAt H us (lastR sts)
  spare : H ps = some (.lst (names.map V.str))
  n1 : pr ≠ D
  n3 : ps ≠ D
  n4 : z.c ≠ D
section
variable {Sc : Hp → Prop} {p : Addr} {ns : List Int} {H H' : Hp} {z : PenI} {y D pr ps pa qd : Addr} {names : List Str} {n n' : Nat} {sts X X' : List Stp} {us ts : List V}
theorem T6.kp (SC : ScOk K p ns Sc) (s : T6 K Sc H z y D pr ps names n sts us) (k : Kp H H') (hp : Pen H' z n') : T6 K Sc H' z y D pr ps names n' sts us :=
  ⟨hp, tabs_kp s.tabs k, SC.kp _ _ k s.sc, s.ya.kp k, k.l s.row, RowsAt.fo (Fo.kp k) s.rows, k.l s.spare, s.n1, s.n3, s.n4⟩
theorem T6.gr (SC : ScOk K p ns Sc) (s : T6 K Sc H z y D pr ps names n sts us) (g : Gr H H') : T6 K Sc H' z y D pr ps names n sts us := s.kp SC g.kp (g.pen s.pen)
end
structure T8 (K : PySem.W.Frag) (Sc : Hp → Prop) (B : Hp) (tv : V → Str) (dK : PyData) (r : Res) (H : Hp) (z : PenI) (y D pr ps pa qd : Addr) (names : List Str) (n : Nat) (X sts : List Stp) (us : List V) : Prop where
  pen : Pen H z n
  tabs : Tabs (tbL K) H
  sc : Sc H
  ya : YAt K H y D X []
  row : H pr = some (.lst us)
  rows : RowsAt H us (lastR sts)
  spare : H ps = some (.lst (names.map V.str))
  n1 : pr ≠ D
  n3 : ps ≠ D
  n4 : z.c ≠ D
  dk : Dq B H (.ref pa) dK
  due : DueT tv H D qd r
section
variable {Sc : Hp → Prop} {B : Hp} {tv : V → Str} {dK : PyData} {r : Res} {p : Addr} {ns : List Int} {H H' : Hp} {z : PenI} {y D pr ps pa qd : Addr} {names : List Str} {n n' : Nat} {sts X X' : List Stp} {us : List V}
theorem T8.to (s : T8 K Sc B tv dK r H z y D pr ps pa qd names n X sts us) (e : Fo H H') (l : ∀ q xs, q ≠ D → H q = some (.lst xs) → H' q = some (.lst xs)) (k : Ke B H H') (h1 : Pen H' z n') (h2 : Tabs (tbL K) H') (h3 : Sc H') (h4 : YAt K H' y D X' []) : T8 K Sc B tv dK r H' z y D pr ps pa qd names n' X' sts us :=
  ⟨h1, h2, h3, h4, l _ _ s.n1 s.row, RowsAt.fo e s.rows, l _ _ s.n3 s.spare, s.n1, s.n3, s.n4, Dq.ke k _ _ s.dk, s.due.by e l⟩
theorem T8.gr (SC : ScOk K p ns Sc) (s : T8 K Sc B tv dK r H z y D pr ps pa qd names n X sts us) (g : Gr H H') : T8 K Sc B tv dK r H' z y D pr ps pa qd names n X sts us :=
  s.to (Fo.gr g) (fun _ _ _ h => g.e _ _ h) (Ke.gr g) (g.pen s.pen) (tabs_gr s.tabs g) (SC.kp _ _ g.kp s.sc) (s.ya.gr g)
end
theorem BqL.bas {B B' H : Hp} {n m : Nat} {xs : List V} (k : ∀ b, B b = none → B' b = none) (h : BqL B H n m xs) : BqL B' H n m xs := fun v hv => by
  have one : ∀ {n m : Nat} {v : V}, Iq B H n m v → Iq B' H n m v := fun ⟨h1, d, h2, h3⟩ => ⟨h1, d, Dq.base k _ _ h2, h3⟩
  exact ⟨one (h v hv).1, fun t xs e e2 x hx => one ((h v hv).2 t xs e e2 x hx)⟩
theorem Ke.exN {B H H' : Hp} (e : ExtN H H') : Ke B H H' := ⟨fun b xs h => e _ _ h fun _ z => (nomatch z), fun b xs _ h => e _ _ h fun _ z => (nomatch z), fun b kvs _ _ h => e _ _ h fun _ z => (nomatch z)⟩
theorem szO_none {z : Str} (h : szO z = none) : z ∉ (["come", "leave", "move", "swap"] : List Str) := fun hm => by
  simp only [List.mem_cons, List.not_mem_nil, or_false] at hm
  rcases hm with rfl | rfl | rfl | rfl
  · rw [szO_come] at h; cases h
  · rw [szO_leave] at h; cases h
  · rw [szO_move] at h; cases h
  · rw [szO_swap] at h; cases h
theorem dpw_of {h : Heap} (c : Hk.SaysW ck fnL esL tfL dsL w K h) : DPW K w := ⟨Hk.SaysW.dic c 0 rfl, fun z hz => Hk.SaysW.miss c 0 (t := ("PARTS", ["come", "leave", "move", "swap"])) rfl (szO_none hz)⟩
/-! ### the yard of forty -/
def nmK (k : Nat) : Str := "q" ++ (⟨#[97 + k % 20]⟩ : Str) ++ (⟨#[97 + k / 20]⟩ : Str)
def rowK (k : Nat) : Rw := ⟨nmK k, k, 7 * k, 3 - 6 * ((k : Int) % 2)⟩
def rowsK (k : Nat) : List Rw := (List.range k).map rowK
theorem nmK_ok : ∀ k < 40, nmB (nmK k) = true ∧ hasV (rowsK k) (.str (nmK k)) = false := by decide +kernel
theorem numK (k : Nat) (h : k < 40) : NumOk (rowK k) := by
  have e30 : (10 : Int) ^ 30 = 1000000000000000000000000000000 := by decide
  have e18 : (10 : Int) ^ 18 = 1000000000000000000 := by decide
  unfold NumOk rowK
  dsimp only
  omega
theorem rowsK_ok : ∀ k ≤ 40, RowsOk (rowsK k) := fun k hk => by
  have hm : ∀ r ∈ rowsK k, ∃ j < 40, r = rowK j := fun r hr => by
    obtain ⟨j, hj, rfl⟩ := List.mem_map.mp hr
    exact ⟨j, by have := List.mem_range.mp hj; omega, rfl⟩
  refine ⟨fun r hr => ?_, ?_, fun r hr => ?_, by unfold rowsK; rw [List.length_map, List.length_range]; exact hk⟩
  · obtain ⟨j, hj, rfl⟩ := hm r hr
    exact numK j hj
  · have : ∀ k ≤ 40, ((rowsK k).map Rw.nm).Nodup := by decide +kernel
    exact this k hk
  · obtain ⟨j, hj, rfl⟩ := hm r hr
    exact nmB_iff.mp (nmK_ok j hj).1
theorem letK : ∀ i < 40, atI (("abcdefghijklmnopqrst" : Str).cps.toList) ((i : Nat) % 20 : Int) = some (97 + i % 20) := by decide +kernel
theorem letAB : ∀ i < 40, atI (("ab" : Str).cps.toList) ((i : Nat) / 20 : Int) = some (97 + i / 20) := by decide +kernel
/-- come with these values is done -/
theorem come_ok {rs : List Rw} {r : Rw} (h : RowsOk rs) (hn : IsNm r.nm) (ho : NumOk r) (hf : hasV rs (.str r.nm) = false) (hl : rs.length < 40) : stepA rs (.come (.str r.nm) (.int r.day) (.int r.post) (.int r.pace)) = .ok (rs ++ [r]) := by
  show (match why (.str r.nm) (.int r.day) (.int r.post) (.int r.pace) with
    | some y => Res.bad .painter (.str y)
    | none => addR rs (rowOf (.str r.nm) (.int r.day) (.int r.post) (.int r.pace))) = _
  rw [why_row hn ho]
  show addR rs r = _
  rw [addR_eq h.2.1, hf, if_neg (by decide), if_pos hl]
theorem come_many {rs : List Rw} {r : Rw} (h : RowsOk rs) (hn : IsNm r.nm) (ho : NumOk r) (hf : hasV rs (.str r.nm) = false) (hl : ¬ rs.length < 40) : stepA rs (.come (.str r.nm) (.int r.day) (.int r.post) (.int r.pace)) = .bad .many (.int 40) := by
  show (match why (.str r.nm) (.int r.day) (.int r.post) (.int r.pace) with
    | some y => Res.bad .painter (.str y)
    | none => addR rs (rowOf (.str r.nm) (.int r.day) (.int r.post) (.int r.pace))) = _
  rw [why_row hn ho]
  show addR rs r = _
  rw [addR_eq h.2.1, hf, if_neg (by decide), if_neg hl]
theorem come_twice {rs : List Rw} {r : Rw} (h : RowsOk rs) (hn : IsNm r.nm) (ho : NumOk r) (hf : hasV rs (.str r.nm) = true) : stepA rs (.come (.str r.nm) (.int r.day) (.int r.post) (.int r.pace)) = .bad .twice (.str r.nm) := by
  show (match why (.str r.nm) (.int r.day) (.int r.post) (.int r.pace) with
    | some y => Res.bad .painter (.str y)
    | none => addR rs (rowOf (.str r.nm) (.int r.day) (.int r.post) (.int r.pace))) = _
  rw [why_row hn ho]
  show addR rs r = _
  rw [addR_eq h.2.1, if_pos hf]
theorem one_step {rs : List Rw} {a : Act} : stepsW rs [.act a] = match stepA rs a with
    | .ok q => .ok q
    | .bad c v => .bad c v := rfl
/-- written actions at their places -/
theorem it_str {B H : Hp} {s : Str} (h : s.length ≤ 9) (h2 : ∀ c ∈ cl s, c < 128) : It B H (tvOf B H) (.str s) := Iq.it (Iq.str (m := 0) h h2) (by decide) (by decide)
theorem it_int {B H : Hp} {i : Int} (h1 : -(10 ^ 82) ≤ i) (h2 : i ≤ 10 ^ 82) : It B H (tvOf B H) (.int i) := Iq.it (Iq.int (m := 0) h1 h2) (by decide) (by decide)
theorem it_nm {B H : Hp} {s : Str} (h : IsNm s) : It B H (tvOf B H) (.str s) := it_str (by have := h.2.1; omega) fun c hc => by have := (h.2.2 c hc).2; omega
theorem it_come {B H : Hp} {r : Rw} (hn : IsNm r.nm) (ho : NumOk r) : ∀ v ∈ (Act.come (.str r.nm) (.int r.day) (.int r.post) (.int r.pace)).vs, It B H (tvOf B H) v := by
  obtain ⟨a1, a2, a3, a4, a5, a6, _⟩ := ho
  intro v hv
  simp only [Act.vs, List.mem_cons, List.not_mem_nil, or_false] at hv
  rcases hv with rfl | rfl | rfl | rfl | rfl
  · exact it_str (by decide +kernel) (by decide +kernel)
  · exact it_nm hn
  · exact it_int (by omega) (by omega)
  · exact it_int (by omega) (by omega)
  · exact it_int (by omega) (by omega)
def rowZ : Rw := ⟨"zz", 0, 0, 1⟩
def rowQ : Rw := ⟨"qaa", 0, 0, 1⟩
def rows39 : List Rw := (rowsK 40).filter fun r => decide (V.str r.nm ≠ V.str "qba")
theorem nmZ : IsNm rowZ.nm := nmB_iff.mp (by decide +kernel)
theorem nmQ : IsNm rowQ.nm := nmB_iff.mp (by decide +kernel)
theorem numZ : NumOk rowZ := ⟨by decide, by decide, by decide, by decide, by decide, by decide, by decide⟩
theorem numQ : NumOk rowQ := ⟨by decide, by decide, by decide, by decide, by decide, by decide, by decide⟩
theorem zz_many : stepsW (rowsK 40) [.act (.come (.str "zz") (.int 0) (.int 0) (.int 1))] = .bad .many (.int 40) := by
  rw [one_step]
  have := come_many (r := rowZ) (rowsK_ok 40 (Nat.le_refl _)) nmZ numZ (by decide +kernel) (by decide +kernel)
  rw [show stepA (rowsK 40) (.come (.str "zz") (.int 0) (.int 0) (.int 1)) = .bad .many (.int 40) from this]
theorem qaa_twice : stepsW (rowsK 40) [.act (.come (.str "qaa") (.int 0) (.int 0) (.int 1))] = .bad .twice (.str "qaa") := by
  rw [one_step]
  have := come_twice (r := rowQ) (rowsK_ok 40 (Nat.le_refl _)) nmQ numQ (by decide +kernel)
  rw [show stepA (rowsK 40) (.come (.str "qaa") (.int 0) (.int 0) (.int 1)) = .bad .twice (.str "qaa") from this]
theorem qba_zz : stepsW (rowsK 40) [.act (.leave (.str "qba")), .act (.come (.str "zz") (.int 0) (.int 0) (.int 1))] = .ok (rows39 ++ [rowZ]) := by
  have h1 : stepA (rowsK 40) (.leave (.str "qba")) = .ok rows39 := by
    show (if hasV (rowsK 40) (.str "qba") = true then Res.ok ((rowsK 40).filter fun r => decide (V.str r.nm ≠ V.str "qba")) else .bad .unknown (.str "qba")) = _
    rw [if_pos (by decide +kernel)]
    rfl
  have h2 := come_ok (r := rowZ) (rs := rows39) (RowsOk.filter (rowsK_ok 40 (Nat.le_refl _)) _) nmZ numZ (by decide +kernel) (by decide +kernel)
  show (match stepA (rowsK 40) (.leave (.str "qba")) with
    | .ok q => stepsA q [.come (.str "zz") (.int 0) (.int 0) (.int 1)]
    | .bad c v => .bad c v) = _
  rw [h1]
  show (match stepA rows39 (.come (.str "zz") (.int 0) (.int 0) (.int 1)) with
    | .ok q => stepsA q []
    | .bad c v => .bad c v) = _
  rw [show stepA rows39 (.come (.str "zz") (.int 0) (.int 0) (.int 1)) = .ok (rows39 ++ [rowZ]) from h2]
  rfl
theorem len40 : (rows39 ++ [rowZ]).length = 40 := by decide +kernel
/-- lists of the same small values are equal -/
theorem r_ne3 {H : Hp} {p q : Addr} {a b : Str} {Q : VK} (h1 : H p = some (.lst [.str a, .str b, .bl true])) (h2 : H q = some (.lst [.str a, .str b, .bl true])) (sh : SeqAt.shaped (.list [.str a, .str b, .bool true]) = true) (ly : PyData.canLay0 (.list [.str a, .str b, .bool true]) = true) (k : Q (.bl false) H) : rNeU K (.ref p) (.ref q) H Q := by
  refine .inr ⟨_, _, .lst (SqL.of h1) (.cons (.str _) (.cons (.str _) (.cons (.bl _) .nil))), .lst (SqL.of h2) (.cons (.str _) (.cons (.str _) (.cons (.bl _) .nil))), sh, sh, ?_⟩
  rw [PySem.SeqAt.eqv_refl _ ly]
  exact k
theorem ok_law (T : Tx K mg) (D0 : DPA K w) (TB : TabB base mg (Hk.codeAt K (a_law K)) (Hk.tabAt K (a_law K))) : FnG PP w K mg base (L2.CX PP w) 16 (a_law K) (spLaw K) := by
  have F_Lpen := ok_pen (P := PP) (w := w) (base := base) T
  have F_Lnames := ok_names (P := PP) (w := w) (base := base) T
  have F_Lpick := ok_pick (P := PP) (w := w) (base := base) T
  have F_Yard_init := ok_yinit (P := PP) (w := w) (base := base) T
  have F_Lbent := ok_bent (P := PP) (w := w) (base := base) T
  have F_Lsteps := ok_lsteps (P := PP) (w := w) (base := base) T
  have F_Lis_error := ok_lerr (P := PP) (w := w) (base := base) T
  have F_Lact := ok_lact (w := w) (base := base) T D0
  have F_Yard_act := ok_act (w := w) (base := base) T D0
  have F_Lshows := ok_shows (P := PP) (w := w) (base := base) T
  have F_Yard_fence_at := ok_fat0 (w := w) (base := base) T
  have F_Yard_len := ok_ylen (w := w) (base := base) T
  refine fnG_ofT T.f_law sc_law (fun _ _ _ _ _ _ us hl => match us, hl with | [_], _ => rfl) (fun vs H Q E h => ?_) fun A outer s H vs Q E cdv hcd hg hr h => ?_
  · obtain ⟨p, ns, rfl, _⟩ := h
    rfl
  · obtain ⟨p, ns, rfl, hl, ht0, k⟩ := h
    subst hcd
    obtain ⟨Sc, hsc0, SC⟩ := script_ok hl
    refine ⟨_, (pss_cons (ps_set (i := 1) sc_law.nd rfl (by first | exact Or.inl rfl | exact Or.inr rfl) (pe_callR F_Lpen (hr.mono (by first | decide | omega)) T.k_Lpen rfl T.g__law_pen passL (pa_cons (pv 0) pa_nil)))
 (pss_cons (ps_for (passes_of rfl) rfl (pi_range1 rfl T.n_range (pa_cons pe_int pa_nil)) (pg_name (i := 2) sc_law.nd rfl (by first | exact Or.inl rfl | exact Or.inr rfl))
 (pss_cons (ps_asg (pe_tup (pa_cons (pe_makeR0 T.m_Yard F_Yard_init (hr.mono (by first | decide | omega)) rfl T.g_Yard passL) (pa_cons (pe_lst pa_nil) (pa_cons (pe_callR F_Lnames (hr.mono (by first | decide | omega)) T.k_Lnames rfl T.g__law_names passL (pa_cons (pv 1) (pa_cons pe_int pa_nil))) pa_nil)))) (pg_tupK (K := K) (n := 3) rfl rfl (pgs_cons (pg_name (i := 3) sc_law.nd rfl (by first | exact Or.inl rfl | exact Or.inr rfl)) (pgs_cons (pg_name (i := 4) sc_law.nd rfl (by first | exact Or.inl rfl | exact Or.inr rfl)) (pgs_cons (pg_name (i := 5) sc_law.nd rfl (by first | exact Or.inl rfl | exact Or.inr rfl)) pgs_nil)))))
 (pss_one (ps_for (passes_of rfl) rfl (pi_range1 rfl T.n_range (pa_cons pe_int pa_nil)) (pg_name (i := 6) sc_law.nd rfl (by first | exact Or.inl rfl | exact Or.inr rfl))
 (C8.pss_cut (ps_set (i := 7) sc_law.nd rfl (by first | exact Or.inl rfl | exact Or.inr rfl) (pe_lc (own := [("_law_k", 8)]) rfl sc_law.nd (pi_range1 rfl T.n_range (pa_cons (pe_callR F_Lpick (hr.mono (by first | decide | omega)) T.k_Lpick rfl T.g__law_pick passL (pa_cons (pv 1) (pa_cons (pe_lst (pa_cons pe_int (pa_cons pe_int (pa_cons pe_int (pa_cons pe_int pa_nil))))) pa_nil))) pa_nil)) (blkOk_by (own := [("_law_k", 8)]) (N := N_law) (sc := defScope s_law) (by decide +kernel)) (fun _ _ _ _ _ => (pg_name (i := 8) sc_law.nd rfl (by first | exact Or.inl rfl | exact Or.inr rfl))) (fun _ _ _ _ _ => pts_nil) (fun _ _ _ _ _ => (pe_callR F_Lbent (hr.mono (by first | decide | omega)) T.k_Lbent rfl T.g__law_bent passL (pa_cons (pv 1) (pa_cons (pv 4) (pa_cons (pv 5) pa_nil)))))))
 (C8.pss_cut (ps_par (i := 9) (j := 10) (by rfl) sc_law.nd rfl rfl (by decide) rfl rfl (pa_cons (pe_callG F_Lsteps (hr.mono (by first | decide | omega)) hg T.k_Lsteps rfl T.g__law_steps passL (pa_cons (pv 4) (pa_cons (pv 7) pa_nil))) (pa_cons (pe_callB (call_reprQ T.sysm hr.units hg) rfl T.n_repr (by decide +kernel) (pa_cons (pv 7) pa_nil)) pa_nil)) (by rfl))
 (C8.pss_cut (ps_set (i := 11) sc_law.nd rfl (by first | exact Or.inl rfl | exact Or.inr rfl) (pe_told (k := 6) T rfl (hr.mono (by first | decide | omega)) hg TB rfl (q := qLam) (by exact qLam_eq) rfl (lamS_by (sc := defScope s_law) (by decide +kernel)) rfl (fun _ _ _ _ _ => rfl) (fun A2 outer2 s2 H2 E2 f2 c2 hr => (pe_callR F_Lact (hr.mono (by first | decide | omega)) T.k_Lact rfl T.g__law_act (passZ (takesCN (L2.takes_of rfl rfl rfl rfl))) (pa_cons (pv 3) (pa_cons (pv 7) pa_nil))))))
 (pss_cons (ps_if (PW.pt (pw_or (pt_cmpR (op_neUK (K := K) rfl hr.units) (pe_callB (call_reprQ T.sysm hr.units hg) rfl T.n_repr (by decide +kernel) (pa_cons (pv 11) pa_nil)) (pe_callB (call_reprQ T.sysm hr.units hg) rfl T.n_repr (by decide +kernel) (pa_cons (pe_ifExp (pt_val (pe_callR F_Lis_error (hr.mono (by first | decide | omega)) T.k_Lis_error rfl T.g__law_is_error passL (pa_cons (pv 9) pa_nil))) (pv 9) (pe_lst (pa_cons pe_str (pa_cons pe_non pa_nil)))) pa_nil)) (nomark _)) (pw_or1 (pt_cmpR (op_neUK (K := K) rfl hr.units) (pe_callB (call_reprQ T.sysm hr.units hg) rfl T.n_repr (by decide +kernel) (pa_cons (pv 7) pa_nil)) (pv 10) (nomark _)))))
 (pss_one (ps_ret pe_bl))
 pss_nil)
 (pss_cons (ps_set (i := 4) sc_law.nd rfl (by first | exact Or.inl rfl | exact Or.inr rfl) (pe_ifExp (pt_val (pe_callR F_Lis_error (hr.mono (by first | decide | omega)) T.k_Lis_error rfl T.g__law_is_error passL (pa_cons (pv 9) pa_nil))) (pv 4) (pv 9)))
 (pss_one (ps_if (pt_not (pt_val (pe_callG F_Lshows (hr.mono (by first | decide | omega)) hg T.k_Lshows rfl T.g__law_shows passL (pa_cons (pe_methR0 (pv 3) T.cl_Yard T.me_Yard_fence_at F_Yard_fence_at (hr.mono (by first | decide | omega)) passL) (pa_cons (pv 4) pa_nil)))))
 (pss_one (ps_ret pe_bl))
 pss_nil)))))))))))
 (pss_cons (ps_set (i := 3) sc_law.nd rfl (by first | exact Or.inl rfl | exact Or.inr rfl) (pe_makeR0 T.m_Yard F_Yard_init (hr.mono (by first | decide | omega)) rfl T.g_Yard passL))
 (pss_cons (ps_for (passes_of rfl) rfl (pi_range1 rfl T.n_range (pa_cons pe_int pa_nil)) (pg_name (i := 8) sc_law.nd rfl (by first | exact Or.inl rfl | exact Or.inr rfl))
 (pss_one (ps_expr (pe_methR (pv 3) T.cl_Yard T.me_Yard_act F_Yard_act (hr.mono (by first | decide | omega)) passZ0 (pa_cons (pe_tup (pa_cons pe_str (pa_cons (pe_op (op_addUK (K := K) rfl) (pe_op (op_addUK (K := K) rfl) pe_str (pe_ix (ix_seqK (K := K) rfl) pe_str (pe_op op_mod (pe_callTy call_intU rfl T.n_int (by decide +kernel) (pa_cons (pv 8) pa_nil)) pe_int) (fun _ _ => rfl))) (pe_ix (ix_seqK (K := K) rfl) pe_str (pe_op op_fdivW (pv 8) pe_int) (fun _ _ => rfl))) (pa_cons (pv 8) (pa_cons (pe_op op_mulU pe_int (pv 8)) (pa_cons (pe_op op_sub pe_int (pe_op op_mulU pe_int (pe_op op_mod (pe_callTy call_intU rfl T.n_int (by decide +kernel) (pa_cons (pv 8) pa_nil)) pe_int))) pa_nil)))))) pa_nil)))))
 (pss_cons (ps_if (pt_cmpR (op_neUK (K := K) rfl hr.units) (pe_told (k := 6) T rfl (hr.mono (by first | decide | omega)) hg TB rfl (q := qLam) (by exact qLam_eq) rfl (lamS_by (sc := defScope s_law) (by decide +kernel)) rfl (fun _ _ _ _ _ => rfl) (fun A2 outer2 s2 H2 E2 f2 c2 hr => (pe_methR (pv 3) T.cl_Yard T.me_Yard_act F_Yard_act (hr.mono (by first | decide | omega)) (passZ (takesCN (L2.takes_of rfl rfl rfl rfl))) (pa_cons (pe_tup (pa_cons pe_str (pa_cons pe_str (pa_cons pe_int (pa_cons pe_int (pa_cons pe_int pa_nil)))))) pa_nil)))) (pe_lst (pa_cons pe_str (pa_cons pe_str (pa_cons pe_bl pa_nil)))) (nomark _))
 (pss_one (ps_ret pe_bl))
 pss_nil)
 (pss_cons (ps_if (pt_cmpR (op_neUK (K := K) rfl hr.units) (pe_told (k := 6) T rfl (hr.mono (by first | decide | omega)) hg TB rfl (q := qLam) (by exact qLam_eq) rfl (lamS_by (sc := defScope s_law) (by decide +kernel)) rfl (fun _ _ _ _ _ => rfl) (fun A2 outer2 s2 H2 E2 f2 c2 hr => (pe_methR (pv 3) T.cl_Yard T.me_Yard_act F_Yard_act (hr.mono (by first | decide | omega)) (passZ (takesCN (L2.takes_of rfl rfl rfl rfl))) (pa_cons (pe_tup (pa_cons pe_str (pa_cons pe_str (pa_cons pe_int (pa_cons pe_int (pa_cons pe_int pa_nil)))))) pa_nil)))) (pe_lst (pa_cons pe_str (pa_cons pe_str (pa_cons pe_bl pa_nil)))) (nomark _))
 (pss_one (ps_ret pe_bl))
 pss_nil)
 (pss_one (ps_ret (pe_and (pe_cmpR (op_eqUK (K := K) rfl hr.units) (pe_told (k := 6) T rfl (hr.mono (by first | decide | omega)) hg TB rfl (q := qLam) (by exact qLam_eq) rfl (lamS_by (sc := defScope s_law) (by decide +kernel)) rfl (fun _ _ _ _ _ => rfl) (fun A2 outer2 s2 H2 E2 f2 c2 hr => (pe_methR (pv 3) T.cl_Yard T.me_Yard_act F_Yard_act (hr.mono (by first | decide | omega)) (passZ (takesCN (L2.takes_of rfl rfl rfl rfl))) (pa_cons (pe_tup (pa_cons pe_str (pa_cons pe_str pa_nil))) (pa_cons (pe_tup (pa_cons pe_str (pa_cons pe_str (pa_cons pe_int (pa_cons pe_int (pa_cons pe_int pa_nil)))))) pa_nil))))) (pe_lst (pa_cons pe_str (pa_cons pe_non pa_nil))) (nomark _)) (pe_one (pe_cmpR (op_eqUK (K := K) rfl hr.units) (pe_callB (call_lenOwn F_Yard_len T.ow_Yard_len (hr.mono (by first | decide | omega)) passL) rfl T.n_len (by decide +kernel) (pa_cons (pv 3) pa_nil)) pe_int (nomark _)))))))))))), ?_⟩
    try dsimp only [cxOf]
    walk_at "go"
    refine ⟨p, ns, rfl, hl, fun z H1 g1 hp1 => ?_⟩
    have ht1 := tabs_gr ht0 g1
    have hsc1 := SC.kp _ _ g1.kp hsc0
    walk_at "go"
    refine ⟨by decide, by decide, ?_⟩
    refine for_rng (n := 5) rfl (fun i σ' H' => ∃ n', ∃ o2 o3 o4 o5 o6 o7 o8 o9 o10 o11 : Option V, σ' = [some (.ref p), some (.ref z.a), o2, o3, o4, o5, o6, o7, o8, o9, o10, o11] ∧ n' ≤ 40000 * i ∧ Pen H' z n' ∧ Tabs (tbL K) H' ∧ Sc H') ⟨0, _, _, _, _, _, _, _, _, _, _, rfl, by decide, hp1, ht1, hsc1⟩ (fun i σ' H' hi ⟨n', o2, o3, o4, o5, o6, o7, o8, o9, o10, o11, e, h1, h2, h3, h4⟩ => ?_)
      fun σ' H' ⟨n', o2, o3, o4, o5, o6, o7, o8, o9, o10, o11, e, h1, h2, h3, h4⟩ => ?_
    · subst e
      walk_at "go"
      intro y dy hy hdy hne
      have hy' : (upd H' dy (.own y)) y = none := by rw [upd_ne (Ne.symm hne)]; exact hy
      refine ⟨y, dy, rfl, upd_same, fun D H2 ya kx hDn => ⟨rfl, ?_⟩⟩
      have hDy : D ≠ y := fun e => by rw [e, upd_same] at hDn; cases hDn
      have hD0 : H' D = none := by
        rw [upd_ne hDy] at hDn
        by_cases e : D = dy
        · rw [e, upd_same] at hDn; cases hDn
        · rw [upd_ne e] at hDn; exact hDn
      have gY : Gr H' H2 := ⟨fun b o e => kx.k b o (by simp only [List.mem_cons, List.not_mem_nil, or_false]; exact ne_of_none e hy) (by rw [upd_ne (ne_of_none e hy), upd_ne (ne_of_none e hdy)]; exact e), fun b e => ((Gr.new hdy).then hy').f b (kx.f b e)⟩
      have SK := SC.kx _ h4 y D hy hD0
      have hcD : z.c ≠ D := by
        obtain ⟨_, _, d, _⟩ := h2
        exact ne_of_none d.c hD0
      have hp2 := gY.pen h2
      have ht2 := tabs_gr h3 gY
      have hs2 := SC.kp _ _ gY.kp h4
      obtain ⟨dx, W, vsD, hyi, hDl⟩ := ya.two
      clear kx hDn
      walk_at "go"
      refine ⟨by decide, fun pr hpr => ?_⟩
      have g3 := Gr.new (o := .lst []) hpr
      have hrD : pr ≠ D := Ne.symm (ne_of_none hDl hpr)
      have hr3 : (upd H2 pr (.lst [])) pr = some (.lst []) := upd_same
      have ya3 := ya.gr g3
      have hDl3 := g3.e _ _ hDl
      have hp3 := g3.pen hp2
      have ht3 := tabs_gr ht2 g3
      have hs3 := SC.kp _ _ g3.kp hs2
      generalize upd H2 pr (.lst []) = H3 at hr3 ya3 hp3 ht3 hs3 hDl3 ⊢
      walk_at "go"
      refine r_names (many := 5) (by decide) hp3 (by omega) (by decide) fun ps names n5 H5 hps hps5 hnm hn5 kp5 hp5 => ?_
      have hsD : ps ≠ D := Ne.symm (ne_of_none hDl3 hps)
      have st5 : T6 K Sc H5 z y D pr ps names n5 [] [] := ⟨hp5, tabs_kp ht3 kp5, SC.kp _ _ kp5 hs3, ya3.kp kp5, kp5.l hr3, trivial, hps5, hrD, hsD, hcD⟩
      walk_at "go"
      refine ⟨by show 3 ≤ 16777216; decide, fun tq htq => ?_⟩
      have g6 := Gr.new (o := .tup [.ref y, .ref pr, .ref ps]) htq
      refine r_gtup upd_same rfl ?_
      have st6 := st5.gr SC g6
      generalize upd H5 tq (.tup [.ref y, .ref pr, .ref ps]) = H6 at st6 ⊢
      have ein : n5 ≤ 40000 * i + 1000 := by omega
      clear st5 ht3 hs3 hp3 ya3 hr3 hps5 hDl3 hp2 ht2 hs2 ya hDl gY hps
      walk_at "go"
      refine ⟨by decide, by decide, ?_⟩
      refine for_rng (n := 12) rfl (fun a σ' H7 => ∃ n' pr sts us, ∃ o6 o7 o8 o9 o10 o11 : Option V, σ' = [some (.ref p), some (.ref z.a), some (.int i), some (.ref y), some (.ref pr), some (.ref ps), o6, o7, o8, o9, o10, o11] ∧ n' ≤ 40000 * i + 1000 + 1500 * a ∧ sts.length ≤ a ∧ T6 K Sc H7 z y D pr ps names n' sts us) ⟨_, _, _, _, _, _, _, _, _, _, rfl, by omega, by decide, st6⟩ (fun a σ' H7 ha ⟨m', pr, sts, us, o6, o7, o8, o9, o10, o11, e, em, el, s7⟩ => ?_)
        fun σ' H7 ⟨m', pr, sts, us, o6, o7, o8, o9, o10, o11, e, em, el, s7⟩ => ?_
      · subst e
        clear st6
        walk_at "go"
        have hrok := s7.ya.rows
        obtain ⟨dx7, W7, vs7, hy7, hD7⟩ := s7.ya.two
        refine r_cut (fun σ' H3 => ∃ pa ts n', ∃ o8 o9 o10 o11 : Option V, σ' = [some (.ref p), some (.ref z.a), some (.int i), some (.ref y), some (.ref pr), some (.ref ps), some (.int a), some (.ref pa), o8, o9, o10, o11] ∧ n' ≤ m' + 1000 ∧ T6 K Sc H3 z y D pr ps names n' sts us ∧ H3 pa = some (.lst ts) ∧ H7 pa = none ∧ BqL H7 H3 12000 4 ts ∧ ts.length ≤ 3) ?_ ?_
        · walk_at "go"
          refine ⟨by decide, fun pl hpl => ?_⟩
          have g8 := Gr.new (o := .lst [.int 1, .int 1, .int 2, .int 3]) hpl
          walk_at "go"
          refine r_pickL (g8.pen s7.pen) (SqL.of upd_same) (by simp) (by show 4 ≤ 1000; decide) (by omega) fun v n9 H9 hv hn9 kp9 hp9 => ?_
          have kp79 := g8.kp.trans kp9
          obtain ⟨m, rfl, hm0, hm3⟩ : ∃ m : Int, v = .int m ∧ 0 ≤ m ∧ m ≤ 3 := by
            simp only [List.mem_cons, List.not_mem_nil, or_false] at hv
            rcases hv with rfl | rfl | rfl | rfl <;> exact ⟨_, rfl, by decide, by decide⟩
          walk_at "go"
          refine ⟨by omega, by omega, ?_⟩
          intro pa hpa
          have hmono : ∀ b, (upd H9 pa (.lst [])) b = none → H7 b = none := fun b hb => kp79.f b ((Gr.new hpa).f b hb)
          have hpan : H7 pa = none := kp79.f _ hpa
          have hsome : (upd H9 pa (.lst [])) pa ≠ none := by rw [upd_same]; simp
          refine lc_rng (n := m.toNat) rfl (fun b H' => ∃ ts, ts.length = b ∧ Acc z H7 H' (n9 + 300 * b) pa ts ∧ BqL (upd H9 pa (.lst [])) H' 12000 4 ts ∧ ∀ b, H' b = none → (upd H9 pa (.lst [])) b = none) ⟨[], rfl, Acc.start kp79 hp9 hpa, BqL.nil, fun _ h => h⟩ (fun b H' hb ⟨ts, hl, acc, hall, hB⟩ => ?_) fun H' ⟨ts, hl, acc, hall, hB⟩ => ?_
          · generalize upd H9 pa (.lst []) = Hs at hmono hsome hall hB ⊢
            walk_at "go"
            refine ⟨rfl, ?_⟩
            walk_at "go"
            have hb3 : b < 3 := by omega
            refine ⟨Hs, z, n9 + 300 * b, pr, ps, us, lastR sts, names, rfl, hB, acc.pen, by omega, acc.kp.l s7.row, RowsAt.fo (Fo.kp acc.kp) s7.rows, hrok, acc.kp.l s7.spare, by rw [← List.length_pos_iff, hnm.1]; decide, by rw [hnm.1]; decide, hnm.2.2, fun v n3 H3 hv hn3 kp3 hp3 => ?_⟩
            have acc3 := acc.go kp3 hp3
            refine ⟨ts, acc3.l, by show ts.length < 16777216; omega, ts ++ [v], by rw [List.length_append, hl]; rfl, (acc3.put _).mono (by omega), ((hall.ke (Ke.kp kp3)).app (BqL.cons hv BqL.nil)).ke (Ke.put hsome fun xs e => by rw [acc3.l] at e; cases e), fun c hc => ?_⟩
            by_cases q : c = pa
            · subst q
              rw [upd_same] at hc
              cases hc
            · rw [upd_ne q] at hc
              exact hB c (kp3.f c hc)
          · walk_at "go"
            exact ⟨pa, ts, _, _, _, _, _, rfl, by omega, s7.kp SC acc.kp acc.pen, acc.l, hpan, hall.bas hmono, by omega⟩
        clear s7
        rintro σ' H8 ⟨pa, ts, n8, o8, o9, o10, o11, rfl, en8, s8, hpa, hpn, hbq, hl3⟩
        obtain ⟨avs, hav⟩ := avs_of hbq
        have hT : TvOk (tvOf H7 H8) := tvOf_ok
        generalize tvOf H7 H8 = tv at hav hT
        obtain ⟨_, dK, hdk, hsk⟩ := Iq.list (N := 40000) (n := 12000) (m := 4) (fun v hv => (hbq v hv).1) hpa hpn (by omega)
        generalize est : stepsW (lastR sts) avs = r
        have hsg := toldD_sh (tv := tv) (r := r) fun c v e => by
          obtain ⟨_, d, _, h2, h3⟩ := stepsW_bad hav hT hrok (est.trans e)
          rw [h3]
          exact ⟨h2.ln, h2.ch⟩
        refine r_cut (fun σ' H3 => ∃ qd, ∃ o8 o11 : Option V, σ' = [some (.ref p), some (.ref z.a), some (.int i), some (.ref y), some (.ref pr), some (.ref ps), some (.int a), some (.ref pa), o8, some (.ref qd), some (.str dK.shown), o11] ∧ T8 K Sc H7 tv dK r H3 z y D pr ps pa qd names n8 sts sts us ∧ H3 pa = some (.lst ts) ∧ AvsAt H7 H3 tv ts avs) ?_ ?_
        · obtain ⟨dx8, W8, vs8, hy8, hD8⟩ := s8.ya.two
          have fin : ∀ qd H3, Gr H8 H3 → DueT tv H3 D qd r → T8 K Sc H7 tv dK r H3 z y D pr ps pa qd names n8 sts sts us := fun qd H3 g3 hd => by
            have s3 := s8.gr SC g3
            exact ⟨s3.pen, s3.tabs, s3.sc, s3.ya, s3.row, s3.rows, s3.spare, s3.n1, s3.n3, s3.n4, Dq.ke (Ke.gr g3) _ _ hdk, hd⟩
          have rk : ∀ {H3 : Hp} {Q : VK}, Gr H8 H3 → Q (.str dK.shown) H3 → rReprQ [.ref pa] H3 Q := fun g3 q => ⟨H7, _, dK, rfl, Dq.ke (Ke.gr g3) _ _ hdk, hsk.sh, Nat.le_trans hsk.dp (by decide), Nat.le_trans hsk.ln (by decide), q⟩
          walk_at "go"
          refine ⟨H7, tv, pr, pa, us, lastR sts, avs, ts, rfl, s8.row, s8.rows, hrok, hpa, hav, hT, ?_⟩
          rw [est]
          cases r with
          | ok rs2 =>
            intro r3 us3 H3 g3 hr3 hl9 hrow3
            have hrD : r3 ≠ D := by
              rcases hr3 with h | h
              · exact Ne.symm (ne_of_none hD8 h)
              · rw [h]; exact s8.n1
            walk_at "go"
            refine rk g3 ?_
            walk_at "go"
            exact ⟨r3, _, _, rfl, fin r3 H3 g3 ⟨us3, hl9, hrow3, hrD⟩, g3.e _ _ hpa, AvsAt.ke (Ke.gr g3) hav⟩
          | bad c v =>
            intro q3 H3 g3 hq3 hl9
            walk_at "go"
            refine rk g3 ?_
            walk_at "go"
            exact ⟨q3, _, _, rfl, fin q3 H3 g3 ⟨hl9, Ne.symm (ne_of_none hD8 hq3)⟩, g3.e _ _ hpa, AvsAt.ke (Ke.gr g3) hav⟩
        clear s8 hpa hav hdk hbq
        rintro σ' H3 ⟨qd, o8, o11, rfl, s11, hpal, has⟩
        refine r_cut (fun σ' H3 => ∃ p13, ∃ o8 : Option V, σ' = [some (.ref p), some (.ref z.a), some (.int i), some (.ref y), some (.ref pr), some (.ref ps), some (.int a), some (.ref pa), o8, some (.ref qd), some (.str dK.shown), some (.ref p13)] ∧ T8 K Sc H7 tv dK r H3 z y D pr ps pa qd names n8 (nextS sts ts r) sts us ∧ H3 p13 = some (.lst (toldW tv r))) ?_ ?_
        · walk_at "go"
          refine ⟨s11.tabs, fun H4 ex4 tabs4 => ?_⟩
          have s4 := s11.to (Fo.exN ex4) (fun _ _ _ h => exN_l ex4 h) (Ke.exN ex4) (Pen.exN ex4 s11.pen) tabs4 (SC.ex _ _ ex4 s11.sc) (s11.ya.exN ex4)
          have hp4 := exN_l ex4 hpal
          have as4 := AvsAt.ke (Ke.exN ex4) has
          obtain ⟨dx4, W4, vs4, hy4, hD4⟩ := s4.ya.two
          unfold TTold
          walk_at "go"
          refine ⟨H7, tv, y, D, pa, sts, [], avs, ts, rfl, s4.ya, by omega, hp4, as4, by omega, ?_⟩
          rw [est]
          cases r with
          | ok rs2 =>
            intro H5 kx5 ya5
            refine ⟨by decide, fun p13 hp13 => ?_⟩
            walk_at "go"
            have ke5 : Ke H7 H4 H5 := Ke.kx kx5 (fun b hb => by
              simp only [List.mem_cons, List.not_mem_nil, or_false] at hb
              rcases hb with rfl | rfl
              · rw [hy7]; simp
              · rw [hD7]; simp) (fun b hb xs e => by
              simp only [List.mem_cons, List.not_mem_nil, or_false] at hb
              rcases hb with rfl | rfl
              · rw [hy4] at e; cases e
              · rw [hD4] at e; cases e)
            have s5 := s4.to (X' := nextS sts ts (.ok rs2)) (Fo.kx hy4 hD4 kx5) (fun _ _ n h => kx_l hy4 kx5 n h) ke5 (kx_pen hy4 hD4 kx5 s4.n4 s4.pen) (tabs_kx hy4 hD4 s4.tabs kx5) (SK _ _ kx5 s4.sc) ya5
            exact ⟨p13, _, rfl, s5.gr SC (Gr.new hp13), upd_same⟩
          | bad c v =>
            intro dd H5 g5 hd5 h5
            have sh := stepsW_bad (AvsAt.ke (Ke.gr g5) as4) hT hrok est
            refine ⟨dd, c, v, tv v, rfl, rfl, h5, sh, fun p13 a13 ha13 hp13 => ?_⟩
            walk_at "go"
            exact ⟨p13, _, rfl, s4.gr SC (g5.then hp13), upd_same⟩
        clear s11 hpal has
        rintro σ' H4 ⟨p13, o8, rfl, s12, h13⟩
        have rk : ∀ {H3 : Hp} {Q : VK}, Gr H4 H3 → Q (.str dK.shown) H3 → rReprQ [.ref pa] H3 Q := fun g3 q => ⟨H7, _, dK, rfl, Dq.ke (Ke.gr g3) _ _ s12.dk, hsk.sh, Nat.le_trans hsk.dp (by decide), Nat.le_trans hsk.ln (by decide), q⟩
        have hdx := s12.ya.two
        have hl4 : (nextS sts ts r).length ≤ a + 1 := by
          cases r with
          | ok rs2 => show (sts ++ [(ts, rs2)]).length ≤ a + 1; rw [List.length_append]; show sts.length + 1 ≤ a + 1; omega
          | bad c v => exact Nat.le_succ_of_le el
        have hok := s12.ya.rows
        walk_at "go"
        refine r_told hsg h13 ?_
        walk_at "go"
        cases r with
        | ok rs2 =>
          obtain ⟨us3, hq3, hrow3, hqD⟩ := s12.due
          refine ⟨qd, us3, false, rfl, hq3, ErrL.rows hrow3, fun H5 g5 => ⟨_, rfl, ?_⟩⟩
          refine r_iteF ?_
          walk_at "go"
          refine ⟨by decide, fun p14 hp14 => ?_⟩
          have g6 := g5.then (o := .lst [.str "made", .non]) hp14
          have h14 : (upd H5 p14 (.lst [.str "made", .non])) p14 = some (.lst (toldW tv (.ok rs2))) := upd_same
          generalize upd H5 p14 (.lst [.str "made", .non]) = H6 at g6 h14 ⊢
          walk_at "go"
          refine r_told hsg h14 ?_
          walk_at "go"
          refine r_iteN (fun h => absurd rfl h) fun _ => ?_
          walk_at "go"
          refine rk g6 ?_
          walk_at "go"
          refine r_iteN (fun h => absurd rfl h) fun _ => ?_
          walk_at "go"
          refine ⟨qd, us3, false, rfl, g6.e _ _ hq3, ErrL.rows (RowsAt.fo (Fo.gr g6) hrow3), fun H8' g8 => ⟨_, rfl, ?_⟩⟩
          refine r_iteF ?_
          have g68 := g6.trans g8
          have s13 := s12.gr SC g68
          have hq8 := g68.e _ _ hq3
          have hrow8 := RowsAt.fo (Fo.gr g68) hrow3
          obtain ⟨dx6, W6, vs6, hy6, hD6⟩ := s13.ya.two
          walk_at "go"
          refine ⟨y, dx6, _, rfl, hy6, rfl, ?_⟩
          walk_at "go"
          refine ⟨y, D, _, [], rfl, s13.ya, by omega, fun f H9 g9 hf => ?_⟩
          have s14 := s13.gr SC g9
          have hq9 := g9.e _ _ hq8
          have hrow9 := RowsAt.fo (Fo.gr g9) hrow8
          have el1 : lastR (nextS sts ts (.ok rs2)) = rs2 := lastR_snoc
          rw [el1] at hf
          walk_at "go"
          refine ⟨f, qd, us3, rs2, rfl, hf, hq9, hrow9, fun H10 g10 => ⟨_, rfl, ?_⟩⟩
          have s15 := s14.gr SC g10
          refine r_iteNT ?_
          walk_at "go"
          exact ⟨n8, qd, _, us3, _, _, _, _, _, _, rfl, by omega, hl4, ⟨s15.pen, s15.tabs, s15.sc, s15.ya, g10.e _ _ hq9, by rw [el1]; exact RowsAt.fo (Fo.gr g10) hrow9, s15.spare, hqD, s15.n3, s15.n4⟩⟩
        | bad c v =>
          obtain ⟨hq3, hqD⟩ := s12.due
          refine ⟨qd, _, true, rfl, hq3, ⟨_, _, rfl⟩, fun H6 g6 => ⟨_, rfl, ?_⟩⟩
          refine r_iteT ?_
          walk_at "go"
          refine r_told hsg (g6.e _ _ hq3) ?_
          walk_at "go"
          refine r_iteN (fun h => absurd rfl h) fun _ => ?_
          walk_at "go"
          refine rk g6 ?_
          walk_at "go"
          refine r_iteN (fun h => absurd rfl h) fun _ => ?_
          walk_at "go"
          refine ⟨qd, _, true, rfl, g6.e _ _ hq3, ⟨_, _, rfl⟩, fun H8' g8 => ⟨_, rfl, ?_⟩⟩
          refine r_iteT ?_
          have g68 := g6.trans g8
          have s13 := s12.gr SC g68
          obtain ⟨dx6, W6, vs6, hy6, hD6⟩ := s13.ya.two
          walk_at "go"
          refine ⟨y, dx6, _, rfl, hy6, rfl, ?_⟩
          walk_at "go"
          refine ⟨y, D, _, [], rfl, s13.ya, by omega, fun f H9 g9 hf => ?_⟩
          have s14 := s13.gr SC g9
          walk_at "go"
          refine ⟨f, pr, us, _, rfl, hf, s14.row, s14.rows, fun H10 g10 => ⟨_, rfl, ?_⟩⟩
          have s15 := s14.gr SC g10
          refine r_iteNT ?_
          walk_at "go"
          exact ⟨n8, pr, _, us, _, _, _, _, _, _, rfl, by omega, hl4, ⟨s15.pen, s15.tabs, s15.sc, s15.ya, s15.row, s15.rows, s15.spare, s15.n1, s15.n3, s15.n4⟩⟩
      · subst e
        walk_at "go"
        exact ⟨_, _, _, _, _, _, _, _, _, _, _, rfl, by omega, s7.pen, s7.tabs, s7.sc⟩
    · subst e
      walk_at "go"
      intro y dy hy hdy hne
      have hy' : (upd H' dy (.own y)) y = none := by rw [upd_ne (Ne.symm hne)]; exact hy
      refine ⟨y, dy, rfl, upd_same, fun D H2 ya kx hDn => ⟨rfl, ?_⟩⟩
      have gY : Gr H' H2 := ⟨fun b o e => kx.k b o (by simp only [List.mem_cons, List.not_mem_nil, or_false]; exact ne_of_none e hy) (by rw [upd_ne (ne_of_none e hy), upd_ne (ne_of_none e hdy)]; exact e), fun b e => ((Gr.new hdy).then hy').f b (kx.f b e)⟩
      have ht2 := tabs_gr h3 gY
      clear kx hDn gY h2 h3 h4 hsc0 hsc1 ht0 ht1 hp1 g1 hl hy' hy hdy hne
      walk_at "go"
      refine ⟨by decide, by decide, ?_⟩
      refine for_rng (n := 40) rfl (fun i σ' H5 => ∃ sts, ∃ o8 : Option V, σ' = [some (.ref p), some (.ref z.a), o2, some (.ref y), o4, o5, o6, o7, o8, o9, o10, o11] ∧ YAt K H5 y D sts [] ∧ sts.length = i ∧ lastR sts = rowsK i ∧ Tabs (tbL K) H5) ⟨[], _, rfl, ya, rfl, rfl, ht2⟩ (fun i σ' H5 hi ⟨sts, o8, e, ya5, el, er, ht5⟩ => ?_)
        fun σ' H5 ⟨sts, o8, e, ya5, el, er, ht5⟩ => ?_
      · subst e
        obtain ⟨dx5, W5, vs5, hy5, hD5⟩ := ya5.two
        walk_at "go"
        refine ⟨y, dx5, _, rfl, hy5, rfl, ?_⟩
        walk_at "go"
        refine r_ixS (by decide +kernel) (letK i hi) ?_
        refine r_addS (by show 1 + 1 ≤ 16777216; decide) ?_
        walk_at "go"
        refine r_ixS (by decide +kernel) (letAB i hi) ?_
        refine r_addS (by rw [strLen_append]; show 1 + 1 + 1 ≤ 16777216; decide) ?_
        walk_at "go"
        refine ⟨by show 5 ≤ 16777216; decide, fun t ht => ?_⟩
        have g5 := Gr.new (o := .tup (Act.come (.str (rowK i).nm) (.int (rowK i).day) (.int (rowK i).post) (.int (rowK i).pace)).vs) ht
        have ht5' : (upd H5 t (.tup (Act.come (.str (rowK i).nm) (.int (rowK i).day) (.int (rowK i).post) (.int (rowK i).pace)).vs)) t = some (.tup (Act.come (.str (rowK i).nm) (.int (rowK i).day) (.int (rowK i).post) (.int (rowK i).pace)).vs) := upd_same
        have ea : (Act.come (.str (rowK i).nm) (.int (rowK i).day) (.int (rowK i).post) (.int (rowK i).pace)).vs = [V.str "come", V.str ("q" ++ (⟨#[97 + i % 20]⟩ : Str) ++ (⟨#[97 + i / 20]⟩ : Str)), V.int i, V.int (7 * i), V.int (3 - 6 * ((i : Int) % 2))] := rfl
        obtain ⟨hnb, hhv⟩ := nmK_ok i hi
        have hst : stepsW (lastR sts) [.act (.come (.str (rowK i).nm) (.int (rowK i).day) (.int (rowK i).post) (.int (rowK i).pace))] = .ok (rowsK i ++ [rowK i]) := by
          rw [one_step, er, come_ok (rowsK_ok i (by omega)) (nmB_iff.mp hnb) (numK i hi) hhv (by unfold rowsK; rw [List.length_map, List.length_range]; exact hi)]
        have hits : ∀ v ∈ (Act.come (.str (rowK i).nm) (.int (rowK i).day) (.int (rowK i).post) (.int (rowK i).pace)).vs, It H5 (upd H5 t (.tup (Act.come (.str (rowK i).nm) (.int (rowK i).day) (.int (rowK i).post) (.int (rowK i).pace)).vs)) (tvOf H5 (upd H5 t (.tup (Act.come (.str (rowK i).nm) (.int (rowK i).day) (.int (rowK i).post) (.int (rowK i).pace)).vs))) v := it_come (nmB_iff.mp hnb) (numK i hi)
        rw [← ea]
        generalize (Act.come (.str (rowK i).nm) (.int (rowK i).day) (.int (rowK i).post) (.int (rowK i).pace)) = act at g5 ht5' hst hits ⊢
        generalize upd H5 t (.tup act.vs) = H6 at g5 ht5' hits ⊢
        have ya6 := ya5.gr g5
        have ht6 := tabs_gr ht5 g5
        obtain ⟨dx6, W6, vs6, hy6, hD6⟩ := ya6.two
        walk_at "go"
        refine act_call (K := K) (B := H5) (avs := [.act act]) ya6 (by omega) ⟨⟨t, rfl, ht5', hits⟩, trivial⟩ (by show 1 ≤ 6; decide) ?_
        rw [hst]
        intro H7 kx7 ya7
        walk_at "go"
        refine ⟨_, _, rfl, ya7, by rw [List.length_append, el]; rfl, ?_, tabs_kx hy6 hD6 ht6 kx7⟩
        rw [lastR_snoc]
        unfold rowsK
        rw [List.range_succ, List.map_append]
        rfl
      · subst e
        obtain ⟨dx5, W5, vs5, hy5, hD5⟩ := ya5.two
        have hlr := er
        walk_at "go"
        refine ⟨ht5, fun H6 ex6 tabs6 => ?_⟩
        have ya6 := ya5.exN ex6
        obtain ⟨dx6, W6, vs6, hy6, hD6⟩ := ya6.two
        try unfold TTold
        walk_at "go"
        refine ⟨y, dx6, _, rfl, hy6, rfl, ?_⟩
        walk_at "go"
        refine ⟨by show 5 ≤ 16777216; decide, fun t7 ht7 => ?_⟩
        have g7 := Gr.new (o := .tup (Act.come (.str "zz") (.int 0) (.int 0) (.int 1)).vs) ht7
        have h7 : (upd H6 t7 (.tup (Act.come (.str "zz") (.int 0) (.int 0) (.int 1)).vs)) t7 = some (.tup (Act.come (.str "zz") (.int 0) (.int 0) (.int 1)).vs) := upd_same
        walk_at "go"
        refine act_call (K := K) (B := H6) (tv := tvOf H6 (upd H6 t7 (.tup (Act.come (.str "zz") (.int 0) (.int 0) (.int 1)).vs))) (avs := [.act (.come (.str "zz") (.int 0) (.int 0) (.int 1))]) (ya6.gr g7) (by omega) ⟨⟨t7, rfl, h7, it_come (r := rowZ) nmZ numZ⟩, trivial⟩ (by show 1 ≤ 6; decide) ?_
        rw [hlr, zz_many]
        intro dd H8 g8 hd8 h8
        refine ⟨dd, .many, .int 40, "40", rfl, rfl, h8, ⟨H8, .int 40, .int 40, ⟨by decide +kernel, by decide, by decide +kernel, by decide +kernel⟩, by decide +kernel⟩, fun p9 a9 ha9 hp9 => ?_⟩
        have g9 := (g7.trans g8).then (o := .lst [.str Kd.many.word, .str "40", .bl true]) hp9
        have h9 : (upd H8 p9 (.lst [.str Kd.many.word, .str "40", .bl true])) p9 = some (.lst [.str "many", .str "40", .bl true]) := upd_same
        generalize upd H8 p9 (.lst [.str Kd.many.word, .str "40", .bl true]) = H9 at g9 h9 ⊢
        walk_at "go"
        refine ⟨by show 3 ≤ 16777216; decide, fun q10 hq10 => ?_⟩
        have g10 := Gr.new (o := .lst [.str "many", .str "40", .bl true]) hq10
        refine r_ne3 (g10.e _ _ h9) upd_same (by decide +kernel) (by decide +kernel) ⟨_, rfl, r_iteF ?_⟩
        have ya10 := ya6.gr (g9.trans g10)
        have ht10 := tabs_gr tabs6 (g9.trans g10)
        generalize upd H9 q10 (.lst [.str "many", .str "40", .bl true]) = H10 at ya10 ht10 ⊢
        clear g10 g9 g8 g7 h8 hd8 h7 ht7 hy6 hD6 ya6 tabs6 ex6 ya5 ht5 hy5 hD5 h9
        walk_at "go"
        refine ⟨ht10, fun H6 ex6 tabs6 => ?_⟩
        have ya6 := ya10.exN ex6
        obtain ⟨dx6, W6, vs6, hy6, hD6⟩ := ya6.two
        try unfold TTold
        walk_at "go"
        refine ⟨y, dx6, _, rfl, hy6, rfl, ?_⟩
        walk_at "go"
        refine ⟨by show 5 ≤ 16777216; decide, fun t7 ht7 => ?_⟩
        have g7 := Gr.new (o := .tup (Act.come (.str "qaa") (.int 0) (.int 0) (.int 1)).vs) ht7
        have h7 : (upd H6 t7 (.tup (Act.come (.str "qaa") (.int 0) (.int 0) (.int 1)).vs)) t7 = some (.tup (Act.come (.str "qaa") (.int 0) (.int 0) (.int 1)).vs) := upd_same
        walk_at "go"
        refine act_call (K := K) (B := H6) (tv := tvOf H6 (upd H6 t7 (.tup (Act.come (.str "qaa") (.int 0) (.int 0) (.int 1)).vs))) (avs := [.act (.come (.str "qaa") (.int 0) (.int 0) (.int 1))]) (ya6.gr g7) (by omega) ⟨⟨t7, rfl, h7, it_come (r := rowQ) nmQ numQ⟩, trivial⟩ (by show 1 ≤ 6; decide) ?_
        rw [hlr, qaa_twice]
        intro dd H8 g8 hd8 h8
        refine ⟨dd, .twice, .str "qaa", "'qaa'", rfl, rfl, h8, ⟨H8, .str "qaa", .str "qaa", ⟨by decide +kernel, by decide, by decide +kernel, by decide +kernel⟩, by decide +kernel⟩, fun p9 a9 ha9 hp9 => ?_⟩
        have g9 := (g7.trans g8).then (o := .lst [.str Kd.twice.word, .str "'qaa'", .bl true]) hp9
        have h9 : (upd H8 p9 (.lst [.str Kd.twice.word, .str "'qaa'", .bl true])) p9 = some (.lst [.str "twice", .str "'qaa'", .bl true]) := upd_same
        generalize upd H8 p9 (.lst [.str Kd.twice.word, .str "'qaa'", .bl true]) = H9 at g9 h9 ⊢
        walk_at "go"
        refine ⟨by show 3 ≤ 16777216; decide, fun q10 hq10 => ?_⟩
        have g10 := Gr.new (o := .lst [.str "twice", .str "'qaa'", .bl true]) hq10
        refine r_ne3 (g10.e _ _ h9) upd_same (by decide +kernel) (by decide +kernel) ⟨_, rfl, r_iteF ?_⟩
        have ya11 := ya6.gr (g9.trans g10)
        have ht11 := tabs_gr tabs6 (g9.trans g10)
        generalize upd H9 q10 (.lst [.str "twice", .str "'qaa'", .bl true]) = H11 at ya11 ht11 ⊢
        clear g10 g9 g8 g7 h8 hd8 h7 ht7 hy6 hD6 ya6 tabs6 ex6 h9 ya10 ht10
        walk_at "go"
        refine ⟨ht11, fun H6 ex6 tabs6 => ?_⟩
        have ya6 := ya11.exN ex6
        obtain ⟨dx6, W6, vs6, hy6, hD6⟩ := ya6.two
        try unfold TTold
        walk_at "go"
        refine ⟨y, dx6, _, rfl, hy6, rfl, ?_⟩
        walk_at "go"
        refine ⟨by show 2 ≤ 16777216; decide, fun t7 ht7 => ?_⟩
        have g7 := Gr.new (o := .tup (Act.leave (.str "qba")).vs) ht7
        have h7 : (upd H6 t7 (.tup (Act.leave (.str "qba")).vs)) t7 = some (.tup (Act.leave (.str "qba")).vs) := upd_same
        have eL : (Act.leave (.str "qba")).vs = [.str "leave", .str "qba"] := rfl
        rw [← eL]
        generalize upd H6 t7 (.tup (Act.leave (.str "qba")).vs) = H7 at g7 h7 ⊢
        walk_at "go"
        refine ⟨by show 5 ≤ 16777216; decide, fun t8 ht8 => ?_⟩
        have g8 := Gr.new (o := .tup (Act.come (.str "zz") (.int 0) (.int 0) (.int 1)).vs) ht8
        have h8 : (upd H7 t8 (.tup (Act.come (.str "zz") (.int 0) (.int 0) (.int 1)).vs)) t8 = some (.tup (Act.come (.str "zz") (.int 0) (.int 0) (.int 1)).vs) := upd_same
        have eC : (Act.come (.str "zz") (.int 0) (.int 0) (.int 1)).vs = [.str "come", .str "zz", .int 0, .int 0, .int 1] := rfl
        rw [← eC]
        have h78 := g8.e _ _ h7
        have itc : ∀ v ∈ (Act.come (.str "zz") (.int 0) (.int 0) (.int 1)).vs, It H6 (upd H7 t8 (.tup (Act.come (.str "zz") (.int 0) (.int 0) (.int 1)).vs)) (tvOf H6 (upd H7 t8 (.tup (Act.come (.str "zz") (.int 0) (.int 0) (.int 1)).vs))) v := it_come (r := rowZ) nmZ numZ
        have itl : ∀ v ∈ (Act.leave (.str "qba")).vs, It H6 (upd H7 t8 (.tup (Act.come (.str "zz") (.int 0) (.int 0) (.int 1)).vs)) (tvOf H6 (upd H7 t8 (.tup (Act.come (.str "zz") (.int 0) (.int 0) (.int 1)).vs))) v := fun v hv => by
          rw [eL] at hv
          simp only [List.mem_cons, List.not_mem_nil, or_false] at hv
          rcases hv with rfl | rfl
          · exact it_str (by decide +kernel) (by decide +kernel)
          · exact it_str (by decide +kernel) (by decide +kernel)
        generalize upd H7 t8 (.tup (Act.come (.str "zz") (.int 0) (.int 0) (.int 1)).vs) = H8 at g8 h8 h78 itc itl ⊢
        have ya8 := ya6.gr (g7.trans g8)
        have ht8 := tabs_gr tabs6 (g7.trans g8)
        obtain ⟨dx8, W8, vs8, hy8, hD8⟩ := ya8.two
        walk_at "go"
        refine act_call (K := K) (B := H6) (tv := tvOf H6 H8) (avs := [.act (.leave (.str "qba")), .act (.come (.str "zz") (.int 0) (.int 0) (.int 1))]) ya8 (by omega) ⟨⟨t7, rfl, h78, itl⟩, ⟨t8, rfl, h8, itc⟩, trivial⟩ (by show 2 ≤ 6; decide) ?_
        rw [hlr, qba_zz]
        intro H9 kx9 ya9
        refine ⟨by decide, fun p9 hp9 => ?_⟩
        have g9 := Gr.new (o := .lst [.str "made", .non]) hp9
        have h9 : (upd H9 p9 (.lst [.str "made", .non])) p9 = some (.lst [.str "made", .non]) := upd_same
        have ya10 := ya9.gr g9
        generalize upd H9 p9 (.lst [.str "made", .non]) = H10 at g9 h9 ya10 ⊢
        walk_at "go"
        refine ⟨by show 2 ≤ 16777216; decide, fun q10 hq10 => ?_⟩
        have g10 := Gr.new (o := .lst [.str "made", .non]) hq10
        refine .inr ⟨.list [.str "made", .none], .list [.str "made", .none], .lst (SqL.of (g10.e _ _ h9)) (.cons (.str _) (.cons .non .nil)), .lst (SqL.of upd_same) (.cons (.str _) (.cons .non .nil)), by decide +kernel, by decide +kernel, ?_⟩
        rw [PySem.SeqAt.eqv_refl _ (by decide +kernel)]
        have ya11 := ya10.gr g10
        generalize upd H10 q10 (.lst [.str "made", .non]) = H11 at ya11 ⊢
        obtain ⟨dx11, W11, vs11, hy11, hD11⟩ := ya11.two
        walk_at "go"
        refine ⟨y, dx11, _, rfl, hy11, y, D, _, [], rfl, ya11, by rw [List.length_append, el]; show 40 + 1 < 10000000; decide, fun H12 g12 => ⟨40, by rw [lastR_snoc, len40], by decide, ?_⟩⟩
        walk_at "go"
        exact k _
end
end Tx

end

open PySem PySem.W PySem.Calls PyProof.Rows
set_option maxRecDepth 100000 in
set_option maxHeartbeats 0 in
theorem PySem.Challenge.cw_paintposts_k76_actions_that_are_refused_holds : PySem.Challenge.rw_paintposts_k76_actions_that_are_refused.Holds := by
  w_on; o_law
  refine HandSHeadRun.head_any (r := OpenLaw.row PySem.Challenge.rw_paintposts_k76_actions_that_are_refused) (q := view (OpenLaw.row PySem.Challenge.rw_paintposts_k76_actions_that_are_refused).prog [61]) (H := Tx.hk) (ob := Tx.ob) (M := 20000) (loose := Tx.looseL) (d := HandSHeadRun.topDef (OpenLaw.row PySem.Challenge.rw_paintposts_k76_actions_that_are_refused).prog 61) (kwd := []) Tx.ob_eq
    (by kernel_rfl) (fun s => by kernel_rfl) Tx.run (by kernel_rfl) (by kernel_rfl) (by kernel_rfl) (by rfl) (by first | assumption | decide +kernel) (by decide +kernel) ⟨rfl, rfl, rfl, rfl, rfl, by decide +kernel⟩ ?hw ?hc
  case hw => w_witness2
  case hc =>
    refine My.walk_GT (l := PySem.Challenge.rw_paintposts_k76_actions_that_are_refused) (n := 63) (k := 16) rfl (by decide) (by kernel_rfl) ⟨rfl, by decide, by decide⟩ fun w mg fa h Y G e0 => ?_
    obtain ⟨K, KX, c⟩ := Y
    have T := Tx.tx_of KX G c.1
    have e1 : mg ("law" : PySem.Str) = some (.ref fa) := by
      have e : (HandSHeadRun.topDef (OpenLaw.row PySem.Challenge.rw_paintposts_k76_actions_that_are_refused).prog 61).name = ("law" : PySem.Str) := by kernel_rfl
      rw [← e]
      exact e0
    obtain rfl : fa = Tx.a_law K := by
      have z := T.g_law
      rw [e1] at z
      cases z
      rfl
    obtain ⟨c1, c2, c3, _⟩ := c.1.2.2 Tx.a_law List.mem_cons_self
    exact ⟨K, Hk.codeAt K (Tx.a_law K), Hk.tabAt K (Tx.a_law K), Tx.spLaw K, KX, c3, c2, c1, fun H p ns _ hT rd => ⟨p, ns, rfl, rd, fun q hq => by
      rcases List.mem_cons.mp hq with rfl | hq
      · exact LamX.TabS.nil hT
      · exact (List.not_mem_nil hq).elim, fun _ => rfl⟩, fun base _ _ TB => Tx.ok_law T (Tx.dpw_of c) TB⟩
