import PyProof.Rows.All
import Wide.All
import OpenK.AllK
import Wide.FinOn
import KE.KStateDown
import HandS.ForMost
import HandS.ForExc
import HandS.Wide
import HandS.Flow
import HandS.Style
import HandS.Defaults
import HandS.Star
import HandS.MethStar
import HandS.Property
import HandS.ClsMeth
import HandS.OwnEq
import HandS.IsInst
import HandS.FStr
import HandS.DictComp
import HandS.RaiseMore
import HandS.TupAny
import HandS.Deep
import HandS.Codes
import HandS.SuiteRaise
import HandS.TryMany
import HandS.HeadEnd
import HandS.HeadHook1
import HandS.HeadHook2
import HandS.HeadNt
import HandS.Head0
import HandS.Head1
import HandS.Head2
import KE.DatumIndex
import KE.GoesEnum
import KE.GoesMore
import HandS.Conv
import KE.KExcSuper
import HandS.HotCalls
import HandS.ExcIs
import HandS.Lambda
import HandS.EndTab
import KE.KNestM
import HandS.NoneIn
import HandS.TryOnly
import PyProof.EqAt
import PyProof.NeKinds
import KE.IntTextText
import PySem.Challenge.RW_paintposts_k84_texts_that_are_no_fence
set_option Elab.async false
set_option linter.all false
set_option maxRecDepth 100000
set_option maxHeartbeats 4000000
/-! the head's facts by one Bool -/
namespace Hk
open PySem PySem.W PySem.Calls PyProof.Rows He He5
/-- a property's getter -/
def pgA (K : Frag) (C : Addr) (f : PySem.Str) : Addr := match recIn K (ma K C f) "property" with
  | some (.ref g :: _) => g
  | _ => 0
def gloB (K : Frag) (x : PySem.Str) : Bool := eqO (nsIn K mainGlobals x) (some (some (.ref (ga K x))))
def aliB (K : Frag) (x y : PySem.Str) : Bool := eqO (nsIn K mainGlobals x) (some (some (.ref (ga K y))))
def freeB (K : Frag) (x : PySem.Str) : Bool := eqO (nsIn K mainGlobals x) (some none)
def intB (K : Frag) (x : PySem.Str) (i : Int) : Bool := (Fa.int x i).ok K
def strB (K : Frag) (x z : PySem.Str) : Bool := (Fa.str x z).ok K
def clsB (K : Frag) (x : PySem.Str) : Bool := (Fa.cls x).ok K
def mkrB (K : Frag) (x : PySem.Str) : Bool := (Fa.mkr x).ok K
def noatB (K : Frag) (x f : PySem.Str) : Bool := (Fa.noat x f).ok K
def methB (K : Frag) (x m : PySem.Str) : Bool := (Fa.meth x m).ok K
def conB (K : Frag) (C : Addr) (f : PySem.Str) (i : Int) : Bool := (match findIn K (.ref C) f with
  | some (some (.int j t)) => decide (j = i) && eqO (specialIn K (.int j t) "__get__") (some none)
  | _ => false) && !(copiedNames.contains f)
def propB (K : Frag) (C : Addr) (f : PySem.Str) : Bool := eqO (findIn K (.ref C) f) (some (some (.ref (ma K C f)))) && (eqO (specialIn K (.ref (ma K C f)) "__get__") (some (some (.builtin "property.__get__"))) &&
  (decide (takesIn K (.ref (ma K C f)) = some true) && (match recIn K (ma K C f) "property" with
    | some (.ref _ :: _) => true
    | _ => false)))
def creadB (K : Frag) (C : Addr) : Bool := readsIn K C (.type "type") && eqO (specialIn K (.ref C) "__getattribute__") (some (some (.builtin "type.__getattribute__")))
def cmetB (K : Frag) (C : Addr) (m : PySem.Str) : Bool := wrapB K C "classmethod" "classmethod.__get__" m && fnIn K (wf K C "classmethod" m)
section
variable {K : Frag} {h : Heap} {mg : PySem.Str → Option Value}
theorem glo_of (X : K.In h) (G : h.Ns mainGlobals mg) {x : PySem.Str} (c : gloB K x = true) : mg x = some (.ref (ga K x)) := PySem.W.mg_of X G (eqO_ok c)
theorem ali_of (X : K.In h) (G : h.Ns mainGlobals mg) {x y : PySem.Str} (c : aliB K x y = true) : mg x = some (.ref (ga K y)) := PySem.W.mg_of X G (eqO_ok c)
theorem free_of (X : K.In h) (G : h.Ns mainGlobals mg) {x : PySem.Str} (c : freeB K x = true) : mg x = none := PySem.W.mg_none_of X G (eqO_ok c)
theorem int_of (X : K.In h) (G : h.Ns mainGlobals mg) {x : PySem.Str} {i : Int} (c : intB K x i = true) : ∃ u, mg x = some u ∧ L2.RelV (.int i) u := by
  obtain ⟨t, e⟩ := int_ok X G c
  exact ⟨_, e, t, rfl⟩
theorem str_of (X : K.In h) (G : h.Ns mainGlobals mg) {x z : PySem.Str} (c : strB K x z = true) : ∃ u, mg x = some u ∧ L2.RelV (.str z) u := by
  obtain ⟨t, e⟩ := str_ok X G c
  exact ⟨_, e, t, rfl⟩
theorem con_of {C : Addr} {f : PySem.Str} {i : Int} (c : conB K C f i = true) : ∃ u, L2.Con K C f (.int i) u := by
  obtain ⟨c1, c2⟩ := ba c
  cases e : findIn K (.ref C) f with
  | none => rw [e] at c1; cases c1
  | some o =>
    rw [e] at c1
    cases o with
    | none => cases c1
    | some v =>
      cases v with
      | int j t =>
        obtain ⟨d1, d2⟩ := ba c1
        have ej : j = i := of_decide_eq_true d1
        subst ej
        exact ⟨_, e, ⟨t, rfl⟩, eqO_ok d2, by simpa using c2⟩
      | _ => cases c1
theorem prop_of {C : Addr} {f : PySem.Str} (c : propB K C f = true) : L2.PropOf K C f (ma K C f) (pgA K C f) := by
  obtain ⟨c1, c⟩ := ba c
  obtain ⟨c2, c⟩ := ba c
  obtain ⟨c3, c4⟩ := ba c
  refine ⟨eqO_ok c1, eqO_ok c2, of_decide_eq_true c3, ?_⟩
  unfold pgA
  split at c4
  · rename_i g r e
    rw [e]
    exact ⟨r, rfl⟩
  · cases c4
theorem cread_of {C : Addr} (c : creadB K C = true) : ClX.CRead K C (.type "type") := by
  obtain ⟨c1, c2⟩ := ba c
  exact ⟨c1, eqO_ok c2⟩
theorem cmet_of' {C : Addr} {m : PySem.Str} (c : cmetB K C m = true) : ClX.CMet K C (.type "type") m (ma K C m) (wf K C "classmethod" m) := by
  obtain ⟨c1, c2⟩ := ba c
  exact cmet_of c1 c2
end
/-! the Hook -/
def obsM (ck : Frag → Bool) (fn : List DefA) (K : Frag) : He.AlD := (ck K && fn.all fun d => d.ok K, fn.map fun d => fnA K (d.at_ K))
def valM (fn : List DefA) : He.AlD := (true, fn.map DefA.val)
def SaysM (ck : Frag → Bool) (fn : List DefA) (K : Frag) : Prop := obsM ck fn K = valM fn
def obsMG (n : Nat) (ck : Frag → Bool) (fn : List DefA) (g : Addr → Option Obj) : He.AlD := obsM ck fn (frG g (asA g n))
def hookM (n : Nat) (ck : Frag → Bool) (fn : List DefA) : PySem.W.Hook where
  α := He.AlD
  obs := fun s => obsMG n ck fn s.heap.get?
  val := fun _ => valM fn
  says := fun _ h => ∃ K : Frag, K.In h ∧ SaysM ck fn K
  of := fun _ _ e => ⟨_, frG_in, e⟩
  keeps := fun _ _ _ ⟨K, hK, c⟩ k => ⟨K, Frag.In.keeps hK k, c⟩
theorem obsMG_eq {n : Nat} {ck : Frag → Bool} {fn : List DefA} {g : Addr → Option Obj} {s : Shared} (h : ∀ a, g a = s.heap.get? a) : obsMG n ck fn g = (hookM n ck fn).obs s := by
  have e : g = s.heap.get? := funext h
  rw [e] <;> rfl
section
variable {ck : Frag → Bool} {fn : List DefA} {K : Frag}
theorem SaysM.ck_ (c : SaysM ck fn K) : ck K = true := (ba (show (ck K && fn.all fun d => d.ok K) = true from congrArg (fun z : He.AlD => z.1) c)).1
theorem SaysM.def_ (c : SaysM ck fn K) (i : Nat) {d : DefA} (h : fn[i]? = some d := by rfl) : ∃ fd, L2.FunD K d.name d.qual d.params d.body d.scope (d.dvs K) (d.kws K) (d.at_ K) fd := by
  have c2 := (ba (show (ck K && fn.all fun d => d.ok K) = true from congrArg (fun z : He.AlD => z.1) c)).2
  have e : fn.map (fun d => fnA K (d.at_ K)) = fn.map DefA.val := congrArg (fun z : He.AlD => z.2) c
  have e2 : (fn.map fun d => fnA K (d.at_ K))[i]? = (fn.map DefA.val)[i]? := by rw [e]
  rw [List.getElem?_map, List.getElem?_map, h] at e2
  exact DefA.funD (Option.some.inj e2) (List.all_eq_true.mp c2 d (List.mem_of_getElem? h))
end
end Hk

set_option maxRecDepth 100000
set_option maxHeartbeats 4000000
/-! rules of my own: promises by position (with and without known guards), own operators, unions -/
namespace My
open PySem PySem.Spec PyProof.Rows L2

abbrev CXp (P : Program) (w : World) : CXT := L2.CX P w
/-- as FnR, called where no repr is under way -/
def FnG (P : Program) (w : World) (K : PySem.W.Frag) (mg : Str → Option Value) (base : Heap) (CX : CXT) (k : Nat) (f : Addr) (sp : Sp) : Prop :=
  ∀ (A : Around) (outer : List Env) (s : Shared) (H : Hp) (us : List Value) (vs : List V) (Q : VK) (E : XK), Room k A → A.guards = some [] →
    Env0 P w K mg base A outer s H → Vals vs us → sp vs H Q E → codeAny (model P w) A (.call (.ref f) ⟨us, []⟩) (CR CX outer P w H s Q E) s
section
variable {P : Program} {w : World} {K : PySem.W.Frag} {mg : Str → Option Value} {base : Heap} {CX : CXT} {k : Nat} {f : Addr} {sp : Sp} {x qual : Str} {params : Arguments} {body : List Stmt} {scope : Scope} {N ps : List Str} {dvs : List V} {kws : List (Str × V)}
theorem guards_deeper {A : Around} {env : Env} (h : A.guards = some []) : (A.deeper env).guards = some [] := by
  first
    | exact h
    | simpa [Around.deeper] using h
/-- how the arguments bind: the written ones, then the defaults -/
def BindsR (K : PySem.W.Frag) (fd : FuncData) (ps : List Str) (n : Nat) (dvs : List V) : Prop :=
  ∀ (s : Shared) (us : List Value), K.In s.heap → us.length = n → ∃ ds : List Value, Vals dvs ds ∧ BindsTo s fd ⟨us, []⟩ (ps.zip (us ++ ds))
theorem fn_any {n : Nat} {G : Around → Prop} (F : ∃ fd, FunD K x qual params body scope dvs kws f fd) (S : FnScope N ps scope)
    (hb : ∀ fd, FunD K x qual params body scope dvs kws f fd → BindsR K fd ps n dvs) (len : ∀ vs H Q E, sp vs H Q E → vs.length = n) (hn : n + dvs.length = ps.length)
    (hbody : ∀ (A : Around) (outer : List Env) (s : Shared) (H : Hp) (vs : List V) (Q : VK) (E : XK) (cdv : Value), G A → Room k (A.deeper (envOfC qual scope s.heap.objs.size f cdv)) → sp vs H Q E →
      ∃ t, PSs (cxOf CX P w K mg base N qual scope f cdv A outer s H E) body t ∧ t { nx := fun _ H' => Q .non H', rt := Q } (start N (vs ++ dvs)) H) :
    ∀ (A : Around) (outer : List Env) (s : Shared) (H : Hp) (us : List Value) (vs : List V) (Q : VK) (E : XK), G A → Room (k + 1) A →
      Env0 P w K mg base A outer s H → Vals vs us → sp vs H Q E → codeAny (model P w) A (.call (.ref f) ⟨us, []⟩) (CR CX outer P w H s Q E) s := by
  intro A outer s H us vs Q E hG hr e0 r hsp
  obtain ⟨fd, F⟩ := F
  have hB := hb fd F
  obtain ⟨oc, od, dV, kV, doc, pm, an, cdv, ct, osl, rfl, lk, hcd, _, _⟩ := F.ex
  have hl : us.length = n := by rw [← r.length]; exact len _ _ _ _ hsp
  obtain ⟨ds, rd, hbt⟩ := hB s us (e0.mod.kin.keeps fun b o e => (e0.bs b o e).1) hl
  refine StX.run_bnd lk hcd S hr e0 (G := fun ws H2 => ws = vs ++ dvs ∧ H2 = H) (fun A' Ex Q' h => ?_) fun s2 H2 ws hw hr' => ?_
  · refine hbt _ A' Ex _ ?_
    exact h s H (vs ++ dvs) (us ++ ds) e0 Un.refl rfl (fun _ _ z => z) (r.append rd) (by rw [List.length_append, len _ _ _ _ hsp, hn]) ⟨rfl, rfl⟩
  · obtain ⟨e1, e2⟩ := hw
    subst e1 e2
    exact hbody A outer s2 _ vs Q E cdv hG hr' hsp
/-- a def without defaults -/
theorem bindsR_all {fd : FuncData} (h : ∀ us : List Value, us.length = ps.length → bindArgs fd ⟨us, []⟩ = pure (ps.zip us)) : BindsR K fd ps ps.length [] := fun s us _ hl =>
  ⟨[], .nil, by rw [List.append_nil]; exact .of_eq (h us hl)⟩
end
section
variable {P : Program} {w : World} {K : PySem.W.Frag} {mg : Str → Option Value} {base : Heap} {CX : CXT} {k : Nat} {f : Addr} {sp : Sp} {x qual : Str} {params : Arguments} {body : List Stmt} {scope : Scope} {N ps : List Str}
/-- a def of the text keeps its promise (no defaults) -/
theorem fnR_of (F : ∃ fd, FunD K x qual params body scope [] [] f fd) (S : FnScope N ps scope)
    (hb : ∀ (kV doc pm : Value) (an : Option Addr) (cdv ct : Value) (us : List Value), us.length = ps.length → bindArgs (PySem.W.fnOf x qual params body scope .none kV doc pm an cdv ct) ⟨us, []⟩ = pure (ps.zip us))
    (len : ∀ vs H Q E, sp vs H Q E → vs.length = ps.length)
    (hbody : ∀ (A : Around) (outer : List Env) (s : Shared) (H : Hp) (vs : List V) (Q : VK) (E : XK) (cdv : Value), Room k (A.deeper (envOfC qual scope s.heap.objs.size f cdv)) → sp vs H Q E →
      ∃ t, PSs (cxOf CX P w K mg base N qual scope f cdv A outer s H E) body t ∧ t { nx := fun _ H' => Q .non H', rt := Q } (start N vs) H) :
    FnR P w K mg base CX (k + 1) f sp := fun A outer s H us vs Q E hr e0 r hs =>
  fn_any (G := fun _ => True) (n := ps.length) F S (fun fd F' => by
    obtain ⟨oc, od, dV, kV, doc, pm, an, cdv, ct, osl, rfl, lk, hcd, hd, _⟩ := F'.ex
    rcases hd with ⟨_, hd⟩ | ⟨hd, _⟩
    · subst hd
      exact bindsR_all (hb kV doc pm an cdv ct)
    · exact absurd rfl hd) len rfl (fun A outer s H vs Q E cdv _ hr' h => by rw [List.append_nil]; exact hbody A outer s H vs Q E cdv hr' h) A outer s H us vs Q E trivial hr e0 r hs
theorem fnG_of (F : ∃ fd, FunD K x qual params body scope [] [] f fd) (S : FnScope N ps scope)
    (hb : ∀ (kV doc pm : Value) (an : Option Addr) (cdv ct : Value) (us : List Value), us.length = ps.length → bindArgs (PySem.W.fnOf x qual params body scope .none kV doc pm an cdv ct) ⟨us, []⟩ = pure (ps.zip us))
    (len : ∀ vs H Q E, sp vs H Q E → vs.length = ps.length)
    (hbody : ∀ (A : Around) (outer : List Env) (s : Shared) (H : Hp) (vs : List V) (Q : VK) (E : XK) (cdv : Value), (A.deeper (envOfC qual scope s.heap.objs.size f cdv)).guards = some [] → Room k (A.deeper (envOfC qual scope s.heap.objs.size f cdv)) → sp vs H Q E →
      ∃ t, PSs (cxOf CX P w K mg base N qual scope f cdv A outer s H E) body t ∧ t { nx := fun _ H' => Q .non H', rt := Q } (start N vs) H) :
    FnG P w K mg base CX (k + 1) f sp := fun A outer s H us vs Q E hr hg e0 r hs =>
  fn_any (G := fun A => A.guards = some []) (n := ps.length) F S (fun fd F' => by
    obtain ⟨oc, od, dV, kV, doc, pm, an, cdv, ct, osl, rfl, lk, hcd, hd, _⟩ := F'.ex
    rcases hd with ⟨_, hd⟩ | ⟨hd, _⟩
    · subst hd
      exact bindsR_all (hb kV doc pm an cdv ct)
    · exact absurd rfl hd) len rfl (fun A outer s H vs Q E cdv hg hr' h => by rw [List.append_nil]; exact hbody A outer s H vs Q E cdv (guards_deeper hg) hr' h) A outer s H us vs Q E hg hr e0 r hs
/-- one default that fills up -/
theorem fnR_of1 {d : V} (F : ∃ fd, FunD K x qual params body scope [d] [] f fd) (S : FnScope N ps scope)
    (hb : ∀ fd, FunD K x qual params body scope [d] [] f fd → BindsR K fd ps 1 [d]) (hps : ps.length = 2)
    (len : ∀ vs H Q E, sp vs H Q E → vs.length = 1)
    (hbody : ∀ (A : Around) (outer : List Env) (s : Shared) (H : Hp) (vs : List V) (Q : VK) (E : XK) (cdv : Value), Room k (A.deeper (envOfC qual scope s.heap.objs.size f cdv)) → sp vs H Q E →
      ∃ t, PSs (cxOf CX P w K mg base N qual scope f cdv A outer s H E) body t ∧ t { nx := fun _ H' => Q .non H', rt := Q } (start N (vs ++ [d])) H) :
    FnR P w K mg base CX (k + 1) f sp := fun A outer s H us vs Q E hr e0 r hs =>
  fn_any (G := fun _ => True) (n := 1) F S hb len (by rw [hps]; rfl) (fun A outer s H vs Q E cdv _ hr' h => hbody A outer s H vs Q E cdv hr' h) A outer s H us vs Q E trivial hr e0 r hs
theorem bindsR_of1 {fd : FuncData} {d : V} {ds : List Value} (hb : Binds K fd ps ds) (hd : Vals [d] ds) (hps : ps.length = 2) : BindsR K fd ps 1 [d] := fun s us hK hl =>
  ⟨ds, hd, hb s us hK (by rw [List.length_append, hl, ← hd.length, hps]; rfl)⟩
/-- def f(*v) behind further parameters -/
theorem fnR_star {pv : Str} (F : ∃ fd, FunD K x qual params body scope [] [] f fd) (S : FnScope N (ps ++ [pv]) scope)
    (hb : ∀ (kV doc pm : Value) (an : Option Addr) (cdv ct : Value) (us rest : List Value), us.length = ps.length → bindArgs (PySem.W.fnOf x qual params body scope .none kV doc pm an cdv ct) ⟨us ++ rest, []⟩ = (newTuple rest >>= fun t => pure (ps.zip us ++ [(pv, t)])))
    (hbody : ∀ (A : Around) (outer : List Env) (s : Shared) (H : Hp) (vs : List V) (Q : VK) (E : XK) (cdv : Value), Room k (A.deeper (envOfC qual scope s.heap.objs.size f cdv)) → sp vs H Q E →
      ∃ t, PSs (cxOf (L2.CX P w) P w K mg base N qual scope f cdv A outer s H E) body t ∧ t { nx := fun _ H' => Q .non H', rt := Q } (start N vs) H) :
    FnR P w K mg base (L2.CX P w) (k + 1) f (fun vs H Q E => ∃ ws rest, vs = ws ++ rest ∧ ws.length = ps.length ∧ rest.length ≤ sizeLine ∧ ∀ p, H p = Option.none → sp (ws ++ [V.ref p]) (upd H p (.tup rest)) Q E) := by
  obtain ⟨fd, F⟩ := F
  obtain ⟨oc, od, dV, kV, doc, pm, an, cdv, ct, osl, rfl, lk, hcd, hd, _⟩ := F.ex
  rcases hd with ⟨_, hd⟩ | ⟨hd, _⟩
  · subst hd
    exact StX.fn_star lk hcd S StX.cxUp (hb kV doc pm an cdv ct) fun A outer s H vs Q E hr h => hbody A outer s H vs Q E cdv hr h
  · exact absurd rfl hd
end

/-! ### calls -/
section
variable {X : Cx} {CX : CXT} {k : Nat} {f C : Addr} {sp : Sp} {E : XK} {x m : Str} {p pos apos sp_ : Pos} {e o : Expr} {es : List Expr} {ta te : TE} {t : TA}
def tCallR (sp : Sp) (E : XK) (t : TA) : TE := fun σ H Q => t σ H fun vs H1 => sp vs H1 Q E
theorem pe_callR (F : FnR X.prog X.w X.K X.mg X.base CX k f sp) (hr : Room k X.A) (hk : PySem.W.keepIn X.K (.ref f) = true) (hg : Gl X x) (hm : X.mg x = some (.ref f)) (hx : Passes CX X E) (ha : PA X (e :: es) t) (hd : (x == ("__debug__" : Str)) = false := by decide)
    (he : starEach (e :: es) X.env = (false, eval e X.env) :: starEach es X.env := by rfl) (hst : (backTo pos (starEach es X.env)).any (·.1) = false := by rfl) :
    PE X (.Call (.Name x p) (e :: es) [] pos) (tCallR sp E t) := by
  refine ⟨fun pins s σ H Q I h => ?_⟩
  refine wpAny_Call_Name_kw (ld_glob I hg hm ?_ hd)
  exact PySem.W.callWith_K (h₀ := X.base) I.ok.mod.kin hk (thn (ha.run pos pins s σ H _ I h) fun us s1 ⟨vs, H1, I1, r, q⟩ => ⟨I1.kIn, wpAny_call (run_fnR F hr hx I1 r q)⟩) he hst
theorem pe_callR0 (F : FnR X.prog X.w X.K X.mg X.base CX k f sp) (hr : Room k X.A) (hk : PySem.W.keepIn X.K (.ref f) = true) (hg : Gl X x) (hm : X.mg x = some (.ref f)) (hx : Passes CX X E) (hd : (x == ("__debug__" : Str)) = false := by decide) :
    PE X (.Call (.Name x p) [] [] pos) (tCallR sp E tNil) := by
  refine ⟨fun pins s σ H Q I h => ?_⟩
  refine wpAny_Call_Name_kw (ld_glob I hg hm ?_ hd)
  exact PySem.W.callWith_K0 I.kIn hk (wpAny_call (run_fnR (us := []) F hr hx I .nil h))
theorem run_fnG {pins : List (Addr × Obj)} {σ : L2.St} {H : Hp} {s : Shared} {Q : VK} {us : List Value} {vs : List V} (F : FnG X.prog X.w X.K X.mg X.base CX k f sp) (hr : Room k X.A) (hgd : X.A.guards = some []) (hx : Passes CX X E) (I : Inv X pins σ H s) (r : Vals vs us) (h : sp vs H Q E) :
    codeAny (model X.prog X.w) X.A (.call (.ref f) ⟨us, []⟩) (fun r s' => match r with | .ok (.ret v) => EP X pins σ Q v s' | .ok _ => False | .error e => X.xe e s') s := by
  refine codeAny_mono (F X.A X.stack s H us vs Q E hr hgd I.env0 r h) fun r s' hq => ?_
  cases r with
  | error e => exact hx pins σ H s e s' I hq
  | ok fl => cases fl with
    | ret u => exact I.after hq
    | next => exact False.elim hq
    | brk => exact False.elim hq
    | cont => exact False.elim hq
theorem pe_callG (F : FnG X.prog X.w X.K X.mg X.base CX k f sp) (hr : Room k X.A) (hgd : X.A.guards = some []) (hk : PySem.W.keepIn X.K (.ref f) = true) (hg : Gl X x) (hm : X.mg x = some (.ref f)) (hx : Passes CX X E) (ha : PA X (e :: es) t) (hd : (x == ("__debug__" : Str)) = false := by decide)
    (he : starEach (e :: es) X.env = (false, eval e X.env) :: starEach es X.env := by rfl) (hst : (backTo pos (starEach es X.env)).any (·.1) = false := by rfl) :
    PE X (.Call (.Name x p) (e :: es) [] pos) (tCallR sp E t) := by
  refine ⟨fun pins s σ H Q I h => ?_⟩
  refine wpAny_Call_Name_kw (ld_glob I hg hm ?_ hd)
  exact PySem.W.callWith_K (h₀ := X.base) I.ok.mod.kin hk (thn (ha.run pos pins s σ H _ I h) fun us s1 ⟨vs, H1, I1, r, q⟩ => ⟨I1.kIn, wpAny_call (run_fnG F hr hgd hx I1 r q)⟩) he hst
/-- C() -/
theorem pe_makeR0 (M : Mk X.K C f) (F : FnR X.prog X.w X.K X.mg X.base CX k f sp) (hr : Room (k + 1) X.A) (hg : Gl X x) (hm : X.mg x = some (.ref C)) (hx : Passes CX X E) (hdb : (x == ("__debug__" : Str)) = false := by decide) :
    PE X (.Call (.Name x p) [] [] pos) (StX.tMakeR C sp E tNil) := by
  refine ⟨fun pins s σ H Q I h => ?_⟩
  refine wpAny_Call_Name_kw (ld_glob I hg hm ?_ hdb)
  exact PySem.W.callWith_K0 I.kIn M.kp (StX.run_makeR (us := []) M F hr hx I .nil h)
/-- C( *y) -/
def tMakeS1 (K : PySem.W.Frag) (C : Addr) (sp : Sp) (E : XK) (te : TE) : TE := fun σ H Q => te σ H fun y H1 => ∃ a xs, y = V.ref a ∧ (SqT K H1 a xs ∨ SqL K H1 a xs) ∧ ∀ x dx, H1 x = Option.none → H1 dx = Option.none → dx ≠ x →
  sp (V.ref x :: xs) (upd (upd H1 dx (.own x)) x (.ins C dx [])) (fun v H2 => v = .non ∧ Q (.ref x) H2) E
/-- a local name that holds the class -/
theorem pe_makeV1 {i : Nat} (M : Mk X.K C f) (F : FnR X.prog X.w X.K X.mg X.base CX k f sp) (hr : Room (k + 1) X.A) (hx : Passes CX X E) (he : PE X e te) (hf : PE X (.Name x p) (tVar i))
    (hst : starEach [.Starred e sp_] X.env = [(true, eval e X.env)] := by rfl)
    (ht : eval (.Call (.Name x p) [.Starred e sp_] [] pos) X.env = (do callWith pos (← eval (.Name x p) X.env) [] (backTo pos (starEach [.Starred e sp_] X.env)) (backToKw pos (keywordEach [] X.env))) := by rfl) :
    PE X (.Call (.Name x p) [.Starred e sp_] [] pos) (fun σ H Q => σ[i]? = some (some (.ref C)) ∧ tMakeS1 X.K C sp E te σ H Q) := by
  refine ⟨fun pins s σ H Q I h => ?_⟩
  obtain ⟨h0, h⟩ := h
  refine Call_ (thn (hf.run pins s σ H (fun v H1 => v = .ref C ∧ H1 = H) I ⟨_, h0, rfl, rfl⟩) fun u s1 z => ?_) ht
  obtain ⟨v, H1, I1, rv, ev, eH⟩ := z
  subst ev eH
  obtain rfl : u = Value.ref C := rv
  refine PySem.W.callWith_S (h₀ := X.base) I1.ok.mod.kin M.kp (thn (he.run pins s1 σ _ _ I1 h) fun u s2 z => ?_) hst
  obtain ⟨y, H2, I2, ry, a, xs, ey, hxs, q⟩ := z
  subst ey
  obtain rfl : u = Value.ref a := ry
  exact StX.star_any I2 hxs fun us s3 I3 rv => ⟨I3.kIn, StX.run_makeR M F hr hx I3 rv q⟩
/-- C( *y, e, ..), C a name of the module -/
theorem pe_makeS {rest : List Expr} (M : Mk X.K C f) (F : FnR X.prog X.w X.K X.mg X.base CX k f sp) (hr : Room (k + 1) X.A) (hg : Gl X x) (hm : X.mg x = some (.ref C)) (hx : Passes CX X E) (ha : PA X rest t) (hdb : (x == ("__debug__" : Str)) = false := by decide)
    (hst : (backTo pos (starEach rest X.env)).any (·.1) = true := by rfl) (hne : rest ≠ [] := by exact fun z => nomatch z)
    (hcw : ∀ {s : Shared} {Q : Value → Shared → Prop}, wpAny (model X.prog X.w) X.A (spliced (backTo pos (starEach rest X.env))) (fun vs s₁ => X.K.In s₁.heap ∧ wpAny (model X.prog X.w) X.A (call (.ref C) vs) Q X.xe s₁) X.xe s →
      wpAny (model X.prog X.w) X.A (callWith pos (.ref C) [] (backTo pos (starEach rest X.env)) []) Q X.xe s) :
    PE X (.Call (.Name x p) rest [] pos) (StX.tMakeR C sp E t) := by
  refine ⟨fun pins s σ H Q I h => ?_⟩
  refine wpAny_Call_Name_kw (ld_glob I hg hm ?_ hdb)
  exact hcw (thn (ha.run pos pins s σ H _ I h) fun us s1 ⟨vs, H1, I1, r, q⟩ => ⟨I1.kIn, StX.run_makeR M F hr hx I1 r q⟩)
/-- o.m() -/
theorem pe_methR0 {pl : Sem Bool} (he : PE X o ta) (c : Cls X.K C) (hm : Meth X.K C m f) (F : FnR X.prog X.w X.K X.mg X.base CX k f sp) (hr : Room k X.A) (hx : Passes CX X E)
    (ht : eval (.Call (.Attribute o m apos) [] [] pos) X.env = (do
      let ov ← eval o X.env
      standAt apos.atName
      let (f, first) ← holding [ov] (getMethod ov m pl)
      callWith pos f first (backTo pos (starEach [] X.env)) (backToKw pos (keywordEach [] X.env))) := by rfl) :
    PE X (.Call (.Attribute o m apos) [] [] pos) (tMethR C m sp E ta tNil) := by
  refine ⟨fun pins s σ H Q I h => ?_⟩
  refine PySem.W.methodCall_KW (pl := pl) (thn (he.run pins s σ H _ I h) fun u s1 z => ?_) ht
  obtain ⟨x, H1, I1, rx, a, dx, fs, ex, ea, l, q⟩ := z
  subst ex
  obtain rfl : u = Value.ref a := rx
  refine getmeth_ok I1 ea c hm l ?_
  exact PySem.W.callWith_K0 (first := [.ref a]) I1.kIn hm.kp (wpAny_call (run_fnR (us := [.ref a]) (vs := [.ref a]) F hr hx I1 (.cons rfl .nil) q))
/-- e.f, a property -/
def tPropR (C : Addr) (sp : Sp) (E : XK) (ta : TE) : TE := fun σ H Q => ta σ H fun x H1 => ∃ a dx fs, x = .ref a ∧ H1 a = some (.ins C dx fs) ∧ sp [.ref a] H1 Q E
theorem pe_propR {fn : Str} {pr : Addr} (he : PE X e ta) (c : Cls X.K C) (hp : PropOf X.K C fn pr f) (F : FnR X.prog X.w X.K X.mg X.base CX k f sp) (hr : Room (k + 1) X.A) (hx : Passes CX X.nox E)
    (hab : attributeBase e fn X.env (eval e X.env) = eval e X.env := by rfl) : PE X (.Attribute e fn pos) (tPropR C sp E ta) := by
  refine ⟨fun pins s σ H Q I h => ?_⟩
  refine attr_of hab (thn (he.run pins s σ H _ I h) fun u s1 z => ?_)
  obtain ⟨x, H1, I1, rx, a, dx, fs, ex, ea, q⟩ := z
  subst ex
  obtain rfl : u = Value.ref a := rx
  obtain ⟨mA, O, _, _, _, _⟩ := ins_get I1.hok ea
  obtain ⟨od, J, _⟩ := O.look
  obtain ⟨rest, hrec⟩ := hp.rec_
  have hc : (PySem.W.clsIn X.K C).isSome = true := by
    obtain ⟨cd, hc, _⟩ := PySem.W.any_some c.hd
    rw [hc]
    rfl
  have I2 := I1.tok (s1.toks + 1)
  refine PySem.W.get_bind I1.kIn J (PySem.W.plainGet_of (c.get fn)).1 (PySem.W.findObj_data hc hp.at_ hp.get hp.tak) (PySem.W.plainGet_of (c.get fn)).2 (wpAny_call (PySem.W.prop_get (s := { s1 with toks := s1.toks + 1 }) I1.kIn hrec ?_))
  refine codeAny_mono (F X.A.in1 X.stack { s1 with toks := s1.toks + 1 } H1 [.ref a] [.ref a] Q E hr.in1 I2.env0.in1 (.cons rfl .nil) q) fun r s' hq => ?_
  cases r with
  | error er => exact False.elim (hx pins σ H1 { s1 with toks := s1.toks + 1 } er s' (I2.wish _) hq)
  | ok fl => cases fl with
    | ret u =>
      obtain ⟨v, H', I3, rv, q3⟩ := I2.after hq
      show wpAny _ _ (handedOut u) _ _ _
      rw [PySem.W.handedOut_of (handed_of rv)]
      exact wpAny_pure ⟨v, H', I3, rv, q3⟩
    | next => exact False.elim hq
    | brk => exact False.elim hq
    | cont => exact False.elim hq
end
end My

set_option maxRecDepth 100000
set_option maxHeartbeats 4000000
namespace My
open PySem PySem.Spec PyProof.Rows L2

/-! ### an instance's own def of an operator -/
section
variable {X : Cx} {CX : CXT} {pins : List (Addr × Obj)} {σ : L2.St} {H : Hp} {s : Shared} {a C dx g : Addr} {fs : List (Str × V)} {n : Nat} {sp : Sp} {E : XK}
theorem run_below {A : Around} {Q : VK} {us : List Value} {ws : List V} (F : FnR X.prog X.w X.K X.mg X.base CX n g sp) (hr : Room n A) (e0 : Env0 X.prog X.w X.K X.mg X.base A X.stack s H) (hx : Passes CX X E) (I : Inv X pins σ H s) (r : Vals ws us) (h : sp ws H Q E) :
    wpAny (model X.prog X.w) A (call (.ref g) us) (EP X pins σ Q) X.xe s := by
  refine wpAny_call (codeAny_mono (F A X.stack s H us ws Q E hr e0 r h) fun r s' hq => ?_)
  cases r with
  | error e => exact hx pins σ H s e s' I hq
  | ok fl => cases fl with
    | ret u => exact I.after hq
    | next => exact False.elim hq
    | brk => exact False.elim hq
    | cont => exact False.elim hq
theorem ins_at (I : Inv X pins σ H s) (ea : H a = some (.ins C dx fs)) : ∃ od, PySem.W.InstAt s.heap a (PySem.W.instObj C dx) C (some od) := by
  obtain ⟨mA, O, _⟩ := ins_get I.hok ea
  obtain ⟨od, J, _⟩ := O.look
  exact ⟨od, J⟩
/-- v in o, v not in o -/
def rInOwn (C : Addr) (sp : Sp) (E : XK) (neg : Bool) : R2 := fun x y H Q => ∃ a dx fs, y = .ref a ∧ H a = some (.ins C dx fs) ∧ sp [y, x] H (fun z H' => ∃ b, z = .bl b ∧ Q (.bl (if neg then !b else b)) H') E
theorem op_inOwn (hs : PySem.W.findIn X.K (.ref C) "__contains__" = some (some (.ref g))) (hf : PySem.W.isFn X.K (.ref g) = true) (F : FnR X.prog X.w X.K X.mg X.base CX n g sp) (hr : Room n X.A) (hx : Passes CX X E) : OpR X (compareOp .In) (rInOwn C sp E false) := by
  intro pins s σ H x y v u Q I rx ry h
  obtain ⟨a, dx, fs, rfl, ea, q⟩ := h
  cases (show u = Value.ref a from ry)
  obtain ⟨od, J⟩ := ins_at I ea
  obtain ⟨m, hF⟩ := I.fr
  refine PySem.W.in_K hF I.ok.mod.kin J hs hf (thn (run_below (us := [.ref a, v]) (ws := [.ref a, x]) F hr I.env0 hx I (.cons rfl (.cons rx .nil)) q) fun w s' z => ?_)
  obtain ⟨z0, H', I', rz, b, ez, q'⟩ := z
  subst ez
  cases (show w = Value.bool b from rz)
  exact wpAny_truthy_bool ⟨.bl b, H', I', rfl, q'⟩
theorem op_notInOwn (hs : PySem.W.findIn X.K (.ref C) "__contains__" = some (some (.ref g))) (hf : PySem.W.isFn X.K (.ref g) = true) (F : FnR X.prog X.w X.K X.mg X.base CX n g sp) (hr : Room n X.A) (hx : Passes CX X E) : OpR X (compareOp .NotIn) (rInOwn C sp E true) := by
  intro pins s σ H x y v u Q I rx ry h
  obtain ⟨a, dx, fs, rfl, ea, q⟩ := h
  cases (show u = Value.ref a from ry)
  obtain ⟨od, J⟩ := ins_at I ea
  obtain ⟨m, hF⟩ := I.fr
  refine PySem.W.notIn_K hF I.ok.mod.kin J hs hf (thn (run_below (us := [.ref a, v]) (ws := [.ref a, x]) F hr I.env0 hx I (.cons rfl (.cons rx .nil)) q) fun w s' z => ?_)
  obtain ⟨z0, H', I', rz, b, ez, q'⟩ := z
  subst ez
  cases (show w = Value.bool b from rz)
  exact wpAny_truthy_bool ⟨.bl (!b), H', I', rfl, q'⟩
/-- o[i] -/
def rIxOwn (C : Addr) (sp : Sp) (E : XK) : R2 := fun x y H Q => ∃ a dx fs, x = .ref a ∧ H a = some (.ins C dx fs) ∧ sp [x, y] H Q E
theorem pe_ixOwn {o i : Expr} {ta tb : TE} {pos : Pos} (hs : PySem.W.findIn X.K (.ref C) "__getitem__" = some (some (.ref g))) (hf : PySem.W.isFn X.K (.ref g) = true) (hfn : PySem.W.fnIn X.K g = true)
    (F : FnR X.prog X.w X.K X.mg X.base CX n g sp) (hr : Room (n + 1) X.A) (hx : Passes CX X E) (ha : PE X o ta) (hb : PE X i tb)
    (hev : ∀ (s : Shared) (Q E' : Value → Shared → Prop), wpAny (model X.prog X.w) X.A (eval o X.env) (fun ov s1 => wpAny (model X.prog X.w) X.A (eval i X.env) (fun iv s2 => wpAny (model X.prog X.w) X.A (subscriptTail o i ov iv) Q E' s2) E' s1) E' s → wpAny (model X.prog X.w) X.A (eval (.Subscript o i pos) X.env) Q E' s)
    (hsl : ∀ x v : Value, subscripted i true x v = runValue (.builtin "lifetime.subscript" ⟨[x, v], []⟩)) :
    PE X (.Subscript o i pos) (tOp (rIxOwn C sp E) ta tb) := by
  refine ⟨fun pins s σ H Q I h => ?_⟩
  refine hev _ _ _ (thn (ha.run pins s σ H _ I h) fun ov s1 z => ?_)
  obtain ⟨x, H1, I1, rx, h1⟩ := z
  refine thn (hb.run pins s1 σ H1 _ I1 h1) fun iv s2 z => ?_
  obtain ⟨y, H2, I2, ry, a, dx, fs, rfl, ea, q⟩ := z
  cases (show ov = Value.ref a from rx)
  obtain ⟨od, J⟩ := ins_at I2 ea
  obtain ⟨m, hF⟩ := I2.fr
  exact PySem.W.sub_K hF I2.ok.mod.kin J hs hfn hf (run_below (us := [.ref a, iv]) (ws := [.ref a, y]) F hr.in1 I2.env0.in1 hx I2 (.cons rfl (.cons ry .nil)) q) (hsl _ _)
end

/-! ### x op y by x's own def, y of another kind -/
namespace Bo
open PySem.W Builtin
section
variable {prog : Program} {w : World} {A : Around} {E : Value → Shared → Prop} {s : Shared} {K : Frag} {x C L f : Addr} {h₀ : Heap} {m : Str → Option Value} {ox : Obj} {od : Option Obj}
theorem called_fn {M : Model} {h : Heap} {t : Value} {name : Str} {f : Addr} : Looks M h (calledByName t name (some (.ref f))) true := .now
theorem called_none {M : Model} {h : Heap} {t : Value} {name : Str} : Looks M h (calledByName t name none) false := .now
theorem inPy {M : Model} {h : Heap} {nm : String} {D g : Addr} (X : K.In h) (hs : findIn K (.ref D) (PySem.dunder nm) = some (some (.ref g))) (hr : findIn K (.ref D) (dunderR nm) = some none) : Looks M h (numberSlotInPython (.ref D) nm) true := by
  intro A Q E s k q
  unfold numberSlotInPython
  refine wpAny_bind (looks_findIn X hs A _ E s k ?_)
  refine wpAny_bind (called_fn A _ E s k ?_)
  refine wpAny_bind (looks_findIn X hr A _ E s k ?_)
  refine wpAny_bind (called_none A _ E s k ?_)
  exact wpAny_pure q
/-- y is an instance of another class (not below) that has a def for op too, neither class one for the reflected op -/
theorem binop2 {nm : String} {b : Value} {D g : Addr} {Q : Option Value → Shared → Prop} {cdC cdD : ClassData} {rC rD : List Value} (F : Fr h₀ L s.heap m) (X₀ : K.In h₀) (I : InstAt s.heap x ox C od) (hb : Looks (model prog w) s.heap (typeOf b) (.ref D)) (hne : C ≠ D)
    (hcC : clsIn K C = some cdC) (hmC : cdC.mro = .ref C :: rC) (hcD : clsIn K D = some cdD) (hmD : cdD.mro = .ref D :: rD)
    (hs : findIn K (.ref C) (PySem.dunder nm) = some (some (.ref f))) (hf : isFn K (.ref f) = true) (hsD : findIn K (.ref D) (PySem.dunder nm) = some (some (.ref g)))
    (hrC : findIn K (.ref C) (dunderR nm) = some none) (hrD : findIn K (.ref D) (dunderR nm) = some none) (hsub : subIn K (.ref D) (.ref C) = some false)
    (h : wpAny (model prog w) A (call (.ref f) [.ref x, b]) (fun v s' => v ≠ .notImplemented ∧ Q (some v) s') E s) : wpAny (model prog w) A (binaryOp1 nm (.ref x) b) Q E s := by
  have X := X₀.keeps F.keep
  have hn : (Value.ref C == Value.ref D) = false := by simp [hne]
  unfold binaryOp1
  refine wpAny_bind (I.type.here (wpAny_bind (hb.here (wpAny_bind ((fills_K X hcC hmC hs).here ?_)))))
  rw [hn]
  simp only [Bool.false_eq_true, if_false]
  refine wpAny_bind ((fills_K X hcD hmD hsD).here ?_)
  simp only [Bool.and_self, if_true]
  refine wpAny_bind (m := isSubtype (.ref D) (.ref C)) ((looks_subIn X hsub).here ?_)
  simp only [Bool.false_eq_true, if_false]
  simp only [Bool.false_eq_true, if_false, Bool.not_false, Bool.and_self, if_true]
  refine wpAny_bind (m := numberSlotInPython (.ref C) nm) ((inPy X hs hrC).here ?_)
  simp only [if_true]
  refine wpAny_bind (m := numberSlotInPython (.ref D) nm) ((inPy X hsD hrD).here ?_)
  simp only [Bool.not_true, Bool.false_eq_true, if_false]
  refine wpAny_bind (m := tryMethod (.ref x) (PySem.dunder nm) b) ?_
  unfold tryMethod
  refine wpAny_bind (special_fn X I hs (beq_iff_eq.mp hf) (wpAny_mono h (fun v s' hv => ?_) fun _ _ e => e))
  cases v <;> first | exact absurd rfl hv.1 | exact wpAny_pure (wpAny_pure hv.2)
end
end Bo
end My

set_option maxRecDepth 100000
set_option maxHeartbeats 4000000
namespace PySem
/-! enumerate(v), v anything that an iterator begins on -/
theorem my_enum_new {v : Value} {o : Obj} {H : Heap → Prop} (B : Begins v o H) :
    Meets (Builtin.«enumerate.__new__» ⟨[.type "enumerate", v], []⟩) (fun _ R s => H s.heap ∧
      R (.ok (.ret (.ref (s.heap.push o).objs.size)))
        { s with heap := (s.heap.push o).push { cls := .type "enumerate", data := .fields #[.none, .bool false, .ref s.heap.objs.size, rawInt 0, .none, .none] } }) :=
  .of_wp fun prog w A R s hh => by
    obtain ⟨hp, g, d, tk, os⟩ := s
    obtain ⟨h1, hq⟩ := hh
    have hsub := sub_enumerate
    have it : ∀ {A' : Around} {E : Value → Shared → Prop} {Q : Value → Shared → Prop}, Q (.ref hp.objs.size) ⟨hp.push o, g, d, tk, os⟩ →
        wpAny (model prog w) A' (pyIter v) Q E ⟨hp, g, d, tk, os⟩ := fun q => B.iter prog w _ _ ⟨hp, g, d, tk, os⟩ _ h1 q
    wp_walk using it
    refine wpAny_stack_any fun st => wpAny_pure ?_
    split
    · rename_i c _ _ _ _ _
      cases (c == Value.type "enumerate") <;> (wp_walk using it; exact ⟨_, rfl, hq⟩)
    · wp_walk using it
      exact ⟨_, rfl, hq⟩
theorem my_enum {prog : Program} {w : World} {A : Around} {E : Value → Shared → Prop} {s : Shared} {v : Value} {o : Obj} {H : Heap → Prop} {Q : Value → Shared → Prop} (B : Begins v o H) (h1 : H s.heap)
    (h : ∀ h', IsEnum h' (s.heap.objs.size + 1) s.heap.objs.size 0 .none → h'.get? s.heap.objs.size = some o → h'.objs.size = s.heap.objs.size + 2 →
      (∀ b u, s.heap.get? b = some u → h'.get? b = some u) → Q (.ref (s.heap.objs.size + 1)) { s with heap := h' }) :
    wpAny (model prog w) A (call (.type "enumerate") [v]) Q E s := by
  refine callType_new F.called_enumerate (by decide) (F.typeCall_enumerate_1 _) (F.newCall_enumerate_1 _) (fun obj => F.args_object_init_2 obj _) F.entry_enumerate_new (my_enum_new B) ⟨h1, ?_⟩
  have hz : (s.heap.push o).objs.size = s.heap.objs.size + 1 := Heap.size_push ..
  show _ ∧ _
  rw [hz]
  have he := Heap.get?_push_size (s.heap.push o) (o := { cls := .type "enumerate", data := .fields #[.none, .bool false, .ref s.heap.objs.size, rawInt 0, .none, .none] }) rfl
  rw [hz] at he
  refine ⟨⟨_, he, rfl⟩, h _ he (Heap.get?_push_of_some _ (Heap.get?_push_size _ B.free)) ?_ fun b u z => Heap.get?_push_of_some _ (Heap.get?_push_of_some _ z)⟩
  rw [Heap.size_push, hz]
end PySem
namespace My
open PySem PySem.Spec PyProof.Rows L2
/-! ### enumerate(tuple) -/
def IteT (K : PySem.W.Frag) (a : Addr) : It :=
  ⟨fun i H => ∃ (xs : List V) (x : V), SqT K H a xs ∧ xs[i]? = some x, fun i H v H' => ∃ T x, v = .ref T ∧ H T = none ∧ H' = upd H T (.tup [.int (i : Nat), x]) ∧ ∀ xs, SqT K H a xs → xs[i]? = some x,
    fun i H => ∃ xs : List V, SqT K H a xs ∧ xs.length = i⟩
theorem turn_enumT {P : Program} {w : World} {K : PySem.W.Frag} {elts : List Expr} {kk : Nat} {tpos : Pos} (a e it : Addr) :
    Turn P w K (.Tuple elts kk tpos) (IteT K a) [e, it] e (fun i h => (∃ old, IsEnum h e it ((i : Nat) : Int) old) ∧ h.IsTupleIter it a i ∧ e ≠ it ∧ a ≠ it ∧ a ≠ e) where
  mem := by simp
  obj := fun i h st b hb => by
    obtain ⟨⟨old, he⟩, ⟨o, ho, hc, hd⟩, _⟩ := st
    have e' : b = e ∨ b = it := by simpa using hb
    rcases e' with z | z
    · subst z
      exact ⟨_, he, fun v q => by cases q⟩
    · subst z
      exact ⟨o, ho, fun v q => by rw [hd] at q; cases q⟩
  keep := fun i h h' st k => by
    obtain ⟨⟨old, he⟩, hi, hne⟩ := st
    exact ⟨⟨old, k e (by simp) _ he⟩, hi.at fun o q => k it (by simp) o q, hne⟩
  item := by
    intro X hP hw hK hc i pins s σ H E I hf st hg
    subst hP hw hK
    obtain ⟨⟨old, he⟩, hit, hne, hai, hae⟩ := st
    obtain ⟨xs, x, hq, hx⟩ := hg
    obtain ⟨its, rv, p, hz⟩ := I.tuple hq
    obtain ⟨u, hu, ru⟩ := rv.get hx
    have hel : e < s.heap.objs.size := Heap.lt_size he
    have hil : it < s.heap.objs.size := by
      obtain ⟨_, q, _⟩ := hit
      exact Heap.lt_size q
    have hlt : i < its.toArray.size := by
      obtain ⟨h1, _⟩ := List.getElem?_eq_some_iff.mp hu
      simpa using h1
    have hal : a < s.heap.objs.size := p.lt
    refine wpAny_pyNext_enum_itemD (n := its.toArray.size) (Draws.tuple (by exact I.ok.hd hc) it a hai its.toArray) he ⟨hit, p⟩ hlt hne (by simp [hne, Ne.symm hae]) fun v h' tk hv ho hst hT hsz hk => ?_
    have ev : v = u := by
      have q : its[i]? = some v := by simpa using hv
      rw [hu] at q
      exact (Option.some.inj q).symm
    subst ev
    refine ⟨_, rfl, wpAny_letOwnedTupleGo_enum (s := { s with heap := h', toks := tk + 1 }) ho fun h'' he' sb => ?_⟩
    have hT2 : h''.get? s.heap.objs.size = some { cls := .type "tuple", data := .seq #[.int i tk, v] } := (sb.2 _ (Nat.ne_of_gt hel)).trans hT
    have new : ObjOk X.prog X.w (upd H s.heap.objs.size (.tup [.int (i : Nat), x])) h'' s.heap.objs.size (.tup [.int (i : Nat), x]) :=
      ⟨by show 2 ≤ sizeLine; decide, [.int i tk, v], .cons ⟨_, rfl⟩ (.cons ru .nil), ⟨_, hT2, rfl, _, rfl⟩⟩
    have I1 : Inv X pins σ (upd H s.heap.objs.size (.tup [.int (i : Nat), x])) { s with heap := h'', toks := tk + 1 } :=
      I.turnedNew (ch := [e, it]) (fun b ob hb q => by
        have b1 : b ≠ e := fun z => hb (by simp [z])
        have b2 : b ≠ it := fun z => hb (by simp [z])
        exact (sb.2 b b1).trans (hk b ob b1 b2 q)) hf (Nat.le_refl _) new
    refine ⟨.ref s.heap.objs.size, _, I1, rfl, ⟨_, x, rfl, I.hok.fresh (Nat.le_refl _), rfl, fun ys hy => by rw [I.tuple_inj hy hq]; exact hx⟩, ⟨⟨v, ?_⟩, hst.1.at fun o q => (sb.2 it (Ne.symm hne)).trans q, hne, hai, hae⟩, fun b hb => ?_⟩
    · have e1 : ((i + 1 : Nat) : Int) = (i : Int) + 1 := by omega
      rw [e1]
      exact he'
    · have hb' : b < s.heap.objs.size := by
        have e' : b = e ∨ b = it := by simpa using hb
        rcases e' with z | z
        · exact z ▸ hel
        · exact z ▸ hil
      rw [upd_ne (Nat.ne_of_lt hb')]
      exact (hf b hb).1
  done := by
    intro X hP hw hK hc i pins s σ H E I hf st hg
    subst hP hw hK
    obtain ⟨⟨old, he⟩, hit, hne, hai, hae⟩ := st
    obtain ⟨xs, hq, hx⟩ := hg
    obtain ⟨its, rv, p, hz⟩ := I.tuple hq
    obtain ⟨f0, f1, f2, f3, f4, f5⟩ := hf it (by simp)
    have hl := rv.length
    refine wpAny_pyNext_enum_endD (n := its.toArray.size) (Draws.tuple (by exact I.ok.hd hc) it a hai its.toArray) he ⟨?_, p⟩ fun h' eb => ⟨rfl, I.turned (t' := s.toks) (fun b o hb q => eb b o hb q) f0 f1 f3 f4 f5⟩
    have en : its.toArray.size = i := by simp; omega
    rw [en]
    exact hit
  self := fun A i s Q E st h => by
    obtain ⟨⟨_, he⟩, _⟩ := st
    exact wpAny_pyIter_enum he h
def iEnumA (K : PySem.W.Frag) (ta : TA) : TI := fun σ H R => ta σ H fun vs H1 => ∃ a xs, vs = [.ref a] ∧ ((SqL K H1 a xs ∧ R (Ite K a) H1) ∨ (SqT K H1 a xs ∧ R (IteT K a) H1))
theorem pi_enumA {X : Cx} {e : Expr} {ta : TA} {p pos tpos : Pos} {elts : List Expr} {kk : Nat} (hg : Gl X "enumerate") (hm : X.mg "enumerate" = none) (ha : PA X [e] ta) (hs : starEach [e] X.env = [(false, eval e X.env)] := by rfl) :
    PI X (.Tuple elts kk tpos) (.Call (.Name "enumerate" p) [e] [] pos) (iEnumA X.K ta) := by
  refine ⟨fun pins s σ H R I h => ?_⟩
  refine Call_ (ld_blt I hg hm boot_enumerate (PyProof.Rows.callWith_type1 (thn (ha.run pos pins s σ H _ I h) fun us s1 z => ?_) hs rfl))
  obtain ⟨vs, H1, I1, r1, a, xs, ex, q⟩ := z
  subst ex
  cases r1 with
  | cons r rr =>
    cases rr
    cases r
    have fp : ∀ b ∈ [s1.heap.objs.size + 1, s1.heap.objs.size], FpOk X pins H1 b := fun b hb => by
      have e' : b = s1.heap.objs.size + 1 ∨ b = s1.heap.objs.size := by simpa using hb
      have hle : s1.heap.objs.size ≤ b := by
        rcases e' with z | z
        · rw [z]
          exact Nat.le_succ _
        · rw [z]
          exact Nat.le_refl _
      exact I1.fpOk hle (I1.hok.fresh hle)
    rcases q with ⟨hq, q⟩ | ⟨hq, q⟩
    · obtain ⟨its, rv, p', hz⟩ := I1.list hq
      refine call_enumerate_list p'.isList fun h' he hit hsz hk => wpAny_pyIter_enum he ?_
      exact ⟨s1.heap.objs.size + 1, [s1.heap.objs.size + 1, s1.heap.objs.size], _, _, H1, rfl, I1.kept (t' := s1.toks) hk, turn_enum a (s1.heap.objs.size + 1) s1.heap.objs.size, ⟨⟨.none, he⟩, hit, Nat.succ_ne_self _⟩, fp, q⟩
    · obtain ⟨its, rv, p', hz⟩ := I1.tuple hq
      have hal : a < s1.heap.objs.size := p'.lt
      refine my_enum (begins_tuple a its.toArray) p' fun h' he hit hsz hk => wpAny_pyIter_enum he ?_
      exact ⟨s1.heap.objs.size + 1, [s1.heap.objs.size + 1, s1.heap.objs.size], _, _, H1, rfl, I1.kept (t' := s1.toks) hk, turn_enumT a (s1.heap.objs.size + 1) s1.heap.objs.size,
        ⟨⟨.none, he⟩, ⟨_, hit, rfl, rfl⟩, Nat.succ_ne_self _, Nat.ne_of_lt hal, Nat.ne_of_lt (Nat.lt_succ_of_lt hal)⟩, fp, q⟩
theorem for_enumT {K : PySem.W.Frag} {a : Addr} {xs : List V} {g : TG} {tb : TS} {D : Ends} {σ : L2.St} {H : Hp} (Pv : Nat → L2.St → Hp → Prop) (h0 : Pv 0 σ H) (hl : ∀ i σ H, i ≤ xs.length → Pv i σ H → SqT K H a xs)
    (hs : ∀ i x σ H T, xs[i]? = some x → Pv i σ H → H T = none → g (.ref T) σ (upd H T (.tup [.int (i : Nat), x])) fun σ2 H2 => tb { D with nx := Pv (i + 1), ct := Pv (i + 1), bk := D.nx } σ2 H2)
    (hd : ∀ σ H, Pv xs.length σ H → D.nx σ H) :
    ∃ W : Nat → Nat → L2.St → Hp → Prop, (∃ m, W 0 m σ H) ∧ ∀ i m σ H, W i m σ H →
      ((IteT K a).stop i H ∧ D.nx σ H) ∨ ((IteT K a).go i H ∧ ∃ N : L2.St → Hp → Prop, (∀ σ' H', N σ' H' → ∃ m', m' < m ∧ W (i + 1) m' σ' H') ∧ ∀ x H', (IteT K a).yld i H x H' → g x σ H' fun σ2 H2 => tb { D with nx := N, ct := N, bk := D.nx } σ2 H2) := by
  refine ⟨fun i m σ H => m = xs.length - i ∧ i ≤ xs.length ∧ Pv i σ H, ⟨xs.length, by simp, Nat.zero_le _, h0⟩, ?_⟩
  rintro i m σ H ⟨rfl, hi, p⟩
  have q := hl i σ H hi p
  by_cases hlt : i < xs.length
  · refine .inr ⟨⟨xs, xs[i], q, by simp [hlt]⟩, fun σ' H' => Pv (i + 1) σ' H', fun σ' H' z => ⟨xs.length - (i + 1), by omega, rfl, hlt, z⟩, ?_⟩
    rintro x H' ⟨T, y, rfl, hT, rfl, hy⟩
    exact hs i y σ H T (hy xs q) p hT
  · have e : i = xs.length := by omega
    subst e
    exact .inl ⟨⟨xs, q, rfl⟩, hd σ H p⟩
theorem for_enumL {K : PySem.W.Frag} {a : Addr} {xs : List V} {g : TG} {tb : TS} {D : Ends} {σ : L2.St} {H : Hp} (Pv : Nat → L2.St → Hp → Prop) (h0 : Pv 0 σ H) (hl : ∀ i σ H, i ≤ xs.length → Pv i σ H → SqL K H a xs)
    (hs : ∀ i x σ H T, xs[i]? = some x → Pv i σ H → H T = none → g (.ref T) σ (upd H T (.tup [.int (i : Nat), x])) fun σ2 H2 => tb { D with nx := Pv (i + 1), ct := Pv (i + 1), bk := D.nx } σ2 H2)
    (hd : ∀ σ H, Pv xs.length σ H → D.nx σ H) :
    ∃ W : Nat → Nat → L2.St → Hp → Prop, (∃ m, W 0 m σ H) ∧ ∀ i m σ H, W i m σ H →
      ((Ite K a).stop i H ∧ D.nx σ H) ∨ ((Ite K a).go i H ∧ ∃ N : L2.St → Hp → Prop, (∀ σ' H', N σ' H' → ∃ m', m' < m ∧ W (i + 1) m' σ' H') ∧ ∀ x H', (Ite K a).yld i H x H' → g x σ H' fun σ2 H2 => tb { D with nx := N, ct := N, bk := D.nx } σ2 H2) := by
  refine ⟨fun i m σ H => m = xs.length - i ∧ i ≤ xs.length ∧ Pv i σ H, ⟨xs.length, by simp, Nat.zero_le _, h0⟩, ?_⟩
  rintro i m σ H ⟨rfl, hi, p⟩
  have q := hl i σ H hi p
  by_cases hlt : i < xs.length
  · refine .inr ⟨⟨xs, xs[i], q, by simp [hlt]⟩, fun σ' H' => Pv (i + 1) σ' H', fun σ' H' z => ⟨xs.length - (i + 1), by omega, rfl, hlt, z⟩, ?_⟩
    rintro x H' ⟨T, y, rfl, hT, rfl, hy⟩
    exact hs i y σ H T (hy xs q) p hT
  · have e : i = xs.length := by omega
    subst e
    exact .inl ⟨⟨xs, q, Nat.le_refl _⟩, hd σ H p⟩

/-! ### unions, repr -/
section
variable {X : Cx}
def rMulS : R2 := fun x y H Q => ∃ (a : Str) (n : Int), x = .str a ∧ y = .int n ∧ 2 ≤ n ∧ n ≤ 1000 ∧ 0 < a.length ∧ a.length ≤ 1000 ∧ (⟨(List.replicate n.toNat a.cps).foldl (· ++ ·) #[]⟩ : Str).length ≤ sizeLine ∧ Q (.str ⟨(List.replicate n.toNat a.cps).foldl (· ++ ·) #[]⟩) H
theorem op_mulS : OpR X (binaryOp .Mult) rMulS := by
  intro pins s σ H x y v u Q I rx ry h
  obtain ⟨a, n, rfl, rfl, h2, h1000, h0, hl, hz, q⟩ := h
  obtain ⟨t, rfl⟩ := rx
  obtain ⟨t', rfl⟩ := ry
  have hn1 : ¬ n < 1 := by omega
  have hb1 : (n == 1 || a.length == 0) = false := by
    have e1 : (n == 1) = false := by simpa using (show n ≠ 1 by omega)
    have e2 : (a.length == 0) = false := by simpa using (show a.length ≠ 0 by omega)
    rw [e1, e2]
    rfl
  have hm : a.length * n.toNat ≤ 1000 * 1000 := Nat.mul_le_mul hl (by omega)
  refine P.mul_str ?_ (fun _ _ => ?_) (fun _ _ => ?_) ?_
  · have e1 : decide (n < -(2 ^ 63 : Int)) = false := decide_eq_false (by omega)
    have e2 : decide (n ≥ 2 ^ 63) = false := decide_eq_false (by omega)
    rw [e1, e2]
    rfl
  · have hd : (1000 : Int) ≤ (2 ^ 63 - 1) / n := by
      rw [Int.le_ediv_iff_mul_le (by omega)]
      omega
    omega
  · have z : a.length * n.toNat ≤ sizeLine := Nat.le_trans hm (by decide)
    first
      | exact decide_eq_false (Nat.not_lt.mpr z)
      | (unfold Builtin.tooLong; exact decide_eq_false (Nat.not_lt.mpr z))
      | (unfold Builtin.Str.tooLong; exact decide_eq_false (Nat.not_lt.mpr z))
  · rw [if_neg hn1, if_neg (by rw [hb1]; decide)]
    refine ⟨?_, .str _, H, I.tok _, ⟨_, rfl⟩, q⟩
    exact hz
def rReprD (K : PySem.W.Frag) : List V → Hp → VK → Prop := fun xs H Q => ∃ v d, xs = [v] ∧ Dp K H v d ∧ d.showable = true ∧ d.hasDict = false ∧ d.depth ≤ 40 ∧ d.shown.length ≤ sizeLine ∧ Q (.str d.shown) H
theorem call_reprD {k : Nat} (hr : Room k X.A) (hg : X.A.guards = some []) : CallR X (.builtin "repr") (rReprD X.K) := by
  intro pins s σ H xs us Q I r h
  obtain ⟨v, d, rfl, hd, hs, hk, hdep, hz, q⟩ := h
  cases r with
  | @cons _ u _ ur ru rr =>
    cases rr
    have hu := hr.units
    obtain ⟨as, hR⟩ := Dp.reads I d v u hd ru
    cases hd with
    | non =>
      cases (show u = Value.none from ru)
      exact PySem.P.repr_of_none ⟨.str _, H, I.tok _, ⟨_, rfl⟩, q⟩
    | bl b =>
      cases (show u = Value.bool b from ru)
      exact PySem.P.repr_of_bool ⟨.str _, H, I.tok _, ⟨_, rfl⟩, q⟩
    | int i =>
      obtain ⟨t, rfl⟩ := (show ∃ t, u = Value.int i t from ru)
      exact PySem.P.repr_of_int (by simpa [PyData.showable] using hs) ⟨.str _, H, I.tok _, ⟨_, rfl⟩, q⟩
    | str z =>
      obtain ⟨t, rfl⟩ := (show ∃ t, u = Value.str z t from ru)
      exact PySem.P.repr_of_str ⟨.str _, H, I.tok _, ⟨_, rfl⟩, q⟩ hz
    | @lst a ys ds h1 h2 =>
      cases (show u = Value.ref a from ru)
      exact repr_of_reads' hR hs (fun z => by rw [hk] at z; cases z) hg (by omega) (fun _ _ e => e) (fun h' u tk k => ⟨.str _, H, I.kept (t' := tk) k, ⟨_, rfl⟩, q⟩) hz
    | @tup a ys ds h1 h2 =>
      cases (show u = Value.ref a from ru)
      exact repr_of_reads' hR hs (fun z => by rw [hk] at z; cases z) hg (by omega) (fun _ _ e => e) (fun h' u tk k => ⟨.str _, H, I.kept (t' := tk) k, ⟨_, rfl⟩, q⟩) hz
end
end My

set_option maxRecDepth 100000
set_option maxHeartbeats 4000000
namespace My
open PySem PySem.Spec PyProof.Rows L2

/-! ### unions by name -/
section
variable {X : Cx}
def rAddU (K : PySem.W.Frag) : R2 := fun x y H Q => (∃ i j, x = .int i ∧ y = .int j ∧ Q (.int (i + j)) H) ∨ ((∃ i j, x = .str i ∧ y = .str j ∧ i.length + j.length ≤ sizeLine ∧ Q (.str (i ++ j)) H) ∨ (rCat x y H Q ∨ rCatA K x y H Q))
theorem op_addU : OpR X (binaryOp .Add) (rAddU X.K) := op_add.or (op_add_str.or (op_cat.or op_catA))
def rMulU : R2 := fun x y H Q => (∃ i j, x = .int i ∧ y = .int j ∧ CMul i j ∧ Q (.int (i * j)) H) ∨ rMulS x y H Q
theorem op_mulU : OpR X (binaryOp .Mult) rMulU := op_mul.or op_mulS
def rEqU (K : PySem.W.Frag) : R2 := fun x y H Q => rEq x y H Q ∨ rEqD K x y H Q
def rNeU (K : PySem.W.Frag) : R2 := fun x y H Q => rNe x y H Q ∨ rNeD K x y H Q
theorem op_eqU (hu : X.A.units + 64 < cLine) : OpR X (compareOp .Eq) (rEqU X.K) := op_eq.or (op_eqD hu)
theorem op_neU (hu : X.A.units + 64 < cLine) : OpR X (compareOp .NotEq) (rNeU X.K) := op_ne.or (op_neD hu)
def rLenU (K : PySem.W.Frag) : List V → Hp → VK → Prop := fun xs H Q => (∃ p ys, xs = [.ref p] ∧ (SqL K H p ys ∨ SqT K H p ys) ∧ Q (.int ys.length) H) ∨ (∃ z, xs = [.str z] ∧ z.length ≤ sizeLine ∧ Q (.int z.length) H)
theorem call_lenU : CallR X (.builtin "len") (rLenU X.K) := call_len_seq.or call_len_str
def rStrU : List V → Hp → VK → Prop := fun xs H Q => (∃ i, xs = [.int i] ∧ i.natAbs.log2 < 1920 ∧ Q (.str (toString i)) H) ∨ (∃ a, xs = [.str a] ∧ Q (.str a) H)
theorem call_strU : CallR X (.type "str") rStrU := call_str_int.or SkE.call_str_str
def rIntU : List V → Hp → VK → Prop := fun xs H Q => ((∃ i, xs = [.int i] ∧ Q (.int i) H) ∨ ∃ k, xs = [.bl k] ∧ Q (.int (if k then 1 else 0)) H) ∨ (∃ a n, xs = [.str a] ∧ PySem.intText? a = some n ∧ a.length ≤ 640 ∧ Q (.int n) H)
theorem call_intU : CallR X (.type "int") rIntU := call_int1.or call_int_str
def rSlU (K : PySem.W.Frag) : V → Option Int → Option Int → Hp → VK → Prop := fun x lo hi H Q => rSlL K x lo hi H Q ∨ (rSlS x lo hi H Q ∨ rSlA K x lo hi H Q)
theorem sl_any : SlR X (rSlU X.K) := sl_list.or (sl_str.or sl_tupA)
end

/-! ### readings, step by step -/
section
variable {K : PySem.W.Frag} {σ : L2.St} {H : Hp} {Q : VK} {QT : Bool → Hp → Prop} {QA : List V → Hp → Prop} {D : Ends} {ta tb te : TE} {t u : TT} {v x y : V} {r : R2} {tl : TA} {ts us : TS} {g : TG} {i j : Nat}
theorem r_var (h : σ[i]? = some (some v)) (q : Q v H) : tVar i σ H Q := ⟨v, h, q⟩
theorem r_c (q : Q v H) : tC v σ H Q := q
theorem r_op (h : ta σ H fun x H1 => tb σ H1 fun y H2 => r x y H2 Q) : tOp r ta tb σ H Q := h
theorem r_un {r : V → Hp → VK → Prop} (h : ta σ H fun x H1 => r x H1 Q) : tUn r ta σ H Q := h
theorem r_cb {r : List V → Hp → VK → Prop} (h : tl σ H fun vs H1 => r vs H1 Q) : tCB r tl σ H Q := h
theorem r_callR {sp : Sp} {E : XK} (h : tl σ H fun vs H1 => sp vs H1 Q E) : tCallR sp E tl σ H Q := h
theorem r_nil (q : QA [] H) : tNil σ H QA := q
theorem r_cons (h : ta σ H fun x H1 => tl σ H1 fun xs H2 => QA (x :: xs) H2) : tCons ta tl σ H QA := h
theorem r_tup (h : tl σ H fun xs H1 => xs.length ≤ sizeLine ∧ ∀ p, H1 p = none → Q (.ref p) (upd H1 p (.tup xs))) : tTup tl σ H Q := h
theorem r_lst (h : tl σ H fun xs H1 => xs.length ≤ sizeLine ∧ ∀ p, H1 p = none → Q (.ref p) (upd H1 p (.lst xs))) : tLst tl σ H Q := h
theorem r_dget (h : ta σ H fun x H1 => tb σ H1 fun y H2 => ∃ a v, x = .ref a ∧ DGet H2 a y (some v) ∧ Q v H2) : tDGet ta tb σ H Q := h
theorem r_test (h : ta σ H fun x H' => ∃ k, x = .bl k ∧ QT k H') : tTest ta σ H QT := h
theorem r_tB (h : ta σ H fun x H' => ∃ k, x = .bl k ∧ QT k H') : tB ta σ H QT := h
theorem r_not (h : t σ H fun c H1 => QT (!c) H1) : tNot t σ H QT := h
theorem r_notV (h : ta σ H fun x H1 => ∃ c, x = .bl c ∧ Q (.bl (!c)) H1) : tNotV ta σ H Q := h
theorem r_and (h : t σ H fun c H1 => if c = true then u σ H1 QT else QT false H1) : tAnd t u σ H QT := h
theorem r_or (h : t σ H fun c H1 => if c = true then QT true H1 else u σ H1 QT) : tOr t u σ H QT := h
theorem r_andV (h : ta σ H fun x H1 => ∃ c, x = .bl c ∧ if c = true then tb σ H1 Q else Q (.bl false) H1) : tAndV ta tb σ H Q := h
theorem r_orV (h : ta σ H fun x H1 => ∃ c, x = .bl c ∧ if c = true then Q (.bl true) H1 else tb σ H1 Q) : tOrV ta tb σ H Q := h
theorem r_if (h : t σ H fun c H1 => if c = true then ta σ H1 Q else tb σ H1 Q) : tIf t ta tb σ H Q := h
theorem r_sl {r : V → Option Int → Option Int → Hp → VK → Prop} {tl th : TO} (h : te σ H fun x H1 => tl σ H1 fun l H2 => th σ H2 fun u H3 => r x l u H3 Q) : tSl r te tl th σ H Q := h
theorem r_part {QO : Option Int → Hp → Prop} (h : ta σ H fun x H1 => ∃ i, x = .int i ∧ QO (some i) H1) : tPart ta σ H QO := h
theorem r_nopart {QO : Option Int → Hp → Prop} (h : QO none H) : tNoPart σ H QO := h
theorem r_bm {T : String} {r : V → List V → Hp → VK → Prop} (h : ta σ H fun x H1 => tyV K T x H1 ∧ tl σ H1 fun xs H2 => r x xs H2 Q) : tBM K T r ta tl σ H Q := h
theorem r_bm0 {T : String} {r : V → List V → Hp → VK → Prop} (h : ta σ H fun x H1 => tyV K T x H1 ∧ r x [] H1 Q) : tBM0 K T r ta σ H Q := h
theorem r_fld {f : Str} (h : ta σ H fun x H1 => ∃ a C dx fs v, x = .ref a ∧ H1 a = some (.ins C dx fs) ∧ Cls K C ∧ NoAttr K C f ∧ fs.lookup f = some v ∧ Q v H1) : tFld K ta f σ H Q := h
theorem r_propR {C : Addr} {sp : Sp} {E : XK} (h : ta σ H fun x H1 => ∃ a dx fs, x = .ref a ∧ H1 a = some (.ins C dx fs) ∧ sp [.ref a] H1 Q E) : tPropR C sp E ta σ H Q := h
theorem r_methR {C : Addr} {m : Str} {sp : Sp} {E : XK} (h : ta σ H fun x H1 => ∃ a dx fs, x = .ref a ∧ H1 a = some (.ins C dx fs) ∧ fs.lookup m = none ∧ tl σ H1 fun vs H2 => sp (x :: vs) H2 Q E) : tMethR C m sp E ta tl σ H Q := h
theorem r_makeR {C : Addr} {sp : Sp} {E : XK} (h : tl σ H fun vs H1 => ∀ x dx, H1 x = Option.none → H1 dx = Option.none → dx ≠ x → sp (V.ref x :: vs) (upd (upd H1 dx (.own x)) x (.ins C dx [])) (fun v H2 => v = .non ∧ Q (.ref x) H2) E) : StX.tMakeR C sp E tl σ H Q := h
theorem r_cmeth {C : Addr} {sp : Sp} {E : XK} (h : ta σ H fun x H1 => x = .ref C ∧ tl σ H1 fun vs H2 => sp (.ref C :: vs) H2 Q E) : ClX.tCMeth C sp E ta tl σ H Q := h
theorem r_star (h : ta σ H fun x H1 => ∃ p xs, x = V.ref p ∧ (SqT K H1 p xs ∨ SqL K H1 p xs) ∧ tl σ H1 fun ys H2 => QA (xs ++ ys) H2) : StX.tStar K ta tl σ H QA := h
theorem r_m0 {r : V → List V → Hp → VK → Prop} (h : ta σ H fun x H1 => (∃ a, x = .str a) ∧ r x [] H1 Q) : tM0 r ta σ H Q := h
theorem r_m1 {r : V → List V → Hp → VK → Prop} (h : ta σ H fun x H1 => (∃ a, x = .str a) ∧ tb σ H1 fun y H2 => r x [y] H2 Q) : tM1 r ta tb σ H Q := h
theorem r_chain {r r' : R2} {tc : TE} (h : ta σ H fun x H1 => tb σ H1 fun y H2 => r x y H2 fun z H3 => ∃ k, z = .bl k ∧ (if k = true then tc σ H3 fun w' H4 => r' y w' H4 Q else Q (.bl false) H3)) : tChain r r' ta tb tc σ H Q := h
-- statements
theorem r_cut (Mid : L2.St → Hp → Prop) (h : ts { D with nx := Mid } σ H) (k : ∀ σ' H', Mid σ' H' → us D σ' H') : C8.tCut ts us D σ H := ⟨Mid, h, k⟩
theorem r_seq (h : ts { D with nx := us D } σ H) : tSeq ts us D σ H := h
theorem r_next (h : D.nx σ H) : tNext D σ H := h
theorem r_drop (h : te σ H fun _ H1 => D.nx σ H1) : tDrop te D σ H := h
theorem r_ret (h : te σ H D.rt) : tRet te D σ H := h
theorem r_retN (h : D.rt .non H) : tRetN D σ H := h
theorem r_brk (h : D.bk σ H) : tBreak D σ H := h
theorem r_cont (h : D.ct σ H) : tCont D σ H := h
theorem r_ifS {tc : TT} (h : tc σ H fun b H1 => if b = true then ts D σ H1 else us D σ H1) : tIfS tc ts us D σ H := h
theorem r_asg (h : te σ H fun x H1 => g x σ H1 D.nx) : tAsg te g D σ H := h
theorem r_gname {QS : L2.St → Hp → Prop} (h : QS (σ.set i (some v)) H) : gName i v σ H QS := h
theorem r_par (h : tl σ H fun vs H1 => ∃ v w, vs = [v, w] ∧ D.nx ((σ.set i (some v)).set j (some w)) H1) : tPar i j tl D σ H := h
theorem r_gnil {QS : L2.St → Hp → Prop} (h : QS σ H) : gNil [] σ H QS := ⟨rfl, h⟩
theorem r_gcons {QS : L2.St → Hp → Prop} {gs : TGs} {vs : List V} (h : g v σ H fun σ' H' => gs vs σ' H' QS) : gCons g gs (v :: vs) σ H QS := ⟨v, vs, rfl, h⟩
theorem r_fldS {f : Str} {tv : TE} (h : tv σ H fun y H1 => ta σ H1 fun x H2 => ∃ a C dx fs, x = .ref a ∧ H2 a = some (.ins C dx fs) ∧ Cls K C ∧ NoAttr K C f ∧ fs.length < 1000 ∧ D.nx σ (upd H2 a (.ins C dx (putF f y fs)))) : sFld K ta tv f D σ H := h
theorem r_dput {tv : TE} (h : tv σ H fun v H1 => ta σ H1 fun x H2 => tb σ H2 fun y H3 => ∃ a H4, x = .ref a ∧ DPut H3 a y v H4 ∧ D.nx σ H4) : sDPut ta tb tv D σ H := h
theorem r_dgetV {a : Addr} {P : V → Prop} (h : DGet H a y (some v)) (q : P v) : ∃ b z, V.ref a = V.ref b ∧ DGet H b y (some z) ∧ P z := ⟨a, v, rfl, h, q⟩
theorem r_dputV {a : Addr} {H' : Hp} {P : Hp → Prop} (h : DPut H a y v H') (q : P H') : ∃ b H4, V.ref a = V.ref b ∧ DPut H b y v H4 ∧ P H4 := ⟨a, H', rfl, h, q⟩
theorem r_ex1 {α : Type} {a : α} {P : α → Prop} (q : P a) : ∃ b, a = b ∧ P b := ⟨a, rfl, q⟩
theorem r_gsub {s : TSet} {QS : L2.St → Hp → Prop} (h : ta σ H fun o H1 => tb σ H1 fun i H2 => s o i v H2 fun H3 => QS σ H3) : gSub ta tb s v σ H QS := h
-- by values
theorem r_I0 {f : Int → Int → V} {a b : Int} (q : Q (f a b) H) : rI0 f (.int a) (.int b) H Q := ⟨a, b, rfl, rfl, q⟩
theorem r_I {C : Int → Int → Prop} {f : Int → Int → V} {a b : Int} (c : C a b) (q : Q (f a b) H) : rI C f (.int a) (.int b) H Q := ⟨a, b, rfl, rfl, c, q⟩
theorem r_U {f : Int → V} {a : Int} (q : Q (f a) H) : rU f (.int a) H Q := ⟨a, rfl, q⟩
theorem r_addI {a b : Int} (q : Q (.int (a + b)) H) : rAddU K (.int a) (.int b) H Q := .inl ⟨a, b, rfl, rfl, q⟩
theorem r_addS {a b : Str} (c : a.length + b.length ≤ sizeLine) (q : Q (.str (a ++ b)) H) : rAddU K (.str a) (.str b) H Q := .inr (.inl ⟨a, b, rfl, rfl, c, q⟩)
theorem r_catL {p q : Addr} {xs ys : List V} (h1 : H p = some (.lst xs)) (h2 : H q = some (.lst ys)) (c : xs.length + ys.length ≤ sizeLine) (k : ∀ r, H r = none → Q (.ref r) (upd H r (.lst (xs ++ ys)))) : rAddU K (.ref p) (.ref q) H Q := .inr (.inr (.inl ⟨p, q, xs, ys, rfl, rfl, h1, h2, c, k⟩))
theorem r_mulI {a b : Int} (c : CMul a b) (q : Q (.int (a * b)) H) : rMulU (.int a) (.int b) H Q := .inl ⟨a, b, rfl, rfl, c, q⟩
theorem r_eqI {a b : Int} (q : Q (.bl (decide (a = b))) H) : rEqU K (.int a) (.int b) H Q := .inl ⟨rfl, by
  have e : decide (V.int a = V.int b) = decide (a = b) := by simp
  rw [e]
  exact q⟩
theorem r_eqS {a b : Str} (q : Q (.bl (decide (a = b))) H) : rEqU K (.str a) (.str b) H Q := .inl ⟨rfl, by
  have e : decide (V.str a = V.str b) = decide (a = b) := by simp
  rw [e]
  exact q⟩
theorem r_neI {a b : Int} (q : Q (.bl (!decide (a = b))) H) : rNeU K (.int a) (.int b) H Q := .inl ⟨rfl, by
  have e : decide (V.int a = V.int b) = decide (a = b) := by simp
  rw [e]
  exact q⟩
theorem r_neS {a b : Str} (q : Q (.bl (!decide (a = b))) H) : rNeU K (.str a) (.str b) H Q := .inl ⟨rfl, by
  have e : decide (V.str a = V.str b) = decide (a = b) := by simp
  rw [e]
  exact q⟩
theorem r_intI {a : Int} (q : Q (.int a) H) : rIntU [.int a] H Q := .inl (.inl ⟨a, rfl, q⟩)
theorem r_strI {a : Int} (c : a.natAbs.log2 < 1920) (q : Q (.str (toString a)) H) : rStrU [.int a] H Q := .inl ⟨a, rfl, c, q⟩
theorem r_strS {a : Str} (q : Q (.str a) H) : rStrU [.str a] H Q := .inr ⟨a, rfl, q⟩
theorem r_lenL {p : Addr} {ys : List V} (h : SqL K H p ys) (q : Q (.int ys.length) H) : rLenU K [.ref p] H Q := .inl ⟨p, ys, rfl, .inl h, q⟩
theorem r_lenT {p : Addr} {ys : List V} (h : SqT K H p ys) (q : Q (.int ys.length) H) : rLenU K [.ref p] H Q := .inl ⟨p, ys, rfl, .inr h, q⟩
theorem r_lenS {z : Str} (h : z.length ≤ sizeLine) (q : Q (.int z.length) H) : rLenU K [.str z] H Q := .inr ⟨z, rfl, h, q⟩
theorem r_ixL {p : Addr} {ys : List V} {n : Int} (h : SqL K H p ys) (e : atI ys n = some v) (q : Q v H) : rIx K (.ref p) (.int n) H Q := .inl ⟨p, ys, n, v, rfl, rfl, h, e, q⟩
theorem r_ixT {p : Addr} {ys : List V} {n : Int} (h : SqT K H p ys) (e : atI ys n = some v) (q : Q v H) : rIx K (.ref p) (.int n) H Q := .inr (.inl ⟨p, ys, n, v, rfl, rfl, h, e, q⟩)
theorem r_ixS {z : Str} {n : Int} {c : Nat} (h : z.length ≤ sizeLine) (e : atI z.cps.toList n = some c) (q : Q (.str ⟨#[c]⟩) H) : rIx K (.str z) (.int n) H Q := .inr (.inr ⟨z, n, c, rfl, rfl, h, e, q⟩)
theorem r_slL {p : Addr} {ys : List V} {lo hi : Option Int} (h : SqL K H p ys) (q : ∀ p, H p = none → Q (.ref p) (upd H p (.lst (cutV ys lo hi)))) : rSlU K (.ref p) lo hi H Q := .inl ⟨p, ys, rfl, h, q⟩
theorem r_slS {z : Str} {lo hi : Option Int} (h : z.length ≤ sizeLine) (q : Q (.str (cutS z lo hi)) H) : rSlU K (.str z) lo hi H Q := .inr (.inl ⟨z, rfl, h, q⟩)
theorem r_bl {b : Bool} {Qb : Bool → Prop} (q : Qb b) : ∃ k, V.bl b = V.bl k ∧ Qb k := ⟨b, rfl, q⟩
theorem r_int1 {n : Int} {Qb : Int → Prop} (q : Qb n) : ∃ k, V.int n = V.int k ∧ Qb k := ⟨n, rfl, q⟩
theorem r_two {v w : V} {P : V → V → Prop} (q : P v w) : ∃ a b, [v, w] = [a, b] ∧ P a b := ⟨v, w, rfl, q⟩
theorem r_ints1 {n : Int} {P : Int → Prop} (q : P n) : ∃ k, [V.int n] = [V.int k] ∧ P k := ⟨n, rfl, q⟩
theorem r_ints2 {n m : Int} {P : Int → Int → Prop} (q : P n m) : ∃ k l, [V.int n, V.int m] = [V.int k, V.int l] ∧ P k l := ⟨n, m, rfl, q⟩
theorem r_str1 {z : Str} {P : Prop} (q : P) : (∃ a, V.str z = V.str a) ∧ P := ⟨⟨z, rfl⟩, q⟩
theorem r_iteD {p A B : Prop} [Decidable p] (h1 : p → A) (h2 : ¬ p → B) : if decide p = true then A else B := by
  by_cases h : p
  · rw [if_pos (decide_eq_true h)]
    exact h1 h
  · rw [if_neg (by simpa using h)]
    exact h2 h
theorem r_iteN {p A B : Prop} [Decidable p] (h1 : ¬ p → A) (h2 : p → B) : if (!decide p) = true then A else B := by
  by_cases h : p
  · rw [if_neg (by simp [h])]
    exact h2 h
  · rw [if_pos (by simp [h])]
    exact h1 h
theorem r_iteT {A B : Prop} (h : A) : if true = true then A else B := by
  rw [if_pos rfl]
  exact h
theorem r_iteF {A B : Prop} (h : B) : if false = true then A else B := by
  rw [if_neg Bool.false_ne_true]
  exact h
theorem r_iteB {b : Bool} {A B : Prop} (h1 : b = true → A) (h2 : b = false → B) : if b = true then A else B := by
  cases b with
  | true => exact r_iteT (h1 rfl)
  | false => exact r_iteF (h2 rfl)
end

/-! ### what calls keep: all but the source of drawn numbers -/
def penlike : HO → Bool
  | .dK ((_, .ref _) :: _) => true
  | _ => false
structure Kp (H H' : Hp) : Prop where
  k : ∀ b o, penlike o = false → H b = some o → H' b = some o
  f : ∀ b, H' b = none → H b = none
theorem Kp.refl (H : Hp) : Kp H H := ⟨fun _ _ _ h => h, fun _ h => h⟩
theorem Kp.trans {H H1 H2 : Hp} (a : Kp H H1) (b : Kp H1 H2) : Kp H H2 := ⟨fun c o n h => b.k c o n (a.k c o n h), fun c h => a.f c (b.f c h)⟩
theorem Kp.new {H : Hp} {p : Addr} {o : HO} (h : H p = none) : Kp H (upd H p o) := ⟨fun a u _ e => by rw [upd_ne (ne_of_none e h)]; exact e, fun b e => by
  by_cases hb : b = p
  · rw [hb]
    exact h
  · rw [upd_ne hb] at e
    exact e⟩
/-- an object that H does not know may change -/
theorem Kp.mut {H H' : Hp} {p : Addr} {o : HO} (e : Kp H H') (h : H p = none) : Kp H (upd H' p o) := ⟨fun a u n ha => by rw [upd_ne (ne_of_none ha h)]; exact e.k a u n ha, fun b eb => by
  by_cases hb : b = p
  · rw [hb]
    exact h
  · rw [upd_ne hb] at eb
    exact e.f b eb⟩
theorem Kp.then {H H1 : Hp} {p : Addr} {o : HO} (e : Kp H H1) (h : H1 p = none) : Kp H (upd H1 p o) := e.trans (Kp.new h)
theorem Kp.l {H H' : Hp} (e : Kp H H') {p : Addr} {xs : List V} (h : H p = some (.lst xs)) : H' p = some (.lst xs) := e.k _ _ rfl h
theorem Kp.t {H H' : Hp} (e : Kp H H') {p : Addr} {xs : List V} (h : H p = some (.tup xs)) : H' p = some (.tup xs) := e.k _ _ rfl h
theorem Kp.i {H H' : Hp} (e : Kp H H') {p C dx : Addr} {fs : List (Str × V)} (h : H p = some (.ins C dx fs)) : H' p = some (.ins C dx fs) := e.k _ _ rfl h
theorem Kp.rdL {K : PySem.W.Frag} {H H' : Hp} (e : Kp H H') {p : Addr} {xs : List V} (h : SqL K H p xs) : SqL K H' p xs := by
  rcases h with (h | ⟨o, h⟩) | h
  · exact .inl (.inl (e.k _ _ rfl h))
  · exact .inl (.inr ⟨o, e.k _ _ rfl h⟩)
  · exact .inr h
theorem Kp.rdT {K : PySem.W.Frag} {H H' : Hp} (e : Kp H H') {p : Addr} {xs : List V} (h : SqT K H p xs) : SqT K H' p xs := by
  rcases h with (h | ⟨o, h⟩) | h
  · exact .inl (.inl (e.k _ _ rfl h))
  · exact .inl (.inr ⟨o, e.k _ _ rfl h⟩)
  · exact .inr h
mutual
theorem Kp.dp {K : PySem.W.Frag} {H H' : Hp} (e : Kp H H') : ∀ (d : PyData) (v : V), Dp K H v d → Dp K H' v d
  | _, _, .non => .non
  | _, _, .bl b => .bl b
  | _, _, .int i => .int i
  | _, _, .str x => .str x
  | .list ds, _, .lst h a => .lst (e.rdL h) (Kp.dpAll e ds _ a)
  | .tuple ds, _, .tup h a => .tup (e.rdT h) (Kp.dpAll e ds _ a)
theorem Kp.dpAll {K : PySem.W.Frag} {H H' : Hp} (e : Kp H H') : ∀ (ds : List PyData) (vs : List V), DpAll K H vs ds → DpAll K H' vs ds
  | _, _, .nil => .nil
  | d :: ds, _, .cons h r => .cons (Kp.dp e d _ h) (Kp.dpAll e ds _ r)
end

/-! ### the source of drawn numbers -/
def penKV (c : Addr) (b r : Int) : List (Key × V) := [(.inr "cells", .ref c), (.inr "begun", .int b), (.inr "rest", .int r)]
structure PenD (H : Hp) (a c : Addr) (ns : List Int) (b r : Int) : Prop where
  d : H a = some (.dK (penKV c b r))
  c : H c = some (.lst (ns.map V.int))
/-- the source: its dict, its list of cells, the cells -/
structure PenI where
  a : Addr
  c : Addr
  ns : List Int
def Pen (H : Hp) (z : PenI) (n : Nat) : Prop := ∃ b r, PenD H z.a z.c z.ns b r ∧ 0 ≤ b ∧ b ≤ n ∧ 0 ≤ r
theorem PenD.cells {H : Hp} {a c : Addr} {ns : List Int} {b r : Int} (p : PenD H a c ns b r) : DGet H a (.str "cells") (some (.ref c)) := by
  have h := DGet.k (k := .inr "cells") p.d
  exact h
theorem PenD.begun {H : Hp} {a c : Addr} {ns : List Int} {b r : Int} (p : PenD H a c ns b r) : DGet H a (.str "begun") (some (.int b)) := by
  have h := DGet.k (k := .inr "begun") p.d
  exact h
theorem PenD.rest {H : Hp} {a c : Addr} {ns : List Int} {b r : Int} (p : PenD H a c ns b r) : DGet H a (.str "rest") (some (.int r)) := by
  have h := DGet.k (k := .inr "rest") p.d
  exact h
theorem PenD.putBegun {H : Hp} {a c : Addr} {ns : List Int} {b r : Int} (p : PenD H a c ns b r) (b' : Int) : DPut H a (.str "begun") (.int b') (upd H a (.dK (penKV c b' r))) := by
  have h := DPut.k (k := .inr "begun") (v := .int b') p.d (by show 3 < sizeLine; decide)
  exact h
theorem PenD.putRest {H : Hp} {a c : Addr} {ns : List Int} {b r : Int} (p : PenD H a c ns b r) (r' : Int) : DPut H a (.str "rest") (.int r') (upd H a (.dK (penKV c b r'))) := by
  have h := DPut.k (k := .inr "rest") (v := .int r') p.d (by show 3 < sizeLine; decide)
  exact h
theorem PenD.upd {H : Hp} {a c : Addr} {ns : List Int} {b r : Int} (p : PenD H a c ns b r) (b' r' : Int) : PenD (L2.upd H a (.dK (penKV c b' r'))) a c ns b' r' :=
  ⟨upd_same, by rw [upd_ne (ne_of p.c p.d (by intro q; cases q))]; exact p.c⟩
theorem PenD.kp {H : Hp} {a c : Addr} {ns : List Int} {b r : Int} (p : PenD H a c ns b r) (b' r' : Int) : Kp H (L2.upd H a (.dK (penKV c b' r'))) :=
  ⟨fun x o n h => by
    have hx : x ≠ a := fun z => by
      rw [z, p.d] at h
      cases h
      cases n
    rw [upd_ne hx]
    exact h, fun x h => by
    by_cases hx : x = a
    · rw [hx, upd_same] at h
      cases h
    · rw [upd_ne hx] at h
      exact h⟩
theorem Kp.penD {H : Hp} {a c p : Addr} {ns : List Int} {b r : Int} {o : HO} (d : PenD H a c ns b r) (h : H p = none) : PenD (L2.upd H p o) a c ns b r :=
  ⟨by rw [upd_ne (ne_of_none d.d h)]; exact d.d, by rw [upd_ne (ne_of_none d.c h)]; exact d.c⟩
theorem Pen.new {H : Hp} {z : PenI} {p : Addr} {n : Nat} {o : HO} (d : Pen H z n) (h : H p = none) : Pen (L2.upd H p o) z n := by
  obtain ⟨b, r, d, y⟩ := d
  exact ⟨b, r, Kp.penD d h, y⟩
/-- a list, an instance .. that is no part of the source changes -/
theorem Pen.mut {H : Hp} {z : PenI} {p : Addr} {n : Nat} {o : HO} (d : Pen H z n) (h1 : p ≠ z.a) (h2 : p ≠ z.c) : Pen (L2.upd H p o) z n := by
  obtain ⟨b, r, d, y⟩ := d
  exact ⟨b, r, ⟨by rw [upd_ne (Ne.symm h1)]; exact d.d, by rw [upd_ne (Ne.symm h2)]; exact d.c⟩, y⟩
theorem Pen.mono {H : Hp} {z : PenI} {n m : Nat} (d : Pen H z n) (h : n ≤ m) : Pen H z m := by
  obtain ⟨b, r, d, z1, z2, z3⟩ := d
  exact ⟨b, r, d, z1, by omega, z3⟩
theorem Pen.free {H : Hp} {z : PenI} {p : Addr} {n : Nat} (d : Pen H z n) (h : H p = none) : p ≠ z.a ∧ p ≠ z.c := by
  obtain ⟨b, r, d, y⟩ := d
  exact ⟨(ne_of_none d.d h).symm, (ne_of_none d.c h).symm⟩
/-- a call is done: what it gives, at most c more cells begun, all else kept -/
def Aft (z : PenI) (H : Hp) (n c : Nat) (R : V → Hp → Prop) (Q : VK) : Prop := ∀ v n' H', R v H' → n' ≤ n + c → Kp H H' → Pen H' z n' → Q v H'
end My
namespace My
open PySem PySem.Spec PyProof.Rows L2
section
variable {K : PySem.W.Frag} {H : Hp} {Q : VK}
theorem dpAll_ints : ∀ ns : List Int, DpAll K H (ns.map V.int) (ns.map PyData.int)
  | [] => .nil
  | n :: ns => .cons (.int n) (dpAll_ints ns)
/-- a list of ints against a new empty one -/
theorem r_neL0 {p q : Addr} {ns : List Int} (h : SqL K H p (ns.map V.int)) (h0 : SqL K H q []) (k : Q (.bl (decide (ns ≠ []))) H) : rNeU K (.ref p) (.ref q) H Q := by
  refine .inr ⟨.list (ns.map PyData.int), .list [], .lst h (dpAll_ints ns), .lst h0 .nil, PySem.W.ke_shaped_ints ns, PySem.W.ke_shaped_ints [], ?_⟩
  have e : (!PyData.eqv (.list (ns.map PyData.int)) (.list [])) = decide (ns ≠ []) := by
    cases ns with
    | nil => rfl
    | cons n r => rfl
  rw [e]
  exact k
theorem atI_mod {α : Type} {xs : List α} {i : Int} (h : xs ≠ []) : ∃ v, atI xs (i % (xs.length : Int)) = some v ∧ v ∈ xs := by
  have hl : 0 < xs.length := List.length_pos_iff.mpr h
  have h0 := Int.emod_nonneg i (show (xs.length : Int) ≠ 0 by omega)
  have h1 := Int.emod_lt_of_pos i (show (0 : Int) < xs.length by omega)
  obtain ⟨j, hj⟩ : ∃ j : Nat, i % (xs.length : Int) = (j : Int) := ⟨(i % (xs.length : Int)).toNat, by omega⟩
  have hjl : j < xs.length := by omega
  exact ⟨xs[j], by rw [hj]; exact atI_nat (by simp [hjl]), List.getElem_mem hjl⟩
theorem atI_in {α : Type} {xs : List α} {i : Int} (h0 : 0 ≤ i) (h1 : i < xs.length) : ∃ v, atI xs i = some v ∧ xs[i.toNat]? = some v ∧ v ∈ xs := by
  obtain ⟨j, hj⟩ : ∃ j : Nat, i = (j : Int) := ⟨i.toNat, by omega⟩
  subst hj
  have hjl : j < xs.length := by omega
  exact ⟨xs[j], atI_nat (by simp [hjl]), by simp [hjl], List.getElem_mem hjl⟩
end
end My
namespace My
open PySem PySem.Spec PyProof.Rows L2
section
variable {K : PySem.W.Frag} {σ : L2.St} {H : Hp} {Q : VK} {D : Ends} {ta : TA} {te : TE} {tb : TS} {wi : TI} {g : TG} {tt : TT}
theorem r_for (h : wi σ H fun J H1 => ∃ W : Nat → Nat → L2.St → Hp → Prop, (∃ m, W 0 m σ H1) ∧ ∀ i m σ H, W i m σ H →
  (J.stop i H ∧ D.nx σ H) ∨ (J.go i H ∧ ∃ N : L2.St → Hp → Prop, (∀ σ' H', N σ' H' → ∃ m', m' < m ∧ W (i + 1) m' σ' H') ∧ ∀ x H', J.yld i H x H' → g x σ H' fun σ2 H2 => tb { D with nx := N, ct := N, bk := D.nx } σ2 H2)) : tFor wi g tb D σ H := h
theorem r_lc {vs : List Nat} (h : wi σ H fun J H1 => ∀ D, H1 D = none → ∃ W : Nat → Nat → Hp → Prop, (∃ m, W 0 m (upd H1 D (.lst []))) ∧ ∀ i m H, W i m H →
  (J.stop i H ∧ Q (.ref D) H) ∨ (J.go i H ∧ ∃ Nx : Hp → Prop, (∀ H', Nx H' → ∃ m', m' < m ∧ W (i + 1) m' H') ∧ ∀ x H', J.yld i H x H' → g x (wipe σ vs) H' fun σ2 H2 => wipe σ2 vs = wipe σ vs ∧ tt σ2 H2 fun b H3 =>
    if b = true then te σ2 H3 fun y H4 => ∃ acc, H4 D = some (.lst acc) ∧ acc.length < sizeLine ∧ Nx (upd H4 D (.lst (acc ++ [y]))) else Nx H3)) : tLc wi g tt te vs σ H Q := h
theorem r_rng1 {R : It → Hp → Prop} (h : ta σ H fun vs H1 => ∃ j : Int, vs = [.int j] ∧ -(2 ^ 62) ≤ j ∧ j < 2 ^ 62 ∧ R (Itr 0 j.toNat) H1) : iRng1 ta σ H R := h
theorem r_rng2 {R : It → Hp → Prop} (h : ta σ H fun vs H1 => ∃ i j : Int, vs = [.int i, .int j] ∧ (-(2 ^ 62) ≤ i ∧ i < 2 ^ 62 ∧ -(2 ^ 62) ≤ j ∧ j < 2 ^ 62) ∧ R (Itr i (j - i).toNat) H1) : iRng2 ta σ H R := h
theorem r_enumA {R : It → Hp → Prop} (h : ta σ H fun vs H1 => ∃ a xs, vs = [.ref a] ∧ ((SqL K H1 a xs ∧ R (Ite K a) H1) ∨ (SqT K H1 a xs ∧ R (IteT K a) H1))) : iEnumA K ta σ H R := h
/-- range(n), the turns told by i -/
theorem for_rng {n : Nat} {j : Int} (e : j.toNat = n) (Pv : Nat → L2.St → Hp → Prop) (h0 : Pv 0 σ H)
    (hs : ∀ (i : Nat) σ H, i < n → Pv i σ H → g (.int i) σ H fun σ2 H2 => tb { D with nx := Pv (i + 1), ct := Pv (i + 1), bk := D.nx } σ2 H2) (hd : ∀ σ H, Pv n σ H → D.nx σ H) :
    ∃ W : Nat → Nat → L2.St → Hp → Prop, (∃ m, W 0 m σ H) ∧ ∀ i m σ H, W i m σ H →
      ((Itr 0 j.toNat).stop i H ∧ D.nx σ H) ∨ ((Itr 0 j.toNat).go i H ∧ ∃ N : L2.St → Hp → Prop, (∀ σ' H', N σ' H' → ∃ m', m' < m ∧ W (i + 1) m' σ' H') ∧ ∀ x H', (Itr 0 j.toNat).yld i H x H' → g x σ H' fun σ2 H2 => tb { D with nx := N, ct := N, bk := D.nx } σ2 H2) := by
  rw [e]
  exact for_range Pv h0 (fun i σ H hi p => by rw [Int.zero_add]; exact hs i σ H hi p) hd
theorem lc_rng {n : Nat} {j : Int} (e : j.toNat = n) {H1 : Hp} {D : Addr} {vs : List Nat} {Qd : Hp → Prop} (Pv : Nat → Hp → Prop) (h0 : Pv 0 (upd H1 D (.lst [])))
    (hs : ∀ (i : Nat) H, i < n → Pv i H → g (.int i) (wipe σ vs) H fun σ2 H2 => wipe σ2 vs = wipe σ vs ∧ tt σ2 H2 fun b H3 =>
      if b = true then te σ2 H3 fun y H4 => ∃ acc, H4 D = some (.lst acc) ∧ acc.length < sizeLine ∧ Pv (i + 1) (upd H4 D (.lst (acc ++ [y]))) else Pv (i + 1) H3) (hd : ∀ H, Pv n H → Qd H) :
    ∃ W : Nat → Nat → Hp → Prop, (∃ m, W 0 m (upd H1 D (.lst []))) ∧ ∀ i m H, W i m H →
      ((Itr 0 j.toNat).stop i H ∧ Qd H) ∨ ((Itr 0 j.toNat).go i H ∧ ∃ Nx : Hp → Prop, (∀ H', Nx H' → ∃ m', m' < m ∧ W (i + 1) m' H') ∧ ∀ x H', (Itr 0 j.toNat).yld i H x H' → g x (wipe σ vs) H' fun σ2 H2 => wipe σ2 vs = wipe σ vs ∧ tt σ2 H2 fun b H3 =>
        if b = true then te σ2 H3 fun y H4 => ∃ acc, H4 D = some (.lst acc) ∧ acc.length < sizeLine ∧ Nx (upd H4 D (.lst (acc ++ [y]))) else Nx H3) := by
  rw [e]
  exact lc_range Pv h0 (fun i H hi p => by rw [Int.zero_add]; exact hs i H hi p) hd
end
/-! ### a list under construction, with draws in between -/
structure Acc (z : PenI) (H0 H : Hp) (n : Nat) (p : Addr) (xs : List V) : Prop where
  kp : Kp H0 H
  pen : Pen H z n
  new : H0 p = none
  l : H p = some (.lst xs)
  ne : p ≠ z.c
theorem Pen.ne {H : Hp} {z : PenI} {n : Nat} {p : Addr} {xs : List V} (d : Pen H z n) (h : H p = some (.lst xs)) : p ≠ z.a := fun e => by
  obtain ⟨b, r, d, _⟩ := d
  rw [e, d.d] at h
  cases h
theorem Acc.start {z : PenI} {H0 H : Hp} {n : Nat} {p : Addr} {xs : List V} (k : Kp H0 H) (d : Pen H z n) (h : H p = none) : Acc z H0 (upd H p (.lst xs)) n p xs :=
  ⟨k.then h, d.new h, k.f _ h, upd_same, (d.free h).2⟩
theorem Acc.put {z : PenI} {H0 H : Hp} {n : Nat} {p : Addr} {xs : List V} (a : Acc z H0 H n p xs) (ys : List V) : Acc z H0 (upd H p (.lst ys)) n p ys :=
  ⟨a.kp.mut a.new, a.pen.mut (a.pen.ne a.l) a.ne, a.new, upd_same, a.ne⟩
theorem Acc.go {z : PenI} {H0 H H1 : Hp} {n m : Nat} {p : Addr} {xs : List V} (a : Acc z H0 H n p xs) (k : Kp H H1) (d : Pen H1 z m) : Acc z H0 H1 m p xs :=
  ⟨a.kp.trans k, d, a.new, k.l a.l, a.ne⟩
theorem Acc.newO {z : PenI} {H0 H : Hp} {n : Nat} {p q : Addr} {xs : List V} {o : HO} (a : Acc z H0 H n p xs) (h : H q = none) : Acc z H0 (upd H q o) n p xs := a.go (Kp.new h) (a.pen.new h)
theorem Acc.mono {z : PenI} {H0 H : Hp} {n m : Nat} {p : Addr} {xs : List V} (a : Acc z H0 H n p xs) (h : n ≤ m) : Acc z H0 H m p xs := ⟨a.kp, a.pen.mono h, a.new, a.l, a.ne⟩
section
variable {X : Cx} {tg e : Expr} {te : TE} {wi wj : TI} {σ : L2.St} {H : Hp} {R : It → Hp → Prop}
theorem pi_or (a : PI X tg e wi) (b : PI X tg e wj) : PI X tg e (fun σ H R => wi σ H R ∨ wj σ H R) := ⟨fun pins s σ H R I h => h.elim (fun h => a.run pins s σ H R I h) (fun h => b.run pins s σ H R I h)⟩
def iAny (K : PySem.W.Frag) (te : TE) : TI := fun σ H R => iList K te σ H R ∨ (iTup K te σ H R ∨ iStr te σ H R)
theorem pi_any (h : PE X e te) : PI X tg e (iAny X.K te) := pi_or (pi_list h) (pi_or (pi_tup h) (pi_str h))
theorem r_iL {K : PySem.W.Frag} (h : te σ H fun x H1 => ∃ a, x = .ref a ∧ (∃ xs, SqL K H1 a xs) ∧ R (Itl K a) H1) : iAny K te σ H R := .inl h
theorem r_iT {K : PySem.W.Frag} (h : te σ H fun x H1 => ∃ a, x = .ref a ∧ (∃ xs, SqT K H1 a xs) ∧ R (Itt K a) H1) : iAny K te σ H R := .inr (.inl h)
theorem r_iS {K : PySem.W.Frag} (h : te σ H fun v H1 => ∃ x, v = .str x ∧ R (Its x) H1) : iAny K te σ H R := .inr (.inr h)
theorem r_iLv {K : PySem.W.Frag} {a : Addr} {xs : List V} (hl : SqL K H a xs) (h : R (Itl K a) H) : ∃ b, V.ref a = V.ref b ∧ (∃ xs, SqL K H b xs) ∧ R (Itl K b) H := ⟨a, rfl, ⟨xs, hl⟩, h⟩
theorem r_iTv {K : PySem.W.Frag} {a : Addr} {xs : List V} (hl : SqT K H a xs) (h : R (Itt K a) H) : ∃ b, V.ref a = V.ref b ∧ (∃ xs, SqT K H b xs) ∧ R (Itt K b) H := ⟨a, rfl, ⟨xs, hl⟩, h⟩
end
theorem r_yes {σ : L2.St} {H : Hp} {QT : Bool → Hp → Prop} (h : QT true H) : tYes σ H QT := h
theorem ty_list {K : PySem.W.Frag} {H : Hp} {p : Addr} {xs : List V} (h : H p = some (.lst xs)) : tyV K "list" (.ref p) H := .inl ⟨rfl, xs, SqL.of h⟩
theorem r_append {H : Hp} {p : Addr} {xs : List V} {y : V} {Q : VK} (h : H p = some (.lst xs)) (c : xs.length < sizeLine) (q : Q .non (upd H p (.lst (xs ++ [y])))) : rAppend (.ref p) [y] H Q := ⟨p, xs, y, rfl, rfl, h, c, q⟩
theorem r_setL {H : Hp} {p : Addr} {xs : List V} {i : Int} {j : Nat} {v : V} {Q : Hp → Prop} (h : H p = some (.lst xs)) (c : ixN xs.length i = some j) (q : Q (upd H p (.lst (xs.set j v)))) : rSetL (.ref p) (.int i) v H Q := ⟨p, xs, i, j, rfl, rfl, h, c, q⟩
theorem r_slA {K : PySem.W.Frag} {H : Hp} {p : Addr} {xs : List V} {lo hi : Option Int} {Q : VK} (h : H p = some (.tup xs)) (c : ¬ (HT.sIx xs.length 0 lo = 0 ∧ HT.sIx xs.length xs.length hi = xs.length)) (q : ∀ r, H r = none → Q (.ref r) (upd H r (.tup (cutV xs lo hi)))) : rSlU K (.ref p) lo hi H Q :=
  .inr (.inr ⟨p, xs, rfl, SqT.of h, fun z => absurd z c, fun _ => q⟩)
theorem r_catA {K : PySem.W.Frag} {H : Hp} {p q : Addr} {xs ys : List V} {Q : VK} (h1 : H p = some (.tup xs)) (h2 : H q = some (.tup ys)) (e1 : xs ≠ []) (e2 : ys ≠ []) (c : xs.length + ys.length ≤ sizeLine) (k : ∀ r, H r = none → Q (.ref r) (upd H r (.tup (xs ++ ys)))) :
    rAddU K (.ref p) (.ref q) H Q := .inr (.inr (.inr ⟨p, q, xs, ys, rfl, rfl, SqT.of h1, SqT.of h2, c, fun z => absurd z e1, fun _ z => absurd z e2, fun _ _ => k⟩))
theorem r_gtup {K : PySem.W.Frag} {n : Nat} {gs : TGs} {p : Addr} {xs : List V} {σ : L2.St} {H : Hp} {Q : L2.St → Hp → Prop} (h : H p = some (.tup xs)) (e : xs.length = n) (k : gs xs σ H Q) : gTup K n gs (.ref p) σ H Q := ⟨p, xs, rfl, SqT.of h, e, k⟩
end My

set_option maxRecDepth 100000
set_option maxHeartbeats 4000000
/-! a, *b = a list; [.. for c in a text]; decimal words -/
namespace My
open PySem PySem.Spec PySem.Calls PyProof.Rows L2
section
variable {prog : Program} {w : World} {A : Around} {E : Value → Shared → Prop} {s : Shared}
theorem unpack_star {l : Addr} {v : Value} {vs : List Value} {Q : List Value → Shared → Prop} (hl : s.heap.IsList l (v :: vs).toArray) (hh : A.handled = none) (hz : (v :: vs).length ≤ sizeLine)
    (h : ∀ h' tk, Heap.ExtBut s.heap.objs.size s.heap h' → Q [v, .ref h'.objs.size] { s with heap := h'.push { cls := .type "list", data := .seq vs.toArray }, toks := tk }) : wpAny (model prog w) A (unpackItems (.ref l) 2 (some 1)) Q E s := by
  have hlt : l ≠ s.heap.objs.size := by obtain ⟨o, ho, _⟩ := hl; exact Nat.ne_of_lt (Heap.lt_size ho)
  unfold unpackItems
  refine wpAny_bind ?_
  unfold notIterableAtAll
  refine wpAny_bind (wpAny_specialOf hl.typeIs slot_list_iter.lookup ?_)
  refine wpAny_pure ?_
  simp only [Bool.false_eq_true, if_false]
  refine wpAny_bind (wpAny_holding (wpAny_pyIter_list hl ?_))
  have hsz : (v :: vs).toArray.size = vs.length + 1 := by simp
  refine wpAny_bind (wpAny_holding (PySem.W.kun_draw hlt 1 0 _ _ ⟨_, Heap.get?_push_size _ rfl, rfl, rfl⟩ (hl.push _) (by omega) fun h₁ hit₁ hs₁ => ?_))
  have hl₁ : h₁.IsList l (v :: vs).toArray := (hl.push _).extBut hs₁.extBut hlt
  rw [Nat.zero_add] at hit₁
  have hit₁' := hit₁
  obtain ⟨oi, hoi, _⟩ := hit₁'
  have hl₁' := hl₁
  obtain ⟨ol, hol, _⟩ := hl₁'
  have e1 : ((v :: vs).toArray.toList.drop 0).take 1 = [v] := by simp
  rw [e1]
  rw [if_neg (show ¬ ([v].length < 1) by simp)]
  refine wpAny_bind (wpAny_holding (PySem.W.kun_collect (s := { s with heap := h₁ }) (T := "list_iterator") (.inr (.inr (.inl rfl))) (Walks.list (A := A.in1) hh s.heap.objs.size l hlt (v :: vs).toArray) (fun j u st => st.1.typeIs) (k := 1) (by omega) ⟨hit₁, hl₁⟩ (Heap.lt_size hoi) (Heap.lt_size hol) (fun h₂ tk hk => ?_) (by rw [hsz]; simpa using hz)))
  have e2 : (v :: vs).toArray.toList.drop 1 = vs := by simp
  rw [e2]
  show wpAny _ _ (if vs.length < 0 then _ else _) _ _ _
  rw [if_neg (by omega)]
  show wpAny _ _ (newList (vs.take (vs.length - 0)) >>= fun d => pure ([v] ++ [d] ++ vs.drop (vs.length - 0))) _ _ _
  have e3 : vs.take (vs.length - 0) = vs := by simp
  have e4 : vs.drop (vs.length - 0) = [] := by simp
  rw [e3, e4]
  have he : Heap.ExtBut s.heap.objs.size s.heap h₂ := fun b o hb e => hk b o hb (hs₁.extBut b o hb (Heap.get?_push_of_some _ e))
  have hz' : vs.length ≤ sizeLine := by
    have hz := hz
    rw [List.length_cons] at hz
    omega
  exact wpAny_bind (wpAny_newList (wpAny_pure (h h₂ tk he)) hz')
end
section
variable {X : Cx}
/-- a, *b = l -/
def gStar (K : PySem.W.Frag) (g1 g2 : TG) : TG := fun v σ H Q => ∃ a x xs, v = .ref a ∧ SqL K H a (x :: xs) ∧ ∀ p, H p = none → g1 x σ (upd H p (.lst xs)) fun σ' H' => g2 (.ref p) σ' H' Q
theorem pg_star {e b : Expr} {k : Nat} {sp pos : Pos} {g1 g2 : TG} (hc : X.calm = true) (h1 : PG X e g1) (h2 : PG X b g2) (hn : (assignEach [e, .Starred b sp] X.env) = [(false, assign e X.env), (true, assign b X.env)] := by rfl) :
    PG X (.Tuple [e, .Starred b sp] k pos) (gStar X.K g1 g2) := by
  refine ⟨fun pins s σ H v u Q I r hw => ?_⟩
  obtain ⟨a, x, xs, e1, hq, hw⟩ := hw
  subst e1
  cases r
  obtain ⟨its, rv, hp, hz⟩ := I.list hq
  cases rv with
  | cons r1 rr =>
    rename_i v vs
    rw [assign_Tuple]
    refine wpAny_bind (wpAny_standAt ?_)
    unfold unpack
    rw [hn]
    refine wpAny_bind (wpAny_holding (unpack_star (v := v) (vs := vs) hp.isList (I.ok.hd hc) (by
      have := rr.length
      rw [List.length_cons] at hz ⊢
      omega) fun h' tk he => ?_))
    have I1 : Inv X pins σ H { s with heap := h', toks := tk } := I.kept fun b o e => he b o (Nat.ne_of_lt (Heap.lt_size e)) e
    have hf : H h'.objs.size = none := I1.hok.fresh (Nat.le_refl _)
    have I2 : Inv X pins σ (upd H h'.objs.size (.lst xs)) { s with heap := h'.push { cls := .type "list", data := .seq vs.toArray }, toks := tk } := I1.laid (t' := tk) (fun b u e => Heap.get?_push_of_some _ e) (Nat.le_refl _) ⟨by
      rw [List.length_cons] at hz
      omega, vs, 0, rr, Heap.get?_push_size _ rfl⟩
    refine assignInOrder_cons (thn (h1.run pins _ σ _ _ _ _ I2 r1 (hw _ hf)) fun _ s3 ⟨σ3, H3, I3, q3⟩ => ?_)
    refine assignInOrder_cons (thn (h2.run pins s3 σ3 H3 (.ref h'.objs.size) _ _ I3 rfl q3) fun _ s4 ⟨σ4, H4, I4, q4⟩ => ?_)
    exact assignInOrder_nil ⟨σ4, H4, I4, q4⟩
end
section
variable {K : PySem.W.Frag} {σ : L2.St} {H : Hp} {Q : VK} {g : TG} {tt : TT} {te : TE} {D : Ends} {tb : TS}
/-- a comprehension over a text -/
theorem lc_txt {x : Str} {H1 : Hp} {D : Addr} {vs : List Nat} {Qd : Hp → Prop} (Pv : Nat → Hp → Prop) (h0 : Pv 0 (upd H1 D (.lst [])))
    (hs : ∀ (i c : Nat) H, x.cps.toList[i]? = some c → Pv i H → g (.str ⟨#[c]⟩) (wipe σ vs) H fun σ2 H2 => wipe σ2 vs = wipe σ vs ∧ tt σ2 H2 fun b H3 =>
      if b = true then te σ2 H3 fun y H4 => ∃ acc, H4 D = some (.lst acc) ∧ acc.length < sizeLine ∧ Pv (i + 1) (upd H4 D (.lst (acc ++ [y]))) else Pv (i + 1) H3) (hd : ∀ H, Pv x.length H → Qd H) :
    ∃ W : Nat → Nat → Hp → Prop, (∃ m, W 0 m (upd H1 D (.lst []))) ∧ ∀ i m H, W i m H →
      ((Its x).stop i H ∧ Qd H) ∨ ((Its x).go i H ∧ ∃ Nx : Hp → Prop, (∀ H', Nx H' → ∃ m', m' < m ∧ W (i + 1) m' H') ∧ ∀ y H', (Its x).yld i H y H' → g y (wipe σ vs) H' fun σ2 H2 => wipe σ2 vs = wipe σ vs ∧ tt σ2 H2 fun b H3 =>
        if b = true then te σ2 H3 fun y H4 => ∃ acc, H4 D = some (.lst acc) ∧ acc.length < sizeLine ∧ Nx (upd H4 D (.lst (acc ++ [y]))) else Nx H3) := by
  refine ⟨fun i m H => m = x.cps.size - i ∧ i ≤ x.cps.size ∧ Pv i H, ⟨x.cps.size, by simp, Nat.zero_le _, h0⟩, ?_⟩
  rintro i m H ⟨rfl, hi, p⟩
  by_cases hlt : i < x.cps.size
  · refine .inr ⟨hlt, Pv (i + 1), fun H' p' => ⟨x.cps.size - (i + 1), by omega, rfl, hlt, p'⟩, fun y H' yv => ?_⟩
    obtain ⟨e, c, hc, y⟩ := yv
    subst e y
    exact hs i c _ (by simpa using hc) p
  · have e : i = x.cps.size := by omega
    subst e
    exact .inl ⟨Nat.le_refl _, hd H p⟩
end
end My

set_option maxRecDepth 100000
set_option maxHeartbeats 4000000
/-! own ==, own + by promises by position; what isinstance asks -/
namespace Hk
open PySem PySem.W PySem.Calls PyProof.Rows He He5
def insB (K : Frag) (x : PySem.Str) : Bool := (Fa.cls x).ok K && (eqO (findIn K (.ref (ga K x)) "__class__") (some (some (.builtin "object.__class__"))) && (eqO (specialIn K (.builtin "object.__class__") "__get__") (some (some (.builtin "getset_descriptor.__get__"))) &&
  (decide (takesIn K (.builtin "object.__class__") = some true) && (decide (mroIn K (ga K x) (.type "object") = some true) && decide (kitOne K (.ref (ga K x)) (.ref (ga K x)) = some true)))))
theorem ins_of {K : Frag} {x : PySem.Str} (c : insB K x = true) : C8.InsC K (ga K x) := by
  obtain ⟨c0, c⟩ := ba c
  obtain ⟨c1, c⟩ := ba c
  obtain ⟨c2, c⟩ := ba c
  obtain ⟨c3, c⟩ := ba c
  obtain ⟨c4, c5⟩ := ba c
  exact ⟨cls_ok c0, eqO_ok c1, eqO_ok c2, of_decide_eq_true c3, of_decide_eq_true c4, of_decide_eq_true c5⟩
/-- a special def of the text's own class -/
def ownB (K : Frag) (x m : PySem.Str) : Bool := eqO (findIn K (.ref (ga K x)) m) (some (some (.ref (ma K (ga K x) m)))) && (isFn K (.ref (ma K (ga K x) m)) && fnIn K (ma K (ga K x) m))
structure OwnD (K : Frag) (C : Addr) (m : PySem.Str) (g : Addr) : Prop where
  f : findIn K (.ref C) m = some (some (.ref g))
  i : isFn K (.ref g) = true
  n : fnIn K g = true
theorem own_of {K : Frag} {x m : PySem.Str} (c : ownB K x m = true) : OwnD K (ga K x) m (ma K (ga K x) m) := by
  obtain ⟨c0, c⟩ := ba c
  obtain ⟨c1, c2⟩ := ba c
  exact ⟨eqO_ok c0, c1, c2⟩
/-- C + D, both with a def for it, none for the other way, D not below C -/
def addB (K : Frag) (x y : PySem.Str) : Bool := eqO (findIn K (.ref (ga K x)) "__radd__") (some none) && (eqO (findIn K (.ref (ga K y)) "__radd__") (some none) && (decide (subIn K (.ref (ga K y)) (.ref (ga K x)) = some false) && (decide (ga K x ≠ ga K y) &&
  ((match clsIn K (ga K x) with | some cd => cd.mro.head? == some (.ref (ga K x)) | none => false) && (match clsIn K (ga K y) with | some cd => cd.mro.head? == some (.ref (ga K y)) | none => false)))))
structure AddD (K : Frag) (C D : Addr) : Prop where
  rc : findIn K (.ref C) "__radd__" = some none
  rd : findIn K (.ref D) "__radd__" = some none
  sub : subIn K (.ref D) (.ref C) = some false
  ne : C ≠ D
  mc : ∃ cd r, clsIn K C = some cd ∧ cd.mro = .ref C :: r
  md : ∃ cd r, clsIn K D = some cd ∧ cd.mro = .ref D :: r
theorem mro_head {K : Frag} {C : Addr} (c : (match clsIn K C with | some cd => cd.mro.head? == some (.ref C) | none => false) = true) : ∃ cd r, clsIn K C = some cd ∧ cd.mro = .ref C :: r := by
  cases e : clsIn K C with
  | none => rw [e] at c; cases c
  | some cd =>
    rw [e] at c
    have h : cd.mro.head? = some (.ref C) := by simpa using c
    cases hm : cd.mro with
    | nil => rw [hm] at h; cases h
    | cons v r =>
      rw [hm] at h
      have : v = .ref C := by simpa using h
      exact ⟨cd, r, rfl, by rw [hm, this]⟩
theorem add_of {K : Frag} {x y : PySem.Str} (c : addB K x y = true) : AddD K (ga K x) (ga K y) := by
  obtain ⟨c0, c⟩ := ba c
  obtain ⟨c1, c⟩ := ba c
  obtain ⟨c2, c⟩ := ba c
  obtain ⟨c3, c⟩ := ba c
  obtain ⟨c4, c5⟩ := ba c
  exact ⟨eqO_ok c0, eqO_ok c1, of_decide_eq_true c2, of_decide_eq_true c3, mro_head c4, mro_head c5⟩
end Hk
namespace My
open PySem PySem.Spec PyProof.Rows L2
section
variable {X : Cx} {n : Nat} {CX : CXT} {E : XK} {pins : List (Addr × Obj)} {σ : L2.St} {H : Hp} {s : Shared}
/-- a def of the text that is called by an operator's machinery, from another place of the same depth -/
theorem run_at {A : Around} {Q : VK} {f : Addr} {us : List Value} {ws : List V} {sp : Sp} (F : FnR X.prog X.w X.K X.mg X.base CX n f sp) (hr : Room n A) (hf : A.frames = X.A.frames) (hx : Passes CX X E) (I : Inv X pins σ H s) (r : Vals ws us) (h : sp ws H Q E) :
    wpAny (model X.prog X.w) A (call (.ref f) us) (EP X pins σ Q) X.xe s := by
  have e := I.env0
  exact run_below F hr ⟨by rw [hf]; exact e.frames, e.mod, e.bs, e.bsz, e.funs, e.frf, e.hok, e.bare⟩ hx I r h
theorem rcG_R {C f : Addr} {R : Addr → Addr → Hp → Prop} (F : FnR X.prog X.w X.K X.mg X.base CX n f (spEq R)) (o : Hk.OwnD X.K C "__eq__" f) (hx : Passes CX X E) : RcG X n (DIns C R) := by
  rintro A pins s σ H x y u v sb I rx ry ⟨a, b, dx, dy, fs, gs, rfl, rfl, ha, hb, hr⟩
  cases rx
  cases ry
  obtain ⟨od, J⟩ := ins_at I ha
  obtain ⟨_, J'⟩ := ins_at I hb
  obtain ⟨m, hF⟩ := I.fr
  refine PySem.W.cmp_K (tb := .ref C) (op := .Eq) sb.room.units0 hF I.ok.mod.kin J J'.type (by simp [PySem.W.notFirst]) o.f o.i ?_
  refine wpAny_mono (run_at (us := [.ref a, .ref b]) (ws := [.ref a, .ref b]) (Q := fun v H' => v = .bl true ∧ Ext H H') F sb.room sb.fr hx I (.cons rfl (.cons rfl .nil)) ⟨a, b, rfl, hr, fun H' e => ⟨rfl, e⟩⟩) (fun w s' z => ?_) fun _ _ q => q
  obtain ⟨x, H', I', rz, rfl, ex⟩ := z
  cases rz
  exact ⟨rfl, H', I', ex⟩
theorem ins_two {D : Addr → Addr → Hp → Prop} {C : Addr} {x y : V} {H : Hp} (d : DIns C D x y H) : ∃ a b, x = .ref a ∧ y = .ref b := by
  obtain ⟨a, b, _, _, _, _, h1, h2, _⟩ := d
  exact ⟨a, b, h1, h2⟩
/-- a + b for two own classes -/
def rAddOwn (C D : Addr) (sp : Sp) (E : XK) : R2 := fun x y H Q => ∃ a b dx dy fs gs, x = .ref a ∧ y = .ref b ∧ H a = some (.ins C dx fs) ∧ H b = some (.ins D dy gs) ∧ sp [x, y] H (fun z H' => (∃ p, z = .ref p) ∧ Q z H') E
theorem op_addOwn {C D f g : Addr} {sp : Sp} (F : FnR X.prog X.w X.K X.mg X.base CX n f sp) (o : Hk.OwnD X.K C "__add__" f) (o2 : Hk.OwnD X.K D "__add__" g) (ad : Hk.AddD X.K C D) (hr : Room n X.A) (hx : Passes CX X E) : OpR X (binaryOp .Add) (rAddOwn C D sp E) := by
  rintro pins s σ H x y v u Q I rx ry ⟨a, b, dx, dy, fs, gs, rfl, rfl, ha, hb, q⟩
  cases rx
  cases ry
  obtain ⟨od, J⟩ := ins_at I ha
  obtain ⟨_, J'⟩ := ins_at I hb
  obtain ⟨m, hF⟩ := I.fr
  obtain ⟨cc, rc, hcc, hmc⟩ := ad.mc
  obtain ⟨cd, rd, hcd, hmd⟩ := ad.md
  have ht : PySem.W.Looks (model X.prog X.w) s.heap (typeOf (.ref b)) (.ref D) := J'.type
  have key := Bo.binop2 (nm := "add") (A := X.A) (E := X.xe) (Q := fun r s' => ∃ z, r = some z ∧ EP X pins σ Q z s') hF I.ok.mod.kin J ht ad.ne hcc hmc hcd hmd o.f o.i o2.f ad.rc ad.rd ad.sub
    (wpAny_mono (run_at (us := [.ref a, .ref b]) (ws := [.ref a, .ref b]) F hr rfl hx I (.cons rfl (.cons rfl .nil)) q) (fun w s' z => by
      obtain ⟨x, H', I', rz, ⟨p, rfl⟩, q'⟩ := z
      cases rz
      exact ⟨by simp, _, rfl, .ref p, H', I', rfl, q'⟩) fun _ _ z => z)
  show wpAny (model X.prog X.w) X.A (binaryOp .Add (.ref a) (.ref b)) (EP X pins σ Q) X.xe s
  refine wpAny_holding (wpAny_bind (thn key fun r s1 z => ?_))
  obtain ⟨z, rfl, q⟩ := z
  exact wpAny_pure q
end
end My

set_option maxRecDepth 100000
set_option maxHeartbeats 4000000
/-! calls with a spread sequence -/
namespace My
open PySem PySem.Spec PySem.Calls PyProof.Rows L2
theorem args_two {M : Model} {A : Around} {E : Value → Shared → Prop} {s : Shared} {f : Value} {a b : Bool × Sem Value} {r : List (Bool × Sem Value)} {Q : Args → Shared → Prop} (h : wpAny M A (spliced (a :: b :: r)) (fun vs s1 => Q ⟨vs, []⟩ s1) E s) :
    wpAny M A (evalArgs f true (a :: b :: r) []) Q E s := by
  unfold evalArgs
  obtain ⟨k, x⟩ := a
  cases k
  all_goals
    show wpAny M A (spliced (_ :: b :: r) >>= _) Q E s
    exact wpAny_bind (wpAny_mono h (fun vs s1 q => wpAny_holding (wpAny_bind (wpAny_pure (wpAny_bind (wpAny_pure (wpAny_pure q)))))) fun _ _ z => z)
section
variable {X : Cx} {CX : CXT} {k : Nat} {f C : Addr} {sp : Sp} {E : XK} {x m : Str} {p pos apos sp_ : Pos} {e o : Expr} {es : List Expr} {ta te : TE} {t : TA}
def tCallS (K : PySem.W.Frag) (sp : Sp) (E : XK) (te : TE) : TE := fun σ H Q => te σ H fun y H1 => ∃ a xs, y = V.ref a ∧ (SqT K H1 a xs ∨ SqL K H1 a xs) ∧ sp xs H1 Q E
theorem r_callS {K : PySem.W.Frag} {σ : L2.St} {H : Hp} {Q : VK} (h : te σ H fun y H1 => ∃ a xs, y = V.ref a ∧ (SqT K H1 a xs ∨ SqL K H1 a xs) ∧ sp xs H1 Q E) : tCallS K sp E te σ H Q := h
/-- f( *e) -/
theorem pe_callS1 (F : FnR X.prog X.w X.K X.mg X.base CX k f sp) (hr : Room k X.A) (hk : PySem.W.keepIn X.K (.ref f) = true) (hg : Gl X x) (hm : X.mg x = some (.ref f)) (hx : Passes CX X E) (he : PE X e te) (hd : (x == ("__debug__" : Str)) = false := by decide)
    (hst : starEach [.Starred e sp_] X.env = [(true, eval e X.env)] := by rfl) : PE X (.Call (.Name x p) [.Starred e sp_] [] pos) (tCallS X.K sp E te) := by
  refine ⟨fun pins s σ H Q I h => ?_⟩
  refine wpAny_Call_Name_kw (ld_glob I hg hm ?_ hd)
  refine PySem.W.callWith_S (h₀ := X.base) I.ok.mod.kin hk (thn (he.run pins s σ _ _ I h) fun u s2 z => ?_) hst
  obtain ⟨y, H2, I2, ry, a, xs, ey, hxs, q⟩ := z
  subst ey
  obtain rfl : u = Value.ref a := ry
  exact StX.star_any I2 hxs fun us s3 I3 rv => ⟨I3.kIn, wpAny_call (run_fnR F hr hx I3 rv q)⟩
theorem r_makeS1 {K : PySem.W.Frag} {σ : L2.St} {H : Hp} {Q : VK} (h : te σ H fun y H1 => ∃ a xs, y = V.ref a ∧ (SqT K H1 a xs ∨ SqL K H1 a xs) ∧ ∀ x dx, H1 x = Option.none → H1 dx = Option.none → dx ≠ x →
  sp (V.ref x :: xs) (upd (upd H1 dx (.own x)) x (.ins C dx [])) (fun v H2 => v = .non ∧ Q (.ref x) H2) E) : tMakeS1 K C sp E te σ H Q := h
/-- C( *e), C a class of the module -/
theorem pe_makeG1 (M : Mk X.K C f) (F : FnR X.prog X.w X.K X.mg X.base CX k f sp) (hr : Room (k + 1) X.A) (hg : Gl X x) (hm : X.mg x = some (.ref C)) (hx : Passes CX X E) (he : PE X e te) (hd : (x == ("__debug__" : Str)) = false := by decide)
    (hst : starEach [.Starred e sp_] X.env = [(true, eval e X.env)] := by rfl) : PE X (.Call (.Name x p) [.Starred e sp_] [] pos) (tMakeS1 X.K C sp E te) := by
  refine ⟨fun pins s σ H Q I h => ?_⟩
  refine wpAny_Call_Name_kw (ld_glob I hg hm ?_ hd)
  refine PySem.W.callWith_S (h₀ := X.base) I.ok.mod.kin M.kp (thn (he.run pins s σ _ _ I h) fun u s2 z => ?_) hst
  obtain ⟨y, H2, I2, ry, a, xs, ey, hxs, q⟩ := z
  subst ey
  obtain rfl : u = Value.ref a := ry
  exact StX.star_any I2 hxs fun us s3 I3 rv => ⟨I3.kIn, StX.run_makeR M F hr hx I3 rv q⟩
/-- C( *e, e2, ..) -/
theorem pe_makeS2 {e2 : Expr} {rest : List Expr} (M : Mk X.K C f) (F : FnR X.prog X.w X.K X.mg X.base CX k f sp) (hr : Room (k + 1) X.A) (hg : Gl X x) (hm : X.mg x = some (.ref C)) (hx : Passes CX X E) (ha : PA X (.Starred e sp_ :: e2 :: rest) t) (hd : (x == ("__debug__" : Str)) = false := by decide)
    (hst : ∃ a b r, backTo pos (starEach (.Starred e sp_ :: e2 :: rest) X.env) = a :: b :: r ∧ a.1 = true := by exact ⟨_, _, _, rfl, rfl⟩) :
    PE X (.Call (.Name x p) (.Starred e sp_ :: e2 :: rest) [] pos) (StX.tMakeR C sp E t) := by
  obtain ⟨a, b, r, eq, ea⟩ := hst
  refine pe_makeS M F hr hg hm hx ha hd (by rw [eq, List.any_cons, ea]; rfl) (fun z => nomatch z) fun {s Q} h => ?_
  rw [eq] at h ⊢
  exact PySem.W.ks_call (by rw [List.any_cons, ea]; rfl) (PySem.W.keeps_K M.kp) (args_two h)
end
section
variable {X : Cx}
/-- a sign in a text -/
def rSgn : R2 := fun x y H Q => ∃ (c : Nat) (z : Str), x = .str ⟨#[c]⟩ ∧ y = .str z ∧ Q (.bl (decide (c ∈ z.cps.toList))) H
theorem op_sgn : OpR X (compareOp .In) rSgn := op_in_sign
theorem r_sgn {c : Nat} {z : Str} {H : Hp} {Q : VK} (q : Q (.bl (decide (c ∈ z.cps.toList))) H) : rSgn (.str ⟨#[c]⟩) (.str z) H Q := ⟨c, z, rfl, rfl, q⟩
end
/-- nothing known changes, nothing goes -/
structure Gr (H H' : Hp) : Prop where
  e : Ext H H'
  f : ∀ b, H' b = none → H b = none
section
variable {H H1 H2 : Hp} {p : Addr} {o : HO}
theorem Gr.refl (H : Hp) : Gr H H := ⟨fun _ _ h => h, fun _ h => h⟩
theorem Gr.trans (a : Gr H H1) (b : Gr H1 H2) : Gr H H2 := ⟨fun c o h => b.e c o (a.e c o h), fun c h => a.f c (b.f c h)⟩
theorem Gr.mut (a : Gr H H1) (h : H p = none) : Gr H (upd H1 p o) := ⟨fun c u hc => by rw [upd_ne (ne_of_none hc h)]; exact a.e c u hc, fun c hc => by
  by_cases e : c = p
  · rw [e]; exact h
  · rw [upd_ne e] at hc; exact a.f c hc⟩
theorem Gr.new (h : H p = none) : Gr H (upd H p o) := (Gr.refl H).mut h
theorem Gr.then (a : Gr H H1) (h : H1 p = none) : Gr H (upd H1 p o) := a.mut (a.f p h)
theorem Gr.kp (a : Gr H H1) : Kp H H1 := ⟨fun b o _ h => a.e b o h, a.f⟩
theorem Gr.pen {z : PenI} {n : Nat} (a : Gr H H1) (d : Pen H z n) : Pen H1 z n := by
  obtain ⟨b, r, d, y⟩ := d
  exact ⟨b, r, ⟨a.e _ _ d.d, a.e _ _ d.c⟩, y⟩
end
section
variable {ts : List TE} {te : TE} {acc : Str} {σ : L2.St} {H : Hp} {Q : VK} {QS : Str → Hp → Prop}
theorem r_js0 (q : QS acc H) : tJs [] acc σ H QS := q
theorem r_jsT (h : te σ H fun x H1 => ∃ y : Str, x = .str y ∧ (acc ++ y).length ≤ sizeLine ∧ tJs ts (acc ++ y) σ H1 QS) : tJs (te :: ts) acc σ H QS := h
theorem r_fmt (h : te σ H fun x H1 => (∃ y : Str, x = .str y ∧ y.length ≤ sizeLine ∧ Q (.str y) H1) ∨ ∃ i : Int, x = .int i ∧ i.natAbs.log2 < 1920 ∧ Q (.str (toString i)) H1) : tFmt te σ H Q := h
theorem log_small {i : Int} (h1 : -(10 ^ 70) ≤ i) (h2 : i ≤ 10 ^ 70) : i.natAbs.log2 < 1920 := by
  by_cases h : i.natAbs = 0
  · rw [h]
    decide
  · have e : (10 : Int) ^ 70 < 2 ^ 250 := by decide
    exact Nat.lt_trans ((Nat.log2_lt h).mpr (show i.natAbs < 2 ^ 250 by omega)) (by decide)
end
theorem r_con {K : PySem.W.Frag} {f : Str} {ta : TE} {σ : L2.St} {H : Hp} {Q : VK} (h : ta σ H fun x H1 => ∃ a C dx fs v u, x = .ref a ∧ H1 a = some (.ins C dx fs) ∧ Cls K C ∧ Con K C f v u ∧ fs.lookup f = none ∧ Q v H1) : tCon K ta f σ H Q := h
theorem r_conV {K : PySem.W.Frag} {f : Str} {H : Hp} {a C dx : Addr} {fs : List (Str × V)} {v : V} {P : V → Prop} (h : H a = some (.ins C dx fs)) (c : Cls K C) (k : ∃ u, Con K C f v u) (l : fs.lookup f = none) (q : P v) :
    ∃ b D dy gs w u, V.ref a = V.ref b ∧ H b = some (.ins D dy gs) ∧ Cls K D ∧ Con K D f w u ∧ gs.lookup f = none ∧ P w := by
  obtain ⟨u, k⟩ := k
  exact ⟨a, C, dx, fs, v, u, rfl, h, c, k, l, q⟩
theorem r_fldV {K : PySem.W.Frag} {f : Str} {H : Hp} {a C dx : Addr} {fs : List (Str × V)} {v : V} {P : V → Prop} (h : H a = some (.ins C dx fs)) (c : Cls K C) (k : NoAttr K C f) (l : fs.lookup f = some v) (q : P v) :
    ∃ b D dy gs w, V.ref a = V.ref b ∧ H b = some (.ins D dy gs) ∧ Cls K D ∧ NoAttr K D f ∧ gs.lookup f = some w ∧ P w := ⟨a, C, dx, fs, v, rfl, h, c, k, l, q⟩
/-! the same rules, the written part by name (within a comprehension the context's own is not to be seen) -/
section
variable {X : Cx} {K : PySem.W.Frag} {tg e : Expr} {te : TE}
theorem pg_tupK {es : List Expr} {k : Nat} {pos : Pos} {t : TGs} {n : Nat} (hK : X.K = K) (hc : X.calm = true) (h : PGs X es t) (hn : (assignEach es X.env).length = n := by rfl) (hst : (assignEach es X.env).findIdx? (·.1) = none := by rfl) :
    PG X (.Tuple es k pos) (gTup K n t) := hK ▸ pg_tup hc h hn hst
theorem ix_seqK (hK : X.K = K) : IxR X (rIx K) := hK ▸ ix_seq
theorem op_addUK (hK : X.K = K) : OpR X (binaryOp .Add) (rAddU K) := hK ▸ op_addU
theorem op_eqUK (hK : X.K = K) (hu : X.A.units + 64 < cLine) : OpR X (compareOp .Eq) (rEqU K) := hK ▸ op_eqU hu
theorem op_neUK (hK : X.K = K) (hu : X.A.units + 64 < cLine) : OpR X (compareOp .NotEq) (rNeU K) := hK ▸ op_neU hu
theorem call_lenUK (hK : X.K = K) : CallR X (.builtin "len") (rLenU K) := hK ▸ call_lenU
theorem sl_anyK (hK : X.K = K) : SlR X (rSlU K) := hK ▸ sl_any
theorem pi_anyK (hK : X.K = K) (h : PE X e te) : PI X tg e (iAny K te) := hK ▸ pi_any h
theorem op_inK (hK : X.K = K) : OpR X (compareOp .In) (rIn K false) := hK ▸ op_in_seq
theorem op_notInK (hK : X.K = K) : OpR X (compareOp .NotIn) (rIn K true) := hK ▸ op_notIn_seq
end
/-- a dict comprehension over enumerate(a list) -/
theorem dc_enumL {K : PySem.W.Frag} {a : Addr} {xs : List V} {g : TG} {tt : TT} {tk tv : TE} {vs : List Nat} {σ : L2.St} {H1 : Hp} {D : Addr} {Qd : Hp → Prop} (Pv : Nat → Hp → Prop) (h0 : Pv 0 (upd H1 D (.dK []))) (hl : ∀ i H, i ≤ xs.length → Pv i H → SqL K H a xs)
    (hs : ∀ i x H T, xs[i]? = some x → Pv i H → H T = none → g (.ref T) (wipe σ vs) (upd H T (.tup [.int (i : Nat), x])) fun σ2 H2 => wipe σ2 vs = wipe σ vs ∧ tt σ2 H2 fun b H3 =>
      if b = true then tk σ2 H3 fun y H4 => tv σ2 H4 fun z H5 => ∃ kvs k, y = kV k ∧ H5 D = some (.dK kvs) ∧ kvs.length < sizeLine ∧ Pv (i + 1) (upd H5 D (.dK (putK kvs k z))) else Pv (i + 1) H3) (hd : ∀ H, Pv xs.length H → Qd H) :
    ∃ W : Nat → Nat → Hp → Prop, (∃ m, W 0 m (upd H1 D (.dK []))) ∧ ∀ i m H, W i m H →
      ((Ite K a).stop i H ∧ Qd H) ∨ ((Ite K a).go i H ∧ ∃ Nx : Hp → Prop, (∀ H', Nx H' → ∃ m', m' < m ∧ W (i + 1) m' H') ∧ ∀ x H', (Ite K a).yld i H x H' → g x (wipe σ vs) H' fun σ2 H2 => wipe σ2 vs = wipe σ vs ∧ tt σ2 H2 fun b H3 =>
        if b = true then tk σ2 H3 fun y H4 => tv σ2 H4 fun z H5 => ∃ kvs k, y = kV k ∧ H5 D = some (.dK kvs) ∧ kvs.length < sizeLine ∧ Nx (upd H5 D (.dK (putK kvs k z))) else Nx H3) := by
  refine ⟨fun i m H => m = xs.length - i ∧ i ≤ xs.length ∧ Pv i H, ⟨xs.length, by simp, Nat.zero_le _, h0⟩, ?_⟩
  rintro i m H ⟨rfl, hi, p⟩
  have q := hl i H hi p
  by_cases hlt : i < xs.length
  · refine .inr ⟨⟨xs, xs[i], q, by simp [hlt]⟩, Pv (i + 1), fun H' p' => ⟨xs.length - (i + 1), by omega, rfl, hlt, p'⟩, fun x H' y => ?_⟩
    obtain ⟨T, v, e, hT, eH, hv⟩ := y
    subst e eH
    exact hs i v H T (hv xs q) p hT
  · have e : i = xs.length := by omega
    subst e
    exact .inl ⟨⟨xs, q, Nat.le_refl _⟩, hd H p⟩
section
variable {H H5 : Hp} {x : Addr} {u u0 v : HO}
theorem Gr.back (g : Gr (upd H x u) H5) (h : H x = some u0) : Gr H (upd H5 x u0) := ⟨fun c o hc => by
  by_cases e : c = x
  · rw [e, upd_same]
    rw [e, h] at hc
    exact hc
  · rw [upd_ne e]
    exact g.e c o (by rw [upd_ne e]; exact hc), fun c hc => by
  by_cases e : c = x
  · rw [e, upd_same] at hc
    cases hc
  · rw [upd_ne e] at hc
    have := g.f c hc
    rw [upd_ne e] at this
    exact this⟩
end
theorem r_dc {wi : TI} {g : TG} {tt : TT} {tk tv : TE} {vs : List Nat} {σ : L2.St} {H : Hp} {Q : VK} (h : wi σ H fun J H1 => ∀ D, H1 D = none → ∃ W : Nat → Nat → Hp → Prop, (∃ m, W 0 m (upd H1 D (.dK []))) ∧ ∀ i m H, W i m H →
  (J.stop i H ∧ Q (.ref D) H) ∨ (J.go i H ∧ ∃ Nx : Hp → Prop, (∀ H', Nx H' → ∃ m', m' < m ∧ W (i + 1) m' H') ∧ ∀ x H', J.yld i H x H' → g x (wipe σ vs) H' fun σ2 H2 => wipe σ2 vs = wipe σ vs ∧ tt σ2 H2 fun b H3 =>
    if b = true then tk σ2 H3 fun y H4 => tv σ2 H4 fun z H5 => ∃ kvs k, y = kV k ∧ H5 D = some (.dK kvs) ∧ kvs.length < sizeLine ∧ Nx (upd H5 D (.dK (putK kvs k z))) else Nx H3)) : tDc wi g tt tk tv vs σ H Q := h
end My

set_option maxRecDepth 100000
set_option maxHeartbeats 4000000
/-! tuple(a dict): the keys in their order -/
namespace My
open PySem PySem.Spec PySem.Calls PyProof.Rows L2
section
variable {prog : Program} {w : World} {A : Around} {E : Value → Shared → Prop} {s : Shared} {T : String} {r d : Addr} {n : Nat} {P : Nat → Value → Prop} {OK : Heap → Prop}
theorem src_collect {Q : List Value → Shared → Prop} (S : PySem.W.KdlSrc prog w T r d n P OK) (hA : A.handled = none) (ok : OK s.heap) (hn : n ≤ sizeLine)
    (k : ∀ (h' : Heap) (tk : Nat) (its : Array Value), (∀ b o, s.heap.get? b = some o → h'.get? b = some o) → ItemsOf P its n → Q its.toList { s with heap := h', toks := tk }) : wpAny (model prog w) A (collect (.ref r)) Q E s := by
  generalize hL : s.heap.objs.size = L
  unfold collect
  refine wpAny_bind (wpAny_runValue (codeAny_builtin F.entry_proto_collect ?_))
  rw [Around.under_plainId F.plain_proto_collect _]
  show wpAny _ A.in1 (newList [] >>= fun l => again (.builtin "list.__iadd__" ⟨[l, .ref r], []⟩)) _ _ _
  refine wpAny_bind (wpAny_newObj_type (wpAny_pure ⟨plainId_quiet F.plain_list_iadd _, codeAny_builtin F.entry_list_iadd ?_⟩))
  rw [Around.under_plainId F.plain_list_iadd _, hL]
  show wpAny _ A.in1 (Builtin.List.listExtendWith (.ref L) (.ref r) (.ref L)) _ _ _
  have e0 : (s.heap.push { cls := .type "list", data := .seq ([] : List Value).toArray }).get? L = some { cls := .type "list", data := .seq #[] 0 } := by rw [← hL]; exact Heap.get?_push_size _ rfl
  have lt := S.there _ ok
  rw [hL] at lt
  have n1 : L ≠ r := Nat.ne_of_gt lt.1
  have n2 : L ≠ d := Nat.ne_of_gt lt.2
  refine wpAny_mono (PySem.W.kdl_extend (s := { s with heap := s.heap.push { cls := .type "list", data := .seq ([] : List Value).toArray } }) (R := fun rr s' => rr = .ok (.ret (.ref L)) ∧ ∃ (h' : Heap) (tk : Nat) (its : Array Value) (c' : Nat), s' = { s with heap := h', toks := tk } ∧
      (∀ b o, s.heap.get? b = some o → h'.get? b = some o) ∧ h'.get? L = some { cls := .type "list", dict := none, data := .seq its c', slots := #[] } ∧ ItemsOf P its n)
    S hA (S.keep _ _ ok fun b _ o e => Heap.get?_push_of_some _ e) L n1 n2 (.ref L) 0 e0
    (fun h' tk its c' kp e hi => ⟨rfl, h', tk, its, c', rfl, fun b o q => kp b o (by have z := Heap.lt_size q; rw [hL] at z; exact Nat.ne_of_lt z) (Heap.get?_push_of_some _ q), e, hi⟩) hn) (fun fin s1 z => ?_) fun x s1 z => absurd z.1 (by simp)
  cases fin with
  | done f =>
    obtain ⟨ef, h', tk, its, c', rfl, kp, eL, hi⟩ := z
    cases ef
    show wpAny _ A (load L >>= _) _ _ _
    exact wpAny_bind (wpAny_load eL (wpAny_pure (k h' tk its kp hi)))
  | again c =>
    refine ⟨z.1, codeAny_mono z.2 fun rr s2 zr => ?_⟩
    obtain ⟨rfl, h', tk, its, c', rfl, kp, eL, hi⟩ := zr
    show wpAny _ A (load L >>= _) _ _ _
    exact wpAny_bind (wpAny_load eL (wpAny_pure (k h' tk its kp hi)))
theorem src_new {Q : Value → Shared → Prop} (S : PySem.W.KdlSrc prog w T r d n P OK) (hA : A.handled = none) (ok : OK s.heap) (hn : n ≤ sizeLine) (hT : (Value.type T == Value.type "tuple") = false)
    (k : ∀ (h' : Heap) (tk : Nat) (its : Array Value), (∀ b o, s.heap.get? b = some o → h'.get? b = some o) → ItemsOf P its n → Q (.ref h'.objs.size) { s with heap := h'.push { cls := .type "tuple", data := .seq its }, toks := tk }) :
    codeAny (model prog w) A (.call (.builtin "tuple.__new__") ⟨[.type "tuple", .ref r], []⟩) (wants Q E) s := by
  refine codeAny_of_tree ?_
  show wpAny _ A.in1 (do checkBuiltinCall "tuple.__new__" ⟨[.type "tuple", .ref r], []⟩; again (.builtin "tuple.__new__" ⟨[.type "tuple", .ref r], []⟩)) _ _ s
  refine wpAny_bind (wpAny_of_eq (F.newCall_tuple_1 _) (wpAny_pure ⟨plainId_quiet F.plain_tuple_new _, codeAny_builtin F.entry_tuple_new ?_⟩))
  rw [Around.under_plainId F.plain_tuple_new _]
  have z1 := sub_tuple_self
  have z2 := init_tuple_lookup
  have z3 := madeHere_tuple
  have tI := S.type s ok
  have hA1 : A.in1.handled = none := hA
  wp_walk using wpAny_typeOf tI, src_collect (A := A.in1) S hA1 ok hn
  intro h' tk its kp hi
  have ei : its.toList.toArray = its := by simp
  show wpAny _ _ (Builtin.Tuple.tupleExact its.toList.toArray >>= fun v => ret v) _ _ _
  rw [ei]
  unfold Builtin.Tuple.tupleExact
  refine wpAny_bind (wpAny_newObj_type (wpAny_pure (k h' tk its kp hi)) ?_)
  show its.size ≤ sizeLine
  rw [hi.1]
  exact hn
theorem src_tuple {Q : Value → Shared → Prop} (S : PySem.W.KdlSrc prog w T r d n P OK) (hA : A.handled = none) (ok : OK s.heap) (hn : n ≤ sizeLine) (hT : (Value.type T == Value.type "tuple") = false)
    (k : ∀ (h' : Heap) (tk : Nat) (its : Array Value), (∀ b o, s.heap.get? b = some o → h'.get? b = some o) → ItemsOf P its n → Q (.ref h'.objs.size) { s with heap := h'.push { cls := .type "tuple", data := .seq its }, toks := tk }) :
    wpAny (model prog w) A (call (.type "tuple") [.ref r]) Q E s := by
  refine callType_codes (Q₁ := fun o s1 => s1.TypeIs o "tuple" ∧ Q o s1) F.called_tuple (F.typeCall_tuple_1 _) F.entry_object_init
    (src_new (A := A.in1) S hA ok hn hT fun h' tk its kp hi => ⟨⟨_, Heap.get?_push_size _ rfl, rfl⟩, k h' tk its kp hi⟩) fun o s1 z => ?_
  exact ⟨z.1, F.args_object_init_2 o _, object_init_meets F.called_tuple.init.lookup F.called_tuple.made (by decide) prog w A.in1 _ s1 ⟨z.1, rfl, z.2⟩⟩
end
def rTupD : List V → Hp → VK → Prop := fun xs H Q => ∃ p kvs, xs = [.ref p] ∧ H p = some (.dK kvs) ∧ ∀ q, H q = none → Q (.ref q) (upd H q (.tup (kvs.map fun kv => kV kv.1)))
theorem call_tupleD {X : Cx} (hc : X.calm = true) : CallR X (.type "tuple") rTupD := by
  rintro pins s σ H xs us Q I r ⟨p, kvs, rfl, hk, q⟩
  obtain ⟨u, rfl, rx⟩ := vals1 r
  obtain rfl : u = Value.ref p := rx
  obtain ⟨z, lo, vs, rk, hd⟩ := (show ObjOk X.prog X.w H s.heap p (.dK kvs) from I.hok p _ hk)
  obtain ⟨ep, hat⟩ := hd.dictAt
  have hl : kvs.length = vs.length := Paired.length rk
  refine src_tuple (PySem.W.kdl_dict (knd := mixKind X.prog X.w) (kvs := vs) (ep := ep) lo) (I.ok.hd hc) hat (by rw [← hl]; exact z) (by decide) fun h' tk its kp hi => ?_
  have I1 : Inv X pins σ H { s with heap := h', toks := tk } := I.kept kp
  have rel : Vals (kvs.map fun kv => kV kv.1) its.toList := by
    have el : its.toList.length = its.size := by simp
    refine vals_of_at (by rw [List.length_map, el, hi.1, hl]) fun j x v h1 h2 => ?_
    obtain ⟨k, y, hky, hik⟩ := hi.2 j v (by rw [← Array.getElem?_toList]; exact h2)
    have e1 : (kvs.map (·.1))[j]? = some k := by
      rw [KV.keys rk, List.getElem?_map, hky]
      rfl
    rw [List.getElem?_map] at h1 e1
    obtain ⟨kv, f1, f2⟩ := Option.map_eq_some_iff.mp h1
    rw [f1] at e1
    have e3 : kv.1 = k := by simpa using e1
    rw [← f2, e3]
    exact keyIs_rel hik
  refine ⟨.ref h'.objs.size, _, I1.laid (t' := tk) (o := .tup (kvs.map fun kv => kV kv.1)) (fun b o e => Heap.get?_push_of_some _ e) (Nat.le_refl _) ⟨by rw [List.length_map]; exact z, its.toList, rel, by rw [Array.toArray_toList]; exact IsTup.new _ _⟩, rfl, q _ (I1.hok.fresh (Nat.le_refl _))⟩
def rTupleU (K : PySem.W.Frag) : List V → Hp → VK → Prop := fun xs H Q => rTupD xs H Q ∨ (∃ p ys, xs = [.ref p] ∧ ((SqL K H p ys ∧ ∀ l, H l = none → Q (.ref l) (upd H l (.tup ys))) ∨ (SqT K H p ys ∧ Q (.ref p) H)))
theorem call_tupleU {X : Cx} {K : PySem.W.Frag} (hK : X.K = K) (hc : X.calm = true) : CallR X (.type "tuple") (rTupleU K) := hK ▸ (call_tupleD hc).or call_tuple_of
theorem r_disp {trs : List (TE × TE)} {σ : L2.St} {H : Hp} {Q : VK} (h : ∀ p, H p = none → tPairs trs σ (upd H p (.dK [])) fun ps H2 => H2 p = some (.dK []) ∧ ∃ kvs : List (Key × V), ps = kvs.map (fun kv => (kV kv.1, kv.2)) ∧ kvs.length ≤ 15 ∧ Q (.ref p) (upd H2 p (.dK (mergeK [] kvs)))) : tDisp trs σ H Q := h
theorem r_pp0 {σ : L2.St} {H : Hp} {Q : List (V × V) → Hp → Prop} (h : Q [] H) : tPairs [] σ H Q := h
theorem r_ppC {tk tv : TE} {r : List (TE × TE)} {σ : L2.St} {H : Hp} {Q : List (V × V) → Hp → Prop} (h : tk σ H fun x H1 => tv σ H1 fun y H2 => tPairs r σ H2 fun ps H3 => Q ((x, y) :: ps) H3) : tPairs ((tk, tv) :: r) σ H Q := h
theorem r_iteNT {A B : Prop} (h : B) : if (!true) = true then A else B := by
  rw [if_neg (by decide)]
  exact h
theorem r_iteNF {A B : Prop} (h : A) : if (!false) = true then A else B := by
  rw [if_pos (by decide)]
  exact h
end My

set_option maxRecDepth 100000
set_option maxHeartbeats 4000000
/-! a law's end where its def is promised for known guards -/
namespace My
open PySem PySem.Spec PyProof.Rows L2
section
variable {P : Program} {w : World} {K : PySem.W.Frag} {mg mb : Str → Option Value} {k : Nat} {f p : Addr} {sp : Sp} {t : Shared} {us : List Value} {ns : List Int}
/-- the wanted end of the caller -/
abbrev Told (t : Shared) : Result → Shared → Prop := fun r u => r = .ok (.ret (.bool true)) ∧ OldK t.heap u.heap ∧ u.os = t.os ∧ AllBare u.gens
theorem core_at (kin : K.In t.heap) (gl : t.heap.Ns mainGlobals mg) (bl : t.heap.Ns builtinsNs mb) (bb : ∀ x : Str, x ≠ "__name__" → mb x = bootBuiltins x) (nl : t.heap.NoLimit) (gn : t.gens = #[])
    (at_ : t.heap.get? p = some { cls := .type "list", data := .seq us.toArray }) (room : Room k callerA) (F : ∀ base : Heap, K.In base → base.Ns mainGlobals mg → FnG P w K mg base (L2.CX P w) k f sp)
    {H : Hp} (only : Only H) (want : sp [.ref p] H (fun v _ => v = .bl true) fun _ _ _ => False) (ok : HOk P w H t.heap) (one : ∀ b, H b ≠ none → b = p) (kn : H p ≠ none → K.lookup p = none) :
    codeAny (model P w) callerA (.call (.ref f) ⟨[.ref p], []⟩) (Told t) t := by
  have same : ∀ b, H b = none ∨ b = p := fun b => by
    by_cases z : H b = none
    · exact .inl z
    · exact .inr (one b z)
  have dict : ∀ (b : Addr) (o : Obj) (es : Array DictEntry) (m : Nat), t.heap.get? b = some o → o.data = .dict es m → H b = none := fun b o es m e d => by
    rcases same b with z | rfl
    · exact z
    · rw [at_] at e
      cases e
      cases (show Data.seq us.toArray _ = Data.dict es m from d)
  have names : ∀ (b : Addr) (m : Str → Option Value), t.heap.Ns b m → (hidT t.heap H).Ns b m := fun b m z => by
    obtain ⟨o, es, n, e, d, r⟩ := z
    exact ⟨o, es, n, hidT_get e (dict b o es n e d), d, r⟩
  have kb : K.In (hidT t.heap H) := fun b o e => by
    refine hidT_get (kin b o e) ?_
    rcases same b with z | rfl
    · exact z
    · by_cases z : H b = none
      · exact z
      · rw [kn z] at e
        cases e
  obtain ⟨mc, nl1, nl2⟩ := nl
  have mod : Mod K mg (hidT t.heap H) := ⟨kb, names _ _ gl, ⟨mb, names _ _ bl, bb⟩, ⟨mc, names _ _ nl1, nl2⟩⟩
  have env : Env0 P w K mg (hidT t.heap H) callerA [] t H := ⟨rfl, mod, fun b o e => of_hidT e, Nat.le_of_eq (hidT_size _ _), trivial, fun b hb => (List.not_mem_nil hb).elim, ok, .of_eq gn⟩
  refine codeAny_mono (F _ kb (names _ _ gl) callerA [] t H [.ref p] [.ref p] _ _ room rfl env (.cons rfl .nil) want) fun r u z => ?_
  match r, z with
  | .error x, z =>
    exfalso
    have z : L2.CX P w [] H t (fun _ _ _ => False) x u := z
    obtain ⟨_, _, _, _, _, _, _, _, _, _, _, _, hE⟩ := z
    exact hE
  | .ok .next, z => exact False.elim z
  | .ok .brk, z => exact False.elim z
  | .ok .cont, z => exact False.elim z
  | .ok (.ret y), z =>
    obtain ⟨v, H2, os, bare, un, ok2, rel, q⟩ := z
    have q : v = .bl true := q
    subst q
    obtain rfl : y = Value.bool true := rel
    refine ⟨rfl, OldK.of_keep fun b o e => ?_, os, bare⟩
    rcases only b with z | ⟨ob, xs, z⟩
    · exact un.keep b o e z (by simp [frs]) (by simp)
    · obtain ⟨e1, _⟩ := ok b _ z
      obtain ⟨e2, _⟩ := ok2 b _ (un.frzs b ob _ z)
      rw [e1] at e
      cases e
      exact e2
theorem law_at (kin : K.In t.heap) (gl : t.heap.Ns mainGlobals mg) (bl : t.heap.Ns builtinsNs mb) (bb : ∀ x : Str, x ≠ "__name__" → mb x = bootBuiltins x) (nl : t.heap.NoLimit) (gn : t.gens = #[])
    (at_ : t.heap.get? p = some { cls := .type "list", data := .seq us.toArray }) (isInts : IntsAre us ns) (few : ns.length ≤ sizeLine) (room : Room k callerA) (F : ∀ base : Heap, K.In base → base.Ns mainGlobals mg → FnG P w K mg base (L2.CX P w) k f sp)
    (want : ∀ H : Hp, Only H → SqL K H p (ns.map V.int) → sp [.ref p] H (fun v _ => v = .bl true) fun _ _ _ => False) : codeAny (model P w) callerA (.call (.ref f) ⟨[.ref p], []⟩) (Told t) t := by
  have rel := vals_ints isInts
  have len := isInts.length
  by_cases hk : K.lookup p = none
  · generalize ho : (HO.frz { cls := .type "list", data := .seq us.toArray } (.lst (ns.map V.int))) = o
    have here : (fun b => if b = p then some o else none : Hp) p = some o := if_pos rfl
    have away : ∀ b, b ≠ p → (fun b => if b = p then some o else none : Hp) b = none := fun b z => if_neg z
    generalize (fun b => if b = p then some o else none : Hp) = H at here away
    have only : Only H := fun b => by
      by_cases z : b = p
      · exact .inr ⟨_, _, by rw [z, here, ← ho]⟩
      · exact .inl (away b z)
    refine core_at kin gl bl bb nl gn at_ room F only (want H only (.inl (.inr ⟨_, by rw [here, ← ho]⟩))) (fun b u z => ?_) (fun b z => ?_) fun _ => hk
    · by_cases e : b = p
      · subst e
        rw [here, ← ho] at z
        cases z
        exact ⟨at_, by rw [List.length_map]; exact few, us, _, rel, at_⟩
      · rw [away b e] at z
        cases z
    · by_cases e : b = p
      · exact e
      · exact absurd (away b e) z
  · obtain ⟨o, hk⟩ : ∃ o, K.lookup p = some o := by
      cases z : K.lookup p with
      | none => exact absurd z hk
      | some o => exact ⟨o, rfl⟩
    have e := kin p o hk
    rw [at_] at e
    cases e
    have only : Only (fun _ => none) := fun _ => .inl rfl
    refine core_at kin gl bl bb nl gn at_ room F only (want _ only (.inr ⟨_, us.toArray, _, hk, rfl, rfl, rfl, by rw [List.size_toArray, len]; exact few, by simpa using rel⟩)) (fun b u z => by cases (show (none : Option HO) = some u from z)) (fun b z => absurd rfl z) fun z => absurd rfl z
end
/-- the end over a head by facts -/
theorem walk_G {l : PySem.W.OpenLaw} {n k : Nat} {q : Program} {loose : List Str} {XP : (Str → Option Value) → Heap → Prop} {YP : World → Heap → Prop} {d : DefRec} (hn : l.most = some n) (hz : n ≤ sizeLine) (hd : d.params.defaults = []) (room : Room k callerA)
    (F : ∀ (w : World) (mg : Str → Option Value) (f : Addr) (h : Heap), YP w h → h.Ns mainGlobals mg → mg d.name = some (.ref f) →
      ∃ (K : PySem.W.Frag) (sp : Sp), K.In h ∧ (∀ (H : Hp) (p : Addr) (ns : List Int), ns.length ≤ n → Only H → SqL K H p (ns.map V.int) → sp [.ref p] H (fun v _ => v = .bl true) fun _ _ _ => False) ∧
        ∀ base : Heap, K.In base → base.Ns mainGlobals mg → FnG l.prog w K mg base (L2.CX l.prog w) k f sp) : PySem.W.WalkO q loose XP YP l.row.toRowW d [] (fun f vs => PySem.call f vs) := by
  refine Att.attach_call hn hd fun w t0 t mg mb f o pm cd doc p us ns G Y ho hf hcd hmg hobj hints hlen hg => ?_
  obtain ⟨K, sp, kin, want, hF⟩ := F w mg f _ Y G.T.g hmg
  exact law_at kin G.T.g G.T.b G.T.builtins G.T.nolimit hg hobj hints (Nat.le_trans hlen hz) room hF fun H only rd => want H p ns hlen only rd
end My

set_option maxRecDepth 100000
set_option maxHeartbeats 4000000
/-! own errors over a built-in one: def __init__(self, a): super().__init__(a); self.f = a -/
namespace Ox
open PySem PySem.W PySem.Calls PyProof.Rows PySem.Spec Builtin Builtin.ObjectAttr
/-- the chain above a base, what the machine knows of it -/
structure Chain (B newId initId : String) (tl : List Value) : Prop where
  made : ExcBaseFacts B newId initId tl
  kx : KxsFacts B initId
  st : StoreFacts B tl "object.__setattr__" "object"
theorem chain_VE : Chain "ValueError" "ValueError.__new__" "ValueError.__init__" [.type "ValueError", .type "Exception", .type "BaseException", .type "object"] := ⟨F.excBase_ValueError, kxs_ValueError, F.store_ValueError⟩
theorem chain_OE : Chain "OverflowError" "OverflowError.__new__" "OverflowError.__init__" [.type "OverflowError", .type "ArithmeticError", .type "Exception", .type "BaseException", .type "object"] := ⟨F.excBase_OverflowError, kxs_OverflowError, F.store_OverflowError⟩
/-- the text of such a def -/
structure IText (params : Arguments) (body : List Stmt) (scope : Scope) (a f : Str) : Prop where
  pa : ∃ p q, params = { posonlyargs := [], args := [{ arg := "self", annotation := none, pos := p }, { arg := a, annotation := none, pos := q }], vararg := none, kwonlyargs := [], kw_defaults := [], kwarg := none, defaults := [] }
  bo : ∃ p0 p1 p2 p3 p4 p5 q1 q2 q3 q4, body = [.Expr (.Call (.Attribute (.Call (.Name "super" p0) [] [] p1) "__init__" p2) [.Name a p3] [] p4) p5, .Assign [.Attribute (.Name "self" q1) f q2] (.Name a q3) q4] ∧ (p2.endLine == p4.line) = true
  su : scope.names.lookup ("super" : Str) = some .globalImplicit
  cl : scope.names.lookup ("__class__" : Str) = some .free
  se : scope.names.lookup ("self" : Str) = some .local
  ar : scope.names.lookup a = some .local
  no : ∀ x ∈ scope.names, x.2 ≠ .cell
  kd : scope.kind = .function
  co : scope.isCoroutine = false
  ge : scope.isGenerator = false
  ne : (a == ("__debug__" : Str)) = false
  na : a ≠ "self"
/-- what the written part says of such a class -/
structure XTxt (P : Program) (K : Frag) (C : Addr) (f : Str) (newId initId B : String) (tl : List Value) : Prop where
  cls : ∃ nm q N bs sn sub ab col dd k0 k1 k2 k3 k5, K.lookup C = some (excClassObj nm q C N bs tl true sn sub ab col dd k0 k1 k2 k3 k5 newId)
  sa : findIn K (.ref C) "__setattr__" = some (some (.builtin "object.__setattr__"))
  ga : findIn K (.ref C) "__getattribute__" = some (some (.builtin "BaseException.__getattribute__"))
  gg : findIn K (.ref C) "__getattr__" = some none
  noN : findIn K (.ref C) f = some none
  init : ∃ fI, findIn K (.ref C) "__init__" = some (some (.ref fI)) ∧ typeIn K (.ref fI) = some (.type "function") ∧
    ∃ (oc : Value) (od : Option Addr) (nm qual : Str) (params : Arguments) (body : List Stmt) (scope : Scope) (kV doc pm : Value) (an : Option Addr) (cda : Addr) (ct : Value) (osl : Array (Option Value)) (cc : Addr) (a : Str),
      K.lookup fI = some ⟨oc, od, .func (ksFn nm qual params body scope .none kV doc pm an (.ref cda) ct cc), osl⟩ ∧ codeIn K (.ref cda) qual = true ∧ IText params body scope a f ∧ (∀ u v : Value, bindArgs (ksFn nm qual params body scope .none kV doc pm an (.ref cda) ct cc) ⟨[u, v], []⟩ = pure [(Str.ofString "self", u), (a, v)]) ∧
      (∃ cl cld csl, K.lookup cc = some ⟨cl, cld, .cell (some (.ref C)), csl⟩) ∧ ∃ ccl cdd vs ccs file tf, K.lookup cda = some ⟨ccl, cdd, .fields vs, ccs⟩ ∧ vs[2]? = some (.str file tf) ∧ ((P.main.file : Str) == file) = true
  kC : keepIn K (.ref C) = true
  exC : subIn K (.ref C) (.type "BaseException") = some true
  subB : subIn K (.ref C) (.type B) = some true
  tyC : typeIn K (.ref C) = some (.type "type")
  hdC : hasDictIn K C = true
  te : exmOne K (.ref C) (.ref C) = some true
  selfC : mroIn K C (.ref C) = some true
  sup : ks_superIn K C C "__init__" = some (some (.builtin initId))
  any : nsIn K cStatics "thirdparty.any" = some none
  nosup : nsIn K mainGlobals "super" = some none
  top : (P.main.scope.names.lookup ("super" : Str)).isSome = false
/-- what __init__ leaves of a fresh exception at x -/
structure Left (h h' : Heap) (x C dx t1 : Addr) (f : Str) (v : Value) : Prop where
  keep : ∀ b o, b ≠ x → h.get? b = some o → h'.get? b = some o
  obj : h'.get? x = some { cls := .ref C, dict := some dx, data := .fields #[.ref t1, .none, .none, .none, .bool false, .none] }
  big : h.objs.size ≤ dx
  ne : dx ≠ x
  ns : h'.Ns1 dx (fun y => if y = f then some v else none)
section
variable {prog : Program} {w : World} {A : Around} {E : Value → Shared → Prop} {R : Result → Shared → Prop} {K : Frag} {C : Addr} {f : Str} {newId initId B : String} {tl : List Value}
/-- self.f = v: the first field -/
theorem put_first (ch : Chain B newId initId tl) {hp : Heap} {g : Array GenState} {d : Drawn} {t : Nat} {os : OsState} {name : Str} {tk : Tok} {v : Value} {x : Addr} {fv : Array Value} {cd : ClassData}
    (X : K.In hp) (hx : hp.get? x = some { cls := .ref C, data := .fields fv }) (hcd : clsIn K C = some cd) (hm : cd.mro = .ref C :: tl) (hh : cd.hasDict = true) (ha : findIn K (.ref C) name = some none)
    (hq : ∀ h' tk' dx, (∀ b o, b ≠ x → hp.get? b = some o → h'.get? b = some o) → hp.objs.size ≤ dx → dx ≠ x → h'.get? x = some { cls := .ref C, dict := some dx, data := .fields fv } →
      h'.Ns1 dx (fun y => if y = name then some v else none) → R (.ok (.ret .none)) ⟨h', g, d, tk', os⟩) :
    codeAny (model prog w) A (.call (.builtin "object.__setattr__") ⟨[.ref x, .str name tk, v], []⟩) R ⟨hp, g, d, t, os⟩ := by
  have inst : InstAt hp x { cls := .ref C, data := .fields fv } C none := ⟨hx, rfl, rfl, trivial⟩
  have apart : x ≠ hp.objs.size := Nat.ne_of_lt (Heap.lt_size hx)
  have SF := ch.st
  have has : (Value.ref C :: tl).contains (.type "object") = true := by
    rw [List.contains_cons, SF.hasOwner, Bool.or_true]
  have mro : mroIn K C (.type "object") = some true := by
    unfold mroIn
    rw [hcd, Option.bind_some, hm, if_neg (by simp), has]
  have sub : Looks (model prog w) hp (isInstance (.ref x) (.type "object")) true := inst.type.andThen (looks_mroIn X mro)
  refine codeAny_call_builtin SF.slot.plain SF.entry (@check_slot (model prog w) _ _ ⟨hp, g, d, t, os⟩ "object.__setattr__" "object" "__setattr__" (.ref x) [.str name tk, v] [] _ SF.kind SF.split sub (SF.args (.ref x) (.str name tk) v) ?_)
  have lm : Looks (model prog w) hp (mroOf (.ref C)) cd.mro := (looks_clsIn X hcd).andThen .now
  have l3 : Looks (model prog w) hp (storeTaker? none) none := .now
  have pass : refuseLoop (.ref x) "__setattr__" cd.mro = pure () := by
    rw [hm, refuseLoop_ref]
    exact SF.passes _
  rw [osa_eq, refuse_eq]
  refine wpAny_bind (wpAny_bind (inst.type.at (wpAny_bind (lm.at ?_))))
  rw [pass]
  refine wpAny_pure (wpAny_bind (inst.type.at (wpAny_bind ((looks_findIn X ha).at (wpAny_bind (l3.at ?_))))))
  have hcls : Looks (model prog w) hp (classData C) cd := looks_clsIn X hcd
  show wpAny _ _ (storeInOwnDict (.ref x) (.ref C) (.str name tk) name v false) _ _ _
  obtain ⟨nm, bs, mro', ns, qn, hd, sn, sb, ab, col, del⟩ := cd
  dsimp only at hh
  subst hh
  unfold storeInOwnDict ownDictForStores
  repeat (first | with_reducible refine HandSPX.store_in_new ?_ ?_ | with_reducible refine wpAny_loadPart_at hx ?_ | with_reducible refine hcls.at ?_ | wp_step)
  · exact ⟨_, #[], _, (Heap.get?_update_ne _ _ _ _ apart.symm).trans (Heap.get?_push_at rfl rfl), rfl, fun e he => absurd he (by simp), fun _ => rfl⟩
  · intro h' tk' hn' hs
    have hx1 : (hp.push { cls := .type "dict", data := .dict #[] }).get? x = some { cls := .ref C, data := .fields fv } := Heap.get?_push_of_some _ hx
    refine hq h' tk' hp.objs.size (fun b o hb ho => ?_) (Nat.le_refl _) apart.symm ?_ hn'
    · exact (hs.2 b (Nat.ne_of_lt (Heap.lt_size ho))).trans ((Heap.get?_update_ne _ _ _ _ hb).trans (Heap.get?_push_of_some _ ho))
    · exact (hs.2 x apart).trans (Heap.get?_update_self _ hx1 rfl)
theorem ldV {M : Model} {s : Shared} {qual : Str} {scope : Scope} {L a : Addr} {cd : Value} {cc : Addr} {m : Str → Option Value} {x : Str} {pos : Pos} {v : Value} {Q : Value → Shared → Prop} {A : Around} {E : Value → Shared → Prop} (hn : s.heap.Ns L m) (hv : m x = some v) (hl : scope.names.lookup x = some .local) (hk : scope.kind = .function)
    (hd : (x == ("__debug__" : Str)) = false) (h : Q v s) : wpAny M A (eval (.Name x pos) (ksEnv qual scope L a cd cc)) Q E s := wpAny_Name (wpAny_loadName_local hk hl hn hv h) hd
theorem super_eq {p0 p1 p2 p3 p4 : Pos} {a : Str} {env : Env} (hli : (p2.endLine == p4.line) = true) :
    eval (.Call (.Attribute (.Call (.Name "super" p0) [] [] p1) "__init__" p2) [.Name a p3] [] p4) env = (do
      let ov ← attributeBase (.Call (.Name "super" p0) [] [] p1) "__init__" env (eval (.Call (.Name "super" p0) [] [] p1) env)
      standAt p2.atName
      let __x ← holding [ov] (getMethod ov "__init__" (do
        let __do_lift ← importBound (.Call (.Name "super" p0) [] [] p1) env
        pure (__do_lift.getD true)))
      match __x with
        | (f, first) => callWith p4 f first (backTo p4 (starEach [.Name a p3] env)) []) := by
  rw [arm_eval_Call]
  have hm : methodCallPos true (.Call (.Name "super" p0) [] [] p1) env p2 p4 = pure p4 := by
    unfold methodCallPos
    rw [hli]
    rfl
  have hm2 : ∀ ov, methodCall (.Call (.Name "super" p0) [] [] p1) "__init__" p2 p4 env ov ([Expr.Name a p3].length + ([] : List Keyword).length) (backTo p4 (starEach [.Name a p3] env)) (backToKw p4 (keywordEach [] env)) = (do
      let __x ← holding [ov] (getMethod ov "__init__" (do
        let __do_lift ← importBound (.Call (.Name "super" p0) [] [] p1) env
        pure (__do_lift.getD true)))
      match __x with
        | (f, first) => callWith p4 f first (backTo p4 (starEach [.Name a p3] env)) []) := by
    intro ov
    show (do
      let __x ← holding [ov] (getMethod ov "__init__" (do
        let __do_lift ← importBound (.Call (.Name "super" p0) [] [] p1) env
        pure (__do_lift.getD true)))
      match __x with
        | (f, first) => do
          let callPos ← methodCallPos true (.Call (.Name "super" p0) [] [] p1) env p2 p4
          callWith callPos f first (backTo p4 (starEach [.Name a p3] env)) []) = _
    rw [hm]
    rfl
  simp only [hm2]
/-- super().__init__(..), the built-in one bound to x, called -/
theorem bound_run (ch : Chain B newId initId tl) {hh : Heap} {g : Array GenState} {d : Drawn} {t : Nat} {os : OsState} {u x t0 : Addr} {rest : List Value} {Q : Value → Shared → Prop} {nm q : Str} {N : Addr} {bs : List Value} {sn : List Str} {sub : List Value} {ab : Bool} {col : Option Bool} {dd : Option Addr} {k0 k1 k2 k3 k5 : Option Value}
    (hC : hh.get? C = some (excClassObj nm q C N bs tl true sn sub ab col dd k0 k1 k2 k3 k5 newId)) (hu : hh.get? u = some (kxs_mw initId x)) (hx : hh.get? x = some (HandSPX.excO C t0)) (hz : rest.length ≤ sizeLine)
    (k : ∀ h', (∀ b o, b ≠ x → hh.get? b = some o → h'.get? b = some o) → h'.get? x = some (HandSPX.excO C hh.objs.size) → Q .none ⟨h', g, d, t, os⟩) : wpAny (model prog w) A (call (.ref u) rest) Q E ⟨hh, g, d, t, os⟩ := by
  refine wpAny_call (codeAny_of_tree ?_)
  show wpAny _ A.in1 (callAny (.ref u) ⟨rest, []⟩) _ _ _
  simp only [callAny]
  refine wpAny_bind (wpAny_load hu ?_)
  have m1 : (Value.type "method-wrapper" == Value.type "method" || Value.type "method-wrapper" == Value.type "builtin_function_or_method" || Value.type "method-wrapper" == Value.type "method-wrapper") = true := by decide
  simp only [kxs_mw, m1, if_true]
  refine KFB.if_so (by decide) (wpAny_bind (check_bound_init ch.made.toExcCallFacts hC hx rfl (wpAny_bind (wpAny_pure (wpAny_pure ⟨plainId_quiet ch.made.init.plain _, codeAny_builtin ch.made.initEntry ?_⟩)))))
  exact exc_init_tree (cls := .ref C) (t0 := t0) (dv := none) (c2 := .none) (c3 := .none) (b4 := .bool false) hx hz fun h' kp e _ => k h' kp e
/-- the def, called on a fresh exception -/
theorem init_run (ch : Chain B newId initId tl) (T : XTxt prog K C f newId initId B tl) {s : Shared} {mg mb : Str → Option Value} {x t0 : Addr} {v : Value} (X : K.In s.heap) (gl : s.heap.Ns mainGlobals mg) (bl : s.heap.Ns builtinsNs mb) (bb : ∀ x : Str, x ≠ "__name__" → mb x = bootBuiltins x)
    (nl : s.heap.NoLimit) (hx : s.heap.get? x = some (HandSPX.excO C t0)) (hnx : K.lookup x = none) (room : A.depth < recursionLimit) {fI : Addr} (hfI : findIn K (.ref C) "__init__" = some (some (.ref fI)))
    (hq : ∀ h' tk dx t1, Left s.heap h' x C dx t1 f v → R (.ok (.ret .none)) { s with heap := h', toks := tk }) : codeAny (model prog w) A (.call (.ref fI) ⟨[.ref x, v], []⟩) R s := by
  obtain ⟨fI', h1, h2, oc, od, nmI, qual, params, body, scope, kV, doc, pm, an, cda, ct, osl, cc, a, ho, hcd, TX, hbind, ⟨clc, cld, csl, hcell⟩, ccl, cdd, vs, ccs, file, tf, hcode, hvs, hfile⟩ := T.init
  have same := hfI.symm.trans h1
  cases same
  obtain ⟨nmC, qC, N, bs, sn, sub, ab, col, dd, k0, k1, k2, k3, k5, hC⟩ := T.cls
  have hcl : clsIn K C = some { name := nmC, bases := bs, mro := .ref C :: tl, ns := N, qualname := qC, hasDict := true, slotNames := sn, subclasses := sub, abstract := ab, collection := col, hasDel := false } := by
    unfold clsIn
    rw [hC]
  obtain ⟨pa1, pa2, hpa⟩ := TX.pa
  obtain ⟨p0, p1, p2, p3, p4, p5, q1, q2, q3, q4, hbo, hli⟩ := TX.bo
  subst hpa hbo
  refine ks_codeAny_call_defAt room (X _ _ ho) rfl nl (codeRec_of X hcd) rfl (BindsTo.of_eq (hbind _ _)) TX.no (fun y hy => ?_) (fun h1 ns1 kp1 => ?_) TX.co TX.ge TX.kd
  · simp only [List.mem_cons, List.not_mem_nil, or_false] at hy
    rcases hy with rfl | rfl
    · exact TX.se
    · exact TX.ar
  · have X1 : K.In h1 := X.keeps kp1
    have hx1 := kp1 _ _ hx
    have ma : ([(Str.ofString "self", Value.ref x), (a, v)] : List (Str × Value)).reverse.lookup a = some v := by simp [List.lookup]
    have ms : ([(Str.ofString "self", Value.ref x), (a, v)] : List (Str × Value)).reverse.lookup (Str.ofString "self") = some (.ref x) := by
      have : (Str.ofString "self" == a) = false := by simpa using Ne.symm TX.na
      simp [List.lookup, this]
    have old : s.heap.objs.size < h1.objs.size := ns1.lt
    have inst1 : InstAt h1 x (HandSPX.excO C t0) C none := ⟨hx1, rfl, rfl, trivial⟩
    obtain ⟨hh, g, d, tk, os⟩ := s
    generalize hL : (⟨hh, g, d, tk, os⟩ : Shared).heap.objs.size = L at ns1 old ⊢
    have ke : ∀ y, (ksEnv qual scope L fI (.ref cda) cc).kindOf y = scope.names.lookup y := fun _ => rfl
    refine ks_wpAt_execs_cons (ks_wpAt_Expr_any (ks_wpAt_MethodCall ?_ (super_eq hli)) ?_ ?_)
    · have hC1 := X1 _ _ hC
      refine ks_wpAt_super_base (attr := Str.ofString "__init__") (env := ksEnv qual scope L fI (.ref cda) cc) TX.su TX.cl (by decide) rfl (X1 _ _ ho) rfl rfl rfl (X1 _ _ hcode) rfl hvs hfile T.top ?_
      refine ks_loadName_global TX.kd TX.su (loadGlobal_builtin (env := ksEnv qual scope L fI (.ref cda) cc) (mg := mg) (mb := mb) ?_ (mg_none_of X gl T.nosup) ?_ ((bb _ (by decide +kernel)).trans (by rfl)) ⟨rfl, ?_⟩)
      · exact gl.keeps kp1
      · exact bl.keeps kp1
      refine wpAny_loadName_free TX.kd TX.cl rfl ⟨_, X1 _ _ hcell, rfl⟩ ?_
      refine wpAny_loadName_local TX.kd TX.se ns1 ms ?_
      refine ks_wpAny_isType_cls hC1 rfl ⟨rfl, ?_⟩
      refine ks_wpAny_call_super hC1 rfl hx1 rfl (fun c e => by cases e) (looks_mroIn X1 T.selfC) (fun h2 so kp2 => ?_)
      have X2 : K.In h2 := X1.keeps kp2
      have hx2 := kp2 _ _ hx1
      have inst2 : InstAt h2 x (HandSPX.excO C t0) C none := ⟨hx2, rfl, rfl, trivial⟩
      have hal : alongIn K (Str.ofString "__init__") tl = some (some (.builtin initId)) := by
        have z := T.sup
        unfold ks_superIn at z
        rw [hcl, Option.bind_some] at z
        simpa [List.dropWhile_cons] using z
      refine kxs_getMethod ch.kx (l₀ := .ref C :: tl) (l := tl) so (looks_opaque X2 T.any) (fun A Q E s k q => wpAny_bind ((looks_clsIn X2 hcl) A _ E s k (wpAny_pure q))) (by simp [List.dropWhile_cons]) X2 hal (inst2.type.andThen (looks_subIn X2 T.subB)) (ks_ne X2 inst2 hcl) (by decide) ?_
      have kp3 : ∀ b o, h2.get? b = some o → (h2.push (kxs_mw initId x)).get? b = some o := fun b o e => Heap.get?_push_of_some _ e
      have ns3 : (h2.push (kxs_mw initId x)).Ns L fun y => ([(Str.ofString "self", Value.ref x), (a, v)] : List (Str × Value)).reverse.lookup y := (ns1.keeps kp2).keeps kp3
      refine kxs_callWith (i := initId) (x := x) rfl (evalArgs_plain (args_cons (ldV ns3 ma TX.ar TX.kd TX.ne (args_nil ⟨Heap.get?_push_at rfl rfl, ?_⟩)) rfl))
      have hLx : L ≠ x := fun z => by
        have := Heap.lt_size hx
        rw [hL, z] at this
        exact absurd this (Nat.lt_irrefl _)
      have hx3 := kp3 _ _ hx2
      show wpAny _ _ (call (.ref h2.objs.size) [v]) _ _ _
      refine bound_run ch (kp3 _ _ (kp2 _ _ hC1)) (Heap.get?_push_at rfl rfl) hx3 (by show 1 ≤ 16777216; decide) fun h4 kp4 hx4 => ?_
      generalize h2.push (kxs_mw initId x) = h3 at *
      have ns4 : h4.Ns L fun y => ([(Str.ofString "self", Value.ref x), (a, v)] : List (Str × Value)).reverse.lookup y := ns3.at fun o q => kp4 L o hLx q
      refine wpAt_of_wpAny ?_
      show wpAny _ _ (execs _ _) _ _ _
      refine wpAny_execs_cons (plainObj_wpAny_Assign_Attribute ?_)
      refine ldV ns4 ma TX.ar TX.kd TX.ne (ldV ns4 ms TX.se TX.kd (by decide) ?_)
      have X4 : K.In h4 := fun b o e => by
        by_cases z : b = x
        · rw [z, hnx] at e
          cases e
        · exact kp4 b o z (kp3 _ _ (X2 b o e))
      refine set_plain X4 (ox := HandSPX.excO C _) (od := none) ⟨hx4, rfl, rfl, trivial⟩ T.sa ?_
      refine put_first ch X4 hx4 hcl rfl rfl T.noN fun h5 tk5 dx kp5 big ne hx5 ns5 => ?_
      show wpAny _ _ (execs _ _) _ _ _
      exact wpAny_execs_nil (hq h5 _ dx _ ⟨fun b o hb e => kp5 b o hb (kp4 b o hb (kp3 _ _ (kp2 _ _ (kp1 b o e)))), hx5, (show hh.objs.size ≤ dx from (show hh.objs.size = L from hL) ▸ Nat.le_of_lt (Nat.lt_of_lt_of_le ns4.lt big)), ne, ns5⟩)
    · unfold interactive
      show (scope.kind == _ && _) = false
      rw [TX.kd]
      rfl
    · rfl
/-- a made error -/
structure Made (h h' : Heap) (e C d : Addr) (f : Str) (v : Value) : Prop where
  keep : ∀ b o, h.get? b = some o → h'.get? b = some o
  new : h.objs.size ≤ e
  obj : ∃ oe vs, h'.get? e = some oe ∧ oe.cls = .ref C ∧ oe.dict = some d ∧ oe.data = .fields vs ∧ vs[1]? = some .none ∧ vs[2]? = some .none
  dbig : h.objs.size ≤ d
  dne : d ≠ e
  ns : h'.Ns1 d (fun y => if y = f then some v else none)
theorem made_run (ch : Chain B newId initId tl) (T : XTxt prog K C f newId initId B tl) {s : Shared} {mg mb : Str → Option Value} {v : Value} (X : K.In s.heap) (gl : s.heap.Ns mainGlobals mg) (bl : s.heap.Ns builtinsNs mb) (bb : ∀ x : Str, x ≠ "__name__" → mb x = bootBuiltins x)
    (nl : s.heap.NoLimit) (room : A.depth + 1 < recursionLimit)
    (hq : ∀ h' tk e d, Made s.heap h' e C d f v → R (.ok (.ret (.ref e))) { s with heap := h', toks := tk }) : codeAny (model prog w) A (.call (.ref C) ⟨[v], []⟩) R s := by
  obtain ⟨nmC, qC, N, bs, sn, sub, ab, col, dd, k0, k1, k2, k3, k5, hC⟩ := T.cls
  obtain ⟨fI, hfI, hty, -⟩ := T.init
  obtain ⟨hp, g, dr, tk, os⟩ := s
  have kp : ∀ b o, hp.get? b = some o → ((hp.push (kdv_tup [v])).push (HandSPX.excO C hp.objs.size)).get? b = some o := fun b o e => Heap.get?_push_of_some _ (Heap.get?_push_of_some _ e)
  have hget : ((hp.push (kdv_tup [v])).push (HandSPX.excO C hp.objs.size)).get? (hp.objs.size + 1) = some (HandSPX.excO C hp.objs.size) := by heap_get
  have hnx : K.lookup (hp.objs.size + 1) = none := by
    cases e : K.lookup (hp.objs.size + 1) with
    | none => rfl
    | some o =>
      have z : hp.get? (hp.objs.size + 1) = some o := X _ _ e
      exact absurd (Nat.lt_of_succ_lt (Heap.lt_size z)) (Nat.lt_irrefl _)
  refine HandSPX.call_own ch.made (fun X => rfl) (X _ _ hC) (looks_findIn X hfI) (fun self => bind_fn X self hty) (by show 1 ≤ sizeLine; decide) ?_
  refine init_run ch T (s := ⟨(hp.push (kdv_tup [v])).push (HandSPX.excO C hp.objs.size), g, dr, tk, os⟩) (X.keeps kp) (gl.keeps kp) (bl.keeps kp) bb (nl.keeps kp) hget hnx ?_ hfI fun h' tk' dx t1 ⟨k', hx, dn, dne, hns⟩ => ?_
  · show A.depth + 1 < recursionLimit
    exact room
  · have old : ∀ b o, hp.get? b = some o → h'.get? b = some o := fun b o e => k' b o (Nat.ne_of_lt (Nat.lt_succ_of_lt (Heap.lt_size e))) (kp b o e)
    have z : hp.objs.size + 1 + 1 ≤ dx := by
      first
        | (simpa only [Heap.size_push] using dn)
        | exact dn
        | (have q := dn; rw [Heap.size_push, Heap.size_push] at q; exact q)
    exact ⟨rfl, hq h' tk' (hp.objs.size + 1) dx ⟨old, Nat.le_succ _, ⟨_, _, hx, rfl, rfl, rfl, rfl, rfl⟩, Nat.le_trans (Nat.le_trans (Nat.le_succ _) (Nat.le_succ _)) z, dne, hns⟩⟩
end
end Ox

set_option maxRecDepth 100000
set_option maxHeartbeats 4000000
/-! errors that leave a def, with what is known of their context: none, or an exception of the ground whose own context is none (the kit's layer with contexts None alone: L2N) -/
namespace Oc
open PySem PySem.W PySem.Calls PyProof.Rows PySem.Spec L2
/-- the context of an exception: none, or one of the ground, not known of, whose context is none -/
def CtxB (B : Heap) (H : Hp) (o : Obj) : Prop := ∀ vs : Array Value, o.data = .fields vs → vs[2]? = some .none ∨
  ∃ b ob vb, vs[2]? = some (.ref b) ∧ H b = none ∧ B.get? b = some ob ∧ ob.data = .fields vb ∧ vb[2]? = some .none
def Zb (B : Heap) (H : Hp) (cls : Value) (d : Option Addr) (o : Obj) : Prop := o.cls = cls ∧ o.dict = d ∧ CtxB B H o
theorem steady_ctxB {B : Heap} {H : Hp} : PXN.Steady1 (CtxB B H) := by
  intro o v h vs e
  obtain ⟨c, dd, dt, sl⟩ := o
  cases dt with
  | fields us =>
    have e2 : us.setIfInBounds 1 v = vs := by
      have z : Data.fields (us.setIfInBounds 1 v) = .fields vs := e
      exact Data.fields.inj z
    subst e2
    have q : (us.setIfInBounds 1 v)[2]? = us[2]? := Array.getElem?_setIfInBounds_ne (by decide)
    rw [q]
    exact h us rfl
  | _ => cases e
theorem steady_Zb {B : Heap} {H : Hp} {cls : Value} {d : Option Addr} : PXN.Steady1 (Zb B H cls d) :=
  PXN.steady_and PXN.steady_cls (PXN.steady_and PXN.steady_dict steady_ctxB)
/-- what is known of the object of an error: by the ground and what is known of the heap -/
abbrev ZF := Heap → Hp → Value → Option Addr → Obj → Prop
structure ZOk (Z : ZF) : Prop where
  st : ∀ {B H cls d}, PXN.Steady1 (Z B H cls d)
  zc : ∀ {B H cls d o}, Z B H cls d o → Zc cls d o
abbrev zC : ZF := fun _ _ => Zc
abbrev zN : ZF := fun _ _ => L2N.Zn
theorem zb_ok : ZOk Zb := ⟨steady_Zb, fun h => ⟨h.1, h.2.1⟩⟩
theorem zc_ok : ZOk zC := ⟨PXN.steady_and PXN.steady_cls PXN.steady_dict, fun h => h⟩
theorem zn_ok : ZOk zN := ⟨L2N.Zn.steady, fun h => ⟨h.1, h.2.1⟩⟩
variable {Z : ZF}
def XE (Z : ZF) (X : Cx) (W : WX) (u : Value) (s' : Shared) : Prop := ∃ a B sI pins σ H cls d, u = .ref a ∧ Inv X pins σ H sI ∧ (∀ b o, sI.heap.get? b = some o → b ∉ frs X.stack → B.get? b = some o) ∧
  sI.heap.UpToSlots s'.heap ∧ Sky B X.stack a (Z B H cls d) X.env.locals s'.heap ∧ H a = none ∧ s'.os = sI.os ∧ AllBare s'.gens ∧ W cls d σ H
def CX (Z : ZF) (P : Program) (w : World) (outer : List Env) (H : Hp) (s : Shared) (E : XK) (u : Value) (s' : Shared) : Prop := ∃ a B H' cls d, u = .ref a ∧ HandSPX.FlyingZ B outer a (Z B H' cls d) s'.heap ∧
  HOk P w H' B ∧ UB (frs outer) H H' s.heap B s'.heap ∧ H' a = none ∧ s'.os = s.os ∧ AllBare s'.gens ∧ E cls d H'
def Takes (Z : ZF) (X : Cx) (W : WX) : Prop := ∀ u s', XE Z X W u s' → X.xe u s'
theorem Takes.imp {X : Cx} {W W' : WX} (t : Takes Z X W) (h : ∀ c d σ H, W' c d σ H → W c d σ H) : Takes Z X W' := by
  rintro u s' ⟨a, B, sI, pins, σ, H, cls, d, e, I, nb, up, sky, na, os, ag, w⟩
  exact t u s' ⟨a, B, sI, pins, σ, H, cls, d, e, I, nb, up, sky, na, os, ag, h _ _ _ _ w⟩
theorem XE.of_call {X : Cx} {pins : List (Addr × Obj)} {σ : L2.St} {H : Hp} {s s' : Shared} {W : WX} {E : XK} (I : Inv X pins σ H s) (hW : ∀ cls d H', E cls d H' → W cls d σ H') {u : Value} (c : CX Z X.prog X.w X.stack H s E u s') : XE Z X W u s' := by
  obtain ⟨a, B, H', cls, d, rfl, fl, hok, ub, na, os, ag, hE⟩ := c
  obtain ⟨G, g1, g2⟩ := L2.restrict s'.heap fun b => (B.get? b).isSome || decide (b ∈ frs X.stack)
  have st := fl.1
  have gB : ∀ b o, B.get? b = some o → G.get? b = some o := fun b o e => by
    rw [g1 b (by simp [e])]
    exact st b o e
  have gF : ∀ b, b ∈ frs X.stack → G.get? b = s'.heap.get? b := fun b hb => g1 b (by simp [hb])
  have og : ∀ b o, G.get? b = some o → s'.heap.get? b = some o ∧ ((B.get? b).isSome = true ∨ b ∈ frs X.stack) := fun b o e => by
    cases q : ((B.get? b).isSome || decide (b ∈ frs X.stack)) with
    | false =>
      rw [g2 b q] at e
      cases e
    | true =>
      rw [g1 b q] at e
      exact ⟨e, by simpa using q⟩
  refine ⟨a, B, ⟨G, s'.gens, s'.drawn, s'.toks, s.os⟩, pins, σ, H', cls, d, rfl, ?_, ?_, ?_, Or.inr (Or.inl fl), na, os, ag, hW _ _ _ hE⟩
  · refine Inv.call (ch := []) I ⟨fun b o e n hb _ => gB b o (ub.keep b o e n hb), fun b o e n hb _ => ?_, fun b o e n _ => ub.free b o e n, fun b o e _ => ?_, ub.tups, ub.frzs, ub.tbls⟩ (HOk.kept hok gB) ag (fun _ z => nomatch z)
    · obtain ⟨sl, q⟩ := ub.slot b o e hb
      exact ⟨sl, (gF b hb).trans q⟩
    · by_cases hb : b ∈ frs X.stack
      · obtain ⟨sl, q⟩ := ub.slot b o e hb
        exact ⟨_, (gF b hb).trans q⟩
      · obtain ⟨o', q⟩ := ub.there b o e hb
        exact ⟨o', gB b o' q⟩
  · intro b o e hb
    obtain ⟨e', h⟩ := og b o e
    rcases h with h | h
    · obtain ⟨o', q⟩ := Option.isSome_iff_exists.mp h
      have := st b o' q
      rw [e'] at this
      cases this
      exact q
    · exact absurd h hb
  · exact Heap.UpToSlots.of_keeps fun b o e => (og b o e).1
theorem passAt {X : Cx} {W : WX} (tk : Takes Z X W) (σ : L2.St) : PassesAt (CX Z X.prog X.w) X σ (WE W σ) := fun _ _ _ e s' I c => tk e s' (XE.of_call I (fun _ _ _ h => h) c)
theorem xe_c {X : Cx} {W : WX} {u : Value} {s' : Shared} : XE zC X W u s' = L2.XE X W u s' := rfl
theorem cx_c : CX zC = L2.CX := rfl
theorem xe_n {X : Cx} {W : WX} {u : Value} {s' : Shared} : XE zN X W u s' = L2N.XE X W u s' := rfl
theorem cx_n : CX zN = L2N.CX := rfl
theorem XE.leave (hZ : ZOk Z) {X : Cx} {s' : Shared} {W : WX} {E : XK} (hs : X.stack = X.env :: X.outer) (hf : X.env.frame = some X.env.locals) (hex : X.ex = []) {E₁ : Value → Shared → Prop} (hW : ∀ cls d σ H, W cls d σ H → E cls d H) {u : Value}
    (x : XE Z X W u s') : wpAny (model X.prog X.w) X.A (leaving X.env u) (fun _ s'' => CX Z X.prog X.w X.outer X.H_0 X.s_0 E u s'') E₁ s' := by
  obtain ⟨a, B, sI, pins, σ, H, cls, d, rfl, I, nb, up, sky, na, os, ag, w⟩ := x
  have hfr : X.A.frames = some (X.env :: X.outer) := I.ok.frames.trans (congrArg some hs)
  have nst : ∀ b (o : Obj), X.s_0.heap.get? b = some o → b ∉ frs X.outer → b ∉ frs X.stack := fun b o e hb hm => by
    rcases List.mem_cons.mp (L2.Inv.stkSub I b hm) with z | z
    · have h1 := Heap.lt_size e
      have h2 := I.ok.above
      rw [z] at h1
      exact absurd (Nat.lt_of_lt_of_le h1 h2) (Nat.lt_irrefl _)
    · exact hb z
  have hex' : ∀ b, b ∉ X.ex := fun b hb => by
    rw [hex] at hb
    cases hb
  have hokB := L2.Inv.inGround I nb
  have fin : ∀ h', HandSPX.FlyingZ B X.outer a (Z B H cls d) h' → s'.heap.UpToSlots h' → CX Z X.prog X.w X.outer X.H_0 X.s_0 E (.ref a) ⟨h', s'.gens, s'.drawn, s'.toks, s'.os⟩ := fun h' fl up' => by
    refine ⟨a, B, H, cls, d, rfl, fl, hokB, ⟨fun b o e n hb => nb b o (I.base.keep b o e n hb (hex' b)) (nst b o e hb), fun b o e hb => ?_, fun b o e n => I.base.free b o e n (hex' b), fun b o e hb => ?_, I.base.tups, I.base.frzs, I.base.tbls⟩, na, os.trans I.os, ag, hW _ _ _ _ w⟩
    · obtain ⟨_, o₀, e₀, hnf⟩ := Heap.FunFrames.mem I.ok.funs hb
      rw [e] at e₀
      cases e₀
      obtain ⟨sl, e1⟩ := I.base.slot b o e (I.ok.frf b hb) hb (hex' b)
      obtain ⟨sl2, e2⟩ := up b _ e1 hnf
      obtain ⟨sl3, e3⟩ := up' b _ e2 hnf
      exact ⟨sl3, e3⟩
    · obtain ⟨o', e1⟩ := I.base.there b o e (hex' b)
      exact ⟨o', nb b o' e1 (nst b o e hb)⟩
  rw [hs] at sky
  rcases sky with ⟨hB, hn, hl, oe, vs, he, hz, hd, h1⟩ | fl | hd
  · exact PXN.leaving_firstZ hZ.st hfr hl hf he hB hn hd h1 hz fin
  · exact PXN.leaves_onZ hZ.st hfr hf fl fin
  · exact HandSPX.leaves_heldZ hf hd fin
theorem takes_of (hZ : ZOk Z) {X : Cx} {E : XK} (hs : X.stack = X.env :: X.outer) (hf : X.env.frame = some X.env.locals) (hex : X.ex = []) {E₁ : Value → Shared → Prop}
    (hx : X.xe = fun e s' => wpAny (model X.prog X.w) X.A (leaving X.env e) (fun _ s'' => CX Z X.prog X.w X.outer X.H_0 X.s_0 E e s'') E₁ s') : Takes Z X fun cls d _ H => E cls d H := by
  intro u s' x
  rw [hx]
  exact XE.leave (W := fun cls d _ H => E cls d H) hZ hs hf hex (fun _ _ _ _ h => h) x
/-- knowing less of the object -/
theorem Takes.le {Z' : ZF} {X : Cx} {W : WX} (t : Takes Z X W) (h : ∀ B H cls d o, Z' B H cls d o → Z B H cls d o) : Takes Z' X W := by
  rintro u s' ⟨a, B, sI, pins, σ, H, cls, d, e, I, nb, up, sky, na, os, ag, w⟩
  refine t u s' ⟨a, B, sI, pins, σ, H, cls, d, e, I, nb, up, ?_, na, os, ag, w⟩
  rcases sky with ⟨hB, hn, hl, oe, vs, he, hz, hd, h1⟩ | fl | hd
  · exact Or.inl ⟨hB, hn, hl, oe, vs, he, h _ _ _ _ _ hz, hd, h1⟩
  · exact Or.inr (Or.inl (L2H.flyingZ_imp (fun o => h _ _ _ _ o) fl))
  · exact Or.inr (Or.inr ⟨hd.1, hd.2.1, hd.2.2.1, L2H.tracedZ_imp (fun o => h _ _ _ _ o) hd.2.2.2⟩)
theorem zn_zb {B : Heap} {H : Hp} {cls : Value} {d : Option Addr} {o : Obj} (h : L2N.Zn cls d o) : Zb B H cls d o := ⟨h.1, h.2.1, fun vs e => Or.inl (h.2.2 vs e)⟩
theorem Takes.ofC (hZ : ZOk Z) {X : Cx} {W : WX} (t : L2.Takes X W) : Takes Z X W := Takes.le (Z := zC) t fun _ _ _ _ _ h => hZ.zc h
/-- raise e: e made and new; what raiseNew does is told -/
theorem raise_by {prog : Program} {w : World} {A : Around} {E : Value → Shared → Prop} {env : Env} {s : Shared} {x : Sem Value} {Q : Flow → Shared → Prop}
    (h : wpAny (model prog w) A x (fun v s₁ => ∃ a oe vs cls, v = .ref a ∧ s₁.heap.get? a = some oe ∧ oe.cls = cls ∧ oe.data = .fields vs ∧ vs[1]? = some .none ∧ Looks (model prog w) s₁.heap (isSubtype cls (.type "BaseException")) true ∧
      Looks (model prog w) s₁.heap (typeOf cls) (.type "type") ∧ wpAny (model prog w) A (raiseNew (.ref a) : Sem Flow) Q E s₁) E s) : wpAny (model prog w) A (raiseStmt env (some x) none) Q E s := by
  show wpAny _ _ (do let xv ← x; _) _ _ _
  refine wpAny_bind (wpAny_mono h ?_ fun _ _ z => z)
  rintro v s₁ ⟨a, oe, vs, cls, rfl, ha, hcls, hd, h1, L1, L3, hn⟩
  have LT : Looks (model prog w) s₁.heap (typeOf (.ref a)) cls := fun A Q E s k q => wpAny_typeOf_ref (k a oe ha) (by rw [hcls]; exact q)
  have LI : Looks (model prog w) s₁.heap (isInstance (.ref a) (.type "BaseException")) true := Looks.andThen LT L1
  have hnt : ∀ {Q' : Bool → Shared → Prop}, Q' false s₁ → wpAny (model prog w) A (isType (.ref a)) Q' E s₁ := fun {Q'} hq => by
    refine wpAny_bind (wpAny_loadPart ha ?_)
    rw [hd]
    exact wpAny_pure hq
  refine wpAny_bind (wpAny_pure ?_)
  refine wpAny_bind (wpAny_holding ?_)
  show wpAny _ _ (excFromValue (.ref a) _) _ _ _
  unfold excFromValue isExcClass
  refine wpAny_bind (wpAny_bind (hnt ?_))
  simp only [Bool.false_eq_true, if_false]
  refine wpAny_pure (wpAny_bind (LI.here ?_))
  simp only [if_true]
  refine wpAny_pure (wpAny_bind (hnt ?_))
  simp only [Bool.false_eq_true, if_false]
  show wpAny _ _ (raisedInstance (.ref a) >>= _) _ _ _
  unfold raisedInstance
  refine wpAny_bind (wpAny_bind (LT.here (wpAny_bind (L3.here ?_))))
  rw [if_pos (beq_self_eq_true _)]
  refine wpAny_pure (wpAny_bind ?_)
  unfold setFlight
  refine wpAny_bind (wpAny_field ha hd h1 ?_)
  rw [if_neg (by decide)]
  exact wpAny_pure hn
/-- the handled error's context does not lead to the new one -/
def Quiet (M : Model) (A : Around) (E : Value → Shared → Prop) (a x1 : Addr) (s : Shared) : Prop := ∀ Q : Value → Shared → Prop, Q .none s → wpAny M A (holding [.ref a] (runValue (.builtin "proto.unchain" ⟨[.ref a, .ref x1, .ref x1, .bool false], []⟩))) Q E s
theorem raiseNew_un {prog : Program} {w : World} {A : Around} {E : Value → Shared → Prop} {s : Shared} {α : Type} {a x1 : Addr} {oe : Obj} {vs : Array Value} {Q : α → Shared → Prop} (hh : A.handled = some (.ref x1)) (un : Quiet (model prog w) A E a x1 s)
    (hne : x1 ≠ a) (ha : s.heap.get? a = some oe) (da : oe.data = .fields vs) (hi : 2 < vs.size) (hE : E (.ref a) { s with heap := s.heap.update a (Obj.mapFields fun x => x.setIfInBounds 2 (.ref x1)) }) : wpAny (model prog w) A (raiseNew (.ref a)) Q E s := by
  unfold raiseNew
  refine wpAny_bind (wpAny_handled ?_)
  rw [hh]
  have hb := HotX.ref_bne hne
  show wpAny _ _ (if (Value.ref x1 != Value.ref a) = true then _ else _) _ _ _
  rw [if_pos hb]
  exact wpAny_bind (un _ (wpAny_bind (HotX.chained ha da hi (wpAny_throw hE))))
theorem raiseNew_cold {prog : Program} {w : World} {A : Around} {E : Value → Shared → Prop} {s : Shared} {α : Type} {a : Addr} {Q : α → Shared → Prop} (hh : A.handled = none) (hE : E (.ref a) s) : wpAny (model prog w) A (raiseNew (.ref a)) Q E s := by
  unfold raiseNew
  refine wpAny_bind (wpAny_handled ?_)
  rw [hh]
  exact wpAny_throw hE
theorem quiet_one {prog : Program} {w : World} {A : Around} {E : Value → Shared → Prop} {s : Shared} {a x1 : Addr} {o1 : Obj} {v1 : Array Value} (h1 : s.heap.get? x1 = some o1) (d1 : o1.data = .fields v1) (c1 : v1[2]? = some .none) : Quiet (model prog w) A E a x1 s :=
  fun Q q => HotX.unchained h1 d1 c1 q
theorem quiet_two {prog : Program} {w : World} {A : Around} {E : Value → Shared → Prop} {s : Shared} {a x1 x2 : Addr} {o1 o2 : Obj} {v1 v2 : Array Value} (h1 : s.heap.get? x1 = some o1) (d1 : o1.data = .fields v1) (c1 : v1[2]? = some (.ref x2)) (h2 : s.heap.get? x2 = some o2) (d2 : o2.data = .fields v2) (c2 : v2[2]? = some .none) (n1 : x2 ≠ a) (n2 : x2 ≠ x1) : Quiet (model prog w) A E a x1 s := by
  intro Q q
  refine wpAny_holding (wpAny_runValue (codeAny_builtin HotX.entry_unchain ?_))
  show wpAny _ _ (Builtin.«proto.unchain» _) _ _ _
  unfold Builtin.«proto.unchain»
  refine wpAny_bind (wpAny_field h1 d1 c1 ?_)
  rw [if_neg (by simp), if_neg (by simpa using n1), if_neg (by simpa using n2)]
  refine wpAny_bind (wpAny_pure ?_)
  refine wpAny_pure ⟨plainId_quiet (by decide +kernel) _, codeAny_builtin HotX.entry_unchain ?_⟩
  show wpAny _ _ (Builtin.«proto.unchain» _) _ _ _
  unfold Builtin.«proto.unchain»
  refine wpAny_bind (wpAny_field h2 d2 c2 ?_)
  rw [if_pos (by rfl)]
  exact wpAny_pure q
/-- the makers of errors serve this knowledge -/
structure ZMk (Z : ZF) : Prop where
  zn : ∀ {B H cls d o}, L2N.Zn cls d o → Z B H cls d o
theorem zb_mk : ZMk Zb := ⟨zn_zb⟩
theorem zc_mk : ZMk zC := ⟨fun h => ⟨h.1, h.2.1⟩⟩
theorem zn_mk : ZMk zN := ⟨fun h => h⟩
theorem XE.new {X : Cx} {pins : List (Addr × Obj)} {σ : L2.St} {H : Hp} {sI s' : Shared} {W : WX} {a : Addr} {oe : Obj} {vs : Array Value} {cls : Value} {d : Option Addr} (I : Inv X pins σ H sI) (k : ∀ b o, sI.heap.get? b = some o → s'.heap.get? b = some o)
    (hne : sI.heap.get? a = none) (he : s'.heap.get? a = some oe) (hz : Z (hideAll sI.heap (frs X.stack)) H cls d oe) (hd : oe.data = .fields vs) (h1 : vs[1]? = some .none) (na : H a = none) (os : s'.os = sI.os) (ag : AllBare s'.gens) (w : W cls d σ H) : XE Z X W (.ref a) s' := by
  refine ⟨a, hideAll sI.heap (frs X.stack), sI, pins, σ, H, cls, d, rfl, I, fun b o e hb => hideAll_get (frs X.stack) e hb, Heap.UpToSlots.of_keeps k, Or.inl ⟨fun b o e => k b o (of_hideAll (frs X.stack) e), ?_, ?_, oe, vs, he, hz, hd, h1⟩, na, os, ag, w⟩
  · cases q : (hideAll sI.heap (frs X.stack)).get? a with
    | none => rfl
    | some o =>
      have z := of_hideAll (frs X.stack) q
      rw [hne] at z
      cases z
  · exact Heap.FunFrames.of_keeps (fun b o e _ => ⟨o, k b o e, rfl⟩) (L2.funFrames_none (L2.Inv.stack I) fun b hb => hideAll_none (frs X.stack) hb)
/-- raise e, nothing handled -/
theorem ps_raise (hM : ZMk Z) {X : Cx} {W : WX} {e : Expr} {t : L2.St → Hp → XK → Prop} {pos : Pos} (hc : X.calm = true) (tk : Takes Z X W) (he : L2N.PMk X e t) : PS X (.Raise (some e) none pos) (fun _ σ H => t σ H fun cls d H' => W cls d σ H') := by
  refine ⟨fun pins s σ H D I h => wpAny_bind (wpAny_standAt (raise_by (wpAny_bind (wpAny_mono (he pins s σ H (fun cls d H' => W cls d σ H') I h) (fun u s1 hu => wpAny_bind (wpAny_standAt (wpAny_pure ?_))) fun _ _ z => z))))⟩
  obtain ⟨a, oe, vs, sI, H', cls, d, rfl, J, k, hne, ha, hz, hd, h1, na, os, ag, r, q⟩ := hu
  obtain ⟨r1, r2⟩ := r (model X.prog X.w) s1.heap (J.kIn.keeps k)
  exact ⟨a, oe, vs, cls, rfl, ha, hz.1, hd, h1, r1, r2, raiseNew_cold (I.ok.hd hc) (tk _ _ (XE.new J k hne ha (hM.zn hz) hd h1 na os ag q))⟩
theorem pin_stk {X : Cx} {pins : List (Addr × Obj)} {σ : L2.St} {H : Hp} {s : Shared} (I : Inv X pins σ H s) {p : Addr × Obj} (hp : p ∈ X.pn) : p.1 ∉ frs X.stack := by
  obtain ⟨_, _, n1, n2, _⟩ := I.pin p (List.mem_append_left _ hp)
  intro hm
  rcases List.mem_cons.mp (L2.Inv.stkSub I _ hm) with z | z
  · exact n1 z
  · exact n2 z
/-- raise e within a suite; the handled error has no context -/
theorem ps_raise1 {X : Cx} {W : WX} {e : Expr} {t : L2.St → Hp → XK → Prop} {pos : Pos} (hot : L2H.HotC X) (tk : Takes Zb X W) (he : L2N.PMk X e t) : PS X (.Raise (some e) none pos) (fun _ σ H => t σ H fun cls d H' => W cls d σ H') := by
  obtain ⟨p, ⟨hh, v1, e1, c1⟩, hp⟩ := hot
  refine ⟨fun pins s σ H D I h => wpAny_bind (wpAny_standAt (raise_by (wpAny_bind (wpAny_mono (he pins s σ H (fun cls d H' => W cls d σ H') I h) (fun u s1 hu => wpAny_bind (wpAny_standAt (wpAny_pure ?_))) fun _ _ z => z))))⟩
  obtain ⟨a, oe, vs, sI, H', cls, d, rfl, J, k, hne, ha, hz, hd, h1, na, os, ag, r, q⟩ := hu
  obtain ⟨r1, r2⟩ := r (model X.prog X.w) s1.heap (J.kIn.keeps k)
  obtain ⟨P1, P2, _, _, _⟩ := J.pin p (List.mem_append_left _ hp)
  have nap : p.1 ≠ a := fun z => by
    rw [z, hne] at P1
    cases P1
  have hi : 2 < vs.size := (Array.getElem?_eq_some_iff.mp (hz.2.2 vs hd)).1
  have hd' := Obj.data_mapFields hd (fun x => x.setIfInBounds 2 (Value.ref p.1))
  refine ⟨a, oe, vs, cls, rfl, ha, hz.1, hd, h1, r1, r2, raiseNew_un hh (quiet_one (k _ _ P1) e1 c1) nap ha hd hi (tk _ _ (XE.new J (fun b u z => ?_) hne (Heap.get?_update_self _ ha (Obj.isFreed_of_fields hd')) ⟨(Obj.cls_mapFields oe _).trans hz.1, (HandSPX.dict_mapFields oe _).trans hz.2.1, ?_⟩ hd' ?_ na os ag q))⟩
  · have nab : a ≠ b := fun y => by
      rw [← y, hne] at z
      cases z
    exact (Heap.get?_update_other _ _ nab).trans (k b u z)
  · intro vs' e'
    rw [hd'] at e'
    cases e'
    refine Or.inr ⟨p.1, p.2, v1, ?_, P2, hideAll_get _ P1 (pin_stk J hp), e1, c1⟩
    rw [Array.getElem?_setIfInBounds_self, if_pos hi]
  · exact (Array.getElem?_setIfInBounds_ne (by decide)).trans h1
/-- the handled error's context has no context -/
def Hot2 (X : Cx) : Prop := ∃ p q : Addr × Obj, X.A.handled = some (.ref p.1) ∧ p ∈ X.pn ∧ q ∈ X.pn ∧ q.1 ≠ p.1 ∧ ∃ v1 v2, p.2.data = .fields v1 ∧ v1[2]? = some (.ref q.1) ∧ q.2.data = .fields v2 ∧ v2[2]? = some .none
/-- raise e within a suite; the handled error has a context at most of depth one -/
theorem ps_raise2 {X : Cx} {W : WX} {e : Expr} {t : L2.St → Hp → XK → Prop} {pos : Pos} (hot : L2H.HotC X ∨ Hot2 X) (tk : L2.Takes X W) (he : L2N.PMk X e t) : PS X (.Raise (some e) none pos) (fun _ σ H => t σ H fun cls d H' => W cls d σ H') := by
  rcases hot with hot | ⟨p, p2, hh, hp, hp2, npp, v1, v2, e1, c1, e2, c2⟩
  · exact ps_raise1 hot (Takes.ofC zb_ok tk) he
  refine ⟨fun pins s σ H D I h => wpAny_bind (wpAny_standAt (raise_by (wpAny_bind (wpAny_mono (he pins s σ H (fun cls d H' => W cls d σ H') I h) (fun u s1 hu => wpAny_bind (wpAny_standAt (wpAny_pure ?_))) fun _ _ z => z))))⟩
  obtain ⟨a, oe, vs, sI, H', cls, d, rfl, J, k, hne, ha, hz, hd, h1, na, os, ag, r, q⟩ := hu
  obtain ⟨r1, r2⟩ := r (model X.prog X.w) s1.heap (J.kIn.keeps k)
  obtain ⟨P1, _, _, _, _⟩ := J.pin p (List.mem_append_left _ hp)
  obtain ⟨P2, _, _, _, _⟩ := J.pin p2 (List.mem_append_left _ hp2)
  have nap : p.1 ≠ a := fun z => by
    rw [z, hne] at P1
    cases P1
  have nap2 : p2.1 ≠ a := fun z => by
    rw [z, hne] at P2
    cases P2
  have hi : 2 < vs.size := (Array.getElem?_eq_some_iff.mp (hz.2.2 vs hd)).1
  have hd' := Obj.data_mapFields hd (fun x => x.setIfInBounds 2 (Value.ref p.1))
  refine ⟨a, oe, vs, cls, rfl, ha, hz.1, hd, h1, r1, r2, raiseNew_un hh (quiet_two (k _ _ P1) e1 c1 (k _ _ P2) e2 c2 nap2 npp) nap ha hd hi (tk _ _ (XE.new (Z := zC) J (fun b u z => ?_) hne (Heap.get?_update_self _ ha (Obj.isFreed_of_fields hd')) ⟨(Obj.cls_mapFields oe _).trans hz.1, (HandSPX.dict_mapFields oe _).trans hz.2.1⟩ hd' ?_ na os ag q))⟩
  · have nab : a ≠ b := fun y => by
      rw [← y, hne] at z
      cases z
    exact (Heap.get?_update_other _ _ nab).trans (k b u z)
  · exact (Array.getElem?_setIfInBounds_ne (by decide)).trans h1
end Oc

set_option maxRecDepth 100000
set_option maxHeartbeats 4000000
/-! own errors in the hand layer: made, their field read, asked by isinstance, caught where the suite raises, caught by several clauses with a name -/
namespace Ow
open PySem PySem.Spec PyProof.Rows L2 Oc
theorem relO_one {f : Str} {v : V} {u : Value} (r : RelV v u) (g : Str) : RelO (List.lookup g [(f, v)]) (if g = f then some u else none) := by
  by_cases h : g = f
  · subst h
    rw [if_pos rfl]
    have e : List.lookup g [(g, v)] = some v := by simp [List.lookup]
    rw [e]
    exact r
  · rw [if_neg h]
    have e1 : (g == f) = false := by simpa using h
    have e : List.lookup g [(f, v)] = none := by simp [List.lookup, e1]
    rw [e]
    trivial
section
variable {X : Cx} {C : Addr} {f x : Str} {newId initId B : String} {tl : List Value}
theorem room1 {k : Nat} {A : Around} (r : Room k A) : A.depth + 1 < recursionLimit := by
  have := r.dp
  omega
/-- C(e), an own error -/
def tMkOx (C : Addr) (f : Str) (ta : TA) : L2.St → Hp → XK → Prop := fun σ H Q => ta σ H fun vs H1 => ∃ v, vs = [v] ∧ ∀ d, H1 d = none → Q (.ref C) (some d) (upd H1 d (.xd [(f, v)]))
theorem pmk_ox {a : Expr} {ta : TA} {p pos : Pos} (ch : Ox.Chain B newId initId tl) (T : Ox.XTxt X.prog X.K C f newId initId B tl) (hr : X.A.depth + 1 < recursionLimit) (hm : X.mg x = some (.ref C)) (ha : PA X [a] ta) (hg : Gl X x) (hdb : (x == ("__debug__" : Str)) = false := by decide)
    (he : starEach [a] X.env = (false, eval a X.env) :: starEach [] X.env := by rfl) (hpl : (backTo pos (starEach [] X.env)).any (·.1) = false := by rfl) : L2N.PMk X (.Call (.Name x p) [a] [] pos) (tMkOx C f ta) := by
  intro pins s σ H Q I h
  refine wpAny_Call_Name_kw (ld_glob I hg hm ?_ hdb)
  refine PySem.W.callWith_K (h₀ := X.base) I.ok.mod.kin T.kC (thn (ha.run pos pins s σ H _ I h) fun us s1 hh => ?_) he hpl
  obtain ⟨vs, H1, I1, r1, v, ev, q1⟩ := hh
  subst ev
  refine ⟨I1.kIn, ?_⟩
  cases r1 with
  | cons rv rn =>
    rename_i u us'
    cases rn
    show wpAny _ _ (call (.ref C) [u]) _ _ _
    obtain ⟨mb, hmb, hbb⟩ := I1.mod.blt
    have lim := I1.nolimit
    obtain ⟨hp, g, dr, tk, os⟩ := s1
    refine wpAny_call (Ox.made_run ch T (v := u) I1.kIn (I1.mod.glob.keeps I1.bk) (hmb.keeps I1.bk) hbb lim hr fun h' tk' e d M => ?_)
    show L2N.MkP X pins σ Q (.ref e) ⟨h', g, dr, tk', os⟩
    obtain ⟨oe, fv, e1, e2, e3, e4, e5, e6⟩ := M.obj
    obtain ⟨G, g1, g2⟩ := restrict h' fun b => decide (b ≠ e)
    have gk : ∀ b, b ≠ e → G.get? b = h'.get? b := fun b hb => g1 b (decide_eq_true hb)
    have ge : G.get? e = none := g2 e (by simp)
    have old : ∀ b o, hp.get? b = some o → G.get? b = some o := fun b o z => (gk b (Nat.ne_of_lt (Nat.lt_of_lt_of_le (Heap.lt_size z) M.new))).trans (M.keep b o z)
    have ob : ObjOk X.prog X.w (upd H1 d (.xd [(f, v)])) G d (.xd [(f, v)]) := ⟨_, M.ns.at fun o z => (gk d M.dne).trans z, fun y => relO_one rv y⟩
    have J : Inv X pins σ (upd H1 d (.xd [(f, v)])) ⟨G, g, dr, tk', os⟩ := I1.laid (t' := tk') old M.dbig ob
    refine ⟨e, oe, fv, ⟨G, g, dr, tk', os⟩, _, .ref C, some d, rfl, J, fun b o z => ?_, ge, e1, ⟨e2, e3, fun ws hw => ?_⟩, e4, e5, ?_, rfl, I1.bare, raises_own T.exC T.tyC, q1 d (I1.hok.fresh M.dbig)⟩
    · by_cases hb : b = e
      · have z' : G.get? b = some o := z
        rw [hb, ge] at z'
        cases z'
      · exact (gk b hb).symm.trans z
    · rw [e4] at hw
      cases hw
      exact e6
    · rw [upd_ne (Ne.symm M.dne)]
      exact I1.hok.fresh M.new
/-- e.f, e the caught error at a -/
def tOxF (C a : Addr) (f : Str) (cls : Value) (d : Option Addr) (te : TE) : TE := fun σ H Q => te σ H fun x H1 => x = .ref a ∧ cls = .ref C ∧ ∃ dd v, d = some dd ∧ H1 dd = some (.xd [(f, v)]) ∧ Q v H1
theorem oxInst {P : Program} {w : World} {H : Hp} {s : Shared} {a dd : Addr} {oe : Obj} {v : V} (hok : HOk P w H s.heap) (ha : s.heap.get? a = some oe) (hz : Zc (.ref C) (some dd) oe) (hf : ∃ vs, oe.data = .fields vs) (hd : H dd = some (.xd [(f, v)])) :
    ∃ od u, PySem.W.InstAt s.heap a oe C (some od) ∧ PySem.W.lookIn f od = some (some u) ∧ RelV v u := by
  obtain ⟨mA, hns, hr⟩ : ObjOk P w H s.heap dd (.xd [(f, v)]) := hok dd _ hd
  obtain ⟨od, ho, hl⟩ := lookIn_ns hns
  have l : List.lookup f [(f, v)] = some v := by simp [List.lookup]
  obtain ⟨u, hu, ru⟩ := RelO.some_of (v := v) (o := mA f) (by rw [← l]; exact hr f)
  obtain ⟨vs, hv⟩ := hf
  exact ⟨od, u, ⟨ha, hz.1, by unfold PySem.W.notCls; rw [hv] <;> rfl, by rw [hz.2]; exact ho⟩, by rw [hl, hu], ru⟩
theorem pe_oxF {a : Addr} {oe : Obj} {cls : Value} {d : Option Addr} {e : Expr} {te : TE} {pos : Pos} (T : Ox.XTxt X.prog X.K C f newId initId B tl) (hz : Zc cls d oe) (hf : ∃ vs, oe.data = .fields vs) (hp : (a, oe) ∈ X.pn) (he : PE X e te)
    (hb : attributeBase e f X.env (eval e X.env) = eval e X.env := by rfl) : PE X (.Attribute e f pos) (tOxF C a f cls d te) := by
  refine ⟨fun pins s σ H Q I h => ?_⟩
  refine attr_of hb (thn (he.run pins s σ H _ I h) fun u s1 hh => ?_)
  obtain ⟨x, H1, I1, rx, ex, ec, dd, v, ed, ea, q⟩ := hh
  subst ex
  obtain rfl : u = Value.ref a := rx
  subst ec
  subst ed
  obtain ⟨ha, _⟩ := I1.pin (a, oe) (List.mem_append_left _ hp)
  obtain ⟨od, u, J, hu, ru⟩ := oxInst I1.hok ha hz hf ea
  exact PySem.HandSPX.exc_get I1.kIn J T.ga T.gg T.exC (PySem.W.findObj_own T.hdC T.noN rfl hu) (handed_of ru) ⟨v, H1, I1.tok _, ru, q⟩
end
/-! ### isinstance of a caught error with its own dict -/
section
variable {K : PySem.W.Frag} {x D : Addr} {ox od : Obj}
open PySem.W in
theorem classOf {prog : Program} {w : World} {A : Around} {E : Value → Shared → Prop} {s : Shared} {Q : Option Value → Shared → Prop} (c : ExcC K D) (X : K.In s.heap) (I : InstAt s.heap x ox D (some od)) (h : Q (some (.ref D)) { s with toks := s.toks + 1 }) :
    wpAny (model prog w) A (getAttr? (.ref x) "__class__") Q E s := by
  have hc : (clsIn K D).isSome = true := by
    obtain ⟨cd, e, _⟩ := any_some c.hd
    rw [e]
    rfl
  have found : findObj K D (some od) "__class__" = some (.bind (.builtin "getset_descriptor.__get__") (.builtin "object.__class__")) := findObj_data hc c.ha c.hn c.ht
  obtain ⟨hh, g, d, t, os⟩ := s
  have l0 := I.type (M := model prog w)
  have l1 := looks_findIn (M := model prog w) X c.hg
  have l2 := looks_findIn (M := model prog w) X c.hk
  have l3 := looks_find (M := model prog w) X I found
  have sb : Looks (model prog w) hh (isInstance (.ref x) (.type "BaseException")) true := l0.andThen (looks_subIn X c.hs)
  have b0 : (false && onTheHeap (Value.builtin "BaseException.__getattribute__")) = false := rfl
  have b2 : (Value.builtin "BaseException.__getattribute__" == Value.builtin "object.__getattribute__") = false := by decide +kernel
  have b1 : (onTheHeap (Value.ref D) && Value.builtin "BaseException.__getattribute__" == Value.builtin "object.__getattribute__") = false := by
    rw [b2]
    rfl
  unfold getAttr? getAttrBy? getAttrBy
  refine wpAny_bind (wpAny_mkText (wpAny_bind (wpAny_attempt (wpAny_holding (wpAny_bind (l0.at (wpAny_bind (l1.at ?_))))))))
  show wpAny _ _ (if (onTheHeap (Value.ref D) && Value.builtin "BaseException.__getattribute__" == Value.builtin "object.__getattribute__") = true then _ else _) _ _ _
  rw [b1, if_neg Bool.false_ne_true]
  unfold getAttrByItsOwn hookBefore
  refine wpAny_bind ?_
  rw [if_pos (show onTheHeap (Value.ref D) = true from rfl)]
  refine l2.at (wpAny_bind (wpAny_attempt (wpAny_holding ?_)))
  unfold callGetattribute
  rw [b0, if_neg Bool.false_ne_true]
  unfold boundAndCalled
  rw [PySem.F.excAttr_ValueError.ga.bind (.ref x)]
  refine wpAny_bind (wpAny_pure ?_)
  show wpAny _ _ (call (.builtin "BaseException.__getattribute__") [.ref x, .str "__class__" t]) _ _ _
  refine wpAny_call (codeAny_call_builtin PySem.F.excAttr_ValueError.ga.plain PySem.F.entry_bexc_ga ?_)
  refine @check_slot (model prog w) _ _ ⟨hh, g, d, t + 1, os⟩ "BaseException.__getattribute__" "BaseException" "__getattribute__" (.ref x) [.str "__class__" t] [] _ (by decide +kernel) (by decide +kernel) sb (PySem.F.args_bexc_ga (.ref x) (.str "__class__" t)) ?_
  unfold Builtin.«object.__getattribute__»
  refine wpAny_bind (wpAny_of_eq (a := ((Value.ref x : Value), [Value.str "__class__" t])) (by first | rfl | (simp only [slotArgs]; rfl)) (wpAny_bind (wpAny_pure (wpAny_bind (l0.at (wpAny_bind (l3.at ?_)))))))
  show wpAny _ _ (holding [Value.builtin "object.__class__"] (call (.builtin "getset_descriptor.__get__") [.builtin "object.__class__", .ref x, .ref D]) >>= ret) _ _ _
  refine wpAny_bind (wpAny_holding (wpAny_call (class_get (s := ⟨hh, g, d, t + 1, os⟩) (ox := ox) (od := some od) X I c.hm (wpAny_pure ?_))))
  show wpAny _ _ (handedOut (.ref D)) _ _ _
  rw [handedOut_of (v := .ref D) rfl]
  first
    | exact wpAny_pure (wpAny_pure h)
    | exact wpAny_pure h
    | exact wpAny_pure (wpAny_bind (wpAny_pure (wpAny_pure h)))
open PySem.W in
theorem kitD (c : ExcC K D) : KitX K (.ref x) (.ref D) (fun h => ∃ od, InstAt h x ox D (some od)) where
  ty := fun _ _ _ ⟨_, I⟩ => I.type
  it := fun _ _ X _ => by
    obtain ⟨cdD, hcD, _⟩ := any_some c.hd
    unfold clsIn at hcD
    split at hcD
    · rename_i c1 c2 c3 c4 ho
      exact fun A Q E s k q => by
        unfold isType loadHead
        exact wpAny_bind (wpAny_loadPart (k _ _ (X _ _ ho)) (wpAny_pure q))
    · cases hcD
  ne := fun h tp dd its n sl X htp => by
    obtain ⟨cdD, hcD, _⟩ := any_some c.hd
    refine Bool.eq_false_iff.mpr fun q => ?_
    have e : D = tp := Value.ref.inj (beq_iff_eq.mp q)
    subst e
    unfold clsIn at hcD
    split at hcD
    · rename_i c1 c2 c3 c4 ho
      have z := (X _ _ ho).symm.trans htp
      cases z
    · cases hcD
  ca := fun X ⟨_, I⟩ k => classOf c X I k
end
section
variable {X : Cx} {C : Addr} {f x : Str}
/-- isinstance(e, c), e the caught error at a with the own dict -/
def rIsO (K : PySem.W.Frag) (f : Str) (C a : Addr) (cls : Value) (d : Option Addr) : List V → Hp → VK → Prop := fun xs H Q => ∃ (c : V) (cv : Value) (b : Bool), xs = [.ref a, c] ∧ (∀ u, RelV c u → u = cv) ∧ cls = .ref C ∧ (∃ dd v, d = some dd ∧ H dd = some (.xd [(f, v)])) ∧ PySem.W.kitOne K (.ref C) cv = some b ∧ Q (.bl b) H
theorem call_isO {a : Addr} {oe : Obj} {cls : Value} {d : Option Addr} (c : ExcC X.K C) (hz : Zc cls d oe) (hf : ∃ vs, oe.data = .fields vs) (hp : (a, oe) ∈ X.pn) : CallR X (.builtin "isinstance") (rIsO X.K f C a cls d) := by
  intro pins s σ H xs us Q I r h
  obtain ⟨cc, cv, b, rfl, hcv, ec, ⟨dd, v, ed, ea⟩, e, q⟩ := h
  subst ec ed
  cases r with
  | cons rx rr =>
    cases rr with
    | cons rt rr =>
      cases rr
      cases rx
      have e1 := hcv _ rt
      subst e1
      obtain ⟨hget, _⟩ := I.pin (a, oe) (List.mem_append_left _ hp)
      obtain ⟨od, u, J, _, _⟩ := oxInst I.hok hget hz hf ea
      exact PySem.W.kia_one (kitD c) I.kIn ⟨od, J⟩ e (fun z => nomatch z) fun tk => ⟨.bl b, H, I.kept (t' := tk) fun _ _ z => z, rfl, q⟩
end
/-! ### a suite that raises; the caught error may have a context of depth one -/
section
variable {X : Cx} {pins : List (Addr × Obj)} {σ : L2.St} {H : Hp} {s : Shared}
def PinAt (X : Cx) (H : Hp) (h : Heap) (p : Addr × Obj) : Prop := h.get? p.1 = some p.2 ∧ H p.1 = none ∧ p.1 ≠ X.env.locals ∧ p.1 ∉ X.fs ∧ ∀ v, p.2.data ≠ .cell v
theorem okSuite (ok : X.Ok) (a : Addr) (pn : List (Addr × Obj)) : (L2H.suiteX X a pn).Ok := by
  obtain ⟨o1, o2, o3, o4, o5, o6, o7, o8, o9, o10, o11, o12, o13, o14, o15, o16, o17, o18⟩ := ok
  exact ⟨o1, o2, o3, o4, o5, o6, o7, o8, fun z => absurd (show false = true from z) Bool.false_ne_true, o10, o11, o12, o13, o14, o15, o16, o17, o18⟩
theorem inSuite (I : Inv X pins σ H s) (a : Addr) {pn : List (Addr × Obj)} (h : ∀ p ∈ pn, PinAt X H s.heap p) : Inv (L2H.suiteX X a pn) [] σ H s :=
  ⟨okSuite I.ok a pn, I.os, I.bare, I.base, I.loc, I.cell, I.free, I.freeC, fun p hp => h p (by rw [List.append_nil] at hp; exact hp), I.hok, I.len⟩
theorem outSuite {a : Addr} {pn pn' : List (Addr × Obj)} (I : Inv (L2H.suiteX X a pn) pn' σ H s) (ok : X.Ok) (sub : ∀ p ∈ X.pn ++ pins, p ∈ pn) : Inv X pins σ H s :=
  ⟨ok, I.os, I.bare, I.base, I.loc, I.cell, I.free, I.freeC, fun p hp => I.pin p (List.mem_append_left _ (sub p hp)), I.hok, I.len⟩
end
section
variable {X : Cx} {x : Str} {c : Value} {body suite : List Stmt} {b₀ : Stmt} {np pos pos' : Pos} {tb : WX → TS} {ts : Addr → Value → Option Addr → TS} {Wout : WX}
theorem noFr {B h : Heap} {l : List Env} {a : Addr} {o : Obj} {vs : Array Value} (ff : h.FunFrames B l) (e : h.get? a = some o) (dd : o.data = .fields vs) : a ∉ frs l := fun hm => by
  obtain ⟨_, o', e', nf⟩ := ff.mem hm
  rw [e] at e'
  cases e'
  exact nf _ dd
/-- what is known of the caught error, and what of the suite -/
def Kind (Z : ZF) (P : Cx → Prop) : Prop := (Z = zN ∧ P = L2H.HotC) ∨ (Z = Zb ∧ P = fun Y => L2H.HotC Y ∨ Hot2 Y)
theorem kindN : Kind zN L2H.HotC := .inl ⟨rfl, rfl⟩
theorem kindB : Kind Zb (fun Y => L2H.HotC Y ∨ Hot2 Y) := .inr ⟨rfl, rfl⟩
/-- try: body / except c: suite -/
def tTryB (K : PySem.W.Frag) (c : Value) (tb : WX → TS) (ts : Addr → Value → Option Addr → TS) (Wout : WX) : TS := fun D σ H => tb (wOnly K c ts Wout D) D σ H
theorem r_tryB {K : PySem.W.Frag} {c : Value} {tb : WX → TS} {ts : Addr → Value → Option Addr → TS} {Wout : WX} {D : Ends} {σ : L2.St} {H : Hp} (h : tb (wOnly K c ts Wout D) D σ H) : tTryB K c tb ts Wout D σ H := h
theorem ps_try_onlyB {Z : ZF} {P : Cx → Prop} (kind : Kind Z P) (hs : X.stack = X.env :: X.outer) (hf : X.env.frame = some X.env.locals) (hc : Names X x c) (hpa : ∀ hd : Option Value, PassesOwnAt (model X.prog X.w) (X.A.mark hd) X.A X.env X.xe) (tk : Oc.Takes Z X Wout)
    (hb : ∀ (W : WX) (pn : List (Addr × Obj)) (xe : Value → Shared → Prop), Oc.Takes Z (X.tr pn xe) W → PassesOwn (model X.prog X.w) X.A X.env xe → PSs (X.tr pn xe) body (tb W))
    (hsu : ∀ (a : Addr) (oe : Obj) (cls : Value) (d : Option Addr) (pn : List (Addr × Obj)), (a, oe) ∈ pn → Zc cls d oe → (∃ vs, oe.data = .fields vs) → (∀ (Z : ZF) (W : WX), Oc.Takes Z X W → Oc.Takes Z (L2H.suiteX X a pn) W) →
      P (L2H.suiteX X a pn) → PSs (L2H.suiteX X a pn) (b₀ :: suite) (ts a cls d)) :
    PS X (.Try body [.ExceptHandler (some (.Name x np)) none (b₀ :: suite) pos'] [] [] pos) (tTryB X.K c tb ts Wout) := by
  refine ⟨fun pins s σ H D I h => ?_⟩
  have ok := I.ok
  have hfr : X.A.frames = some (X.env :: X.outer) := ok.frames.trans (congrArg some hs)
  have hZ : ZOk Z := by
    rcases kind with ⟨rfl, _⟩ | ⟨rfl, _⟩
    · exact zn_ok
    · exact zb_ok
  refine wpAny_Try_except (wpAny_mono ((hb (wOnly X.K c ts Wout D) (X.pn ++ pins) (fun e s₁ => wpAny (model X.prog X.w) X.A (noteFrame e X.env) (fun _ s₂ => wpAny (model X.prog X.w) X.A (setFlight e none) (fun _ s₃ =>
    wpAny (model X.prog X.w) X.A (handleBy e X.env [.ExceptHandler (some (.Name x np)) none (b₀ :: suite) pos']) (SP X pins D) X.xe s₃) X.xe s₂) X.xe s₁) (fun u s' xx => ?_) PassesOwn.looking).run [] s σ H D (I.toTry _) h) (fun fl s1 hsp => ?_) (fun e s1 he => he))
  · obtain ⟨a, B, sI, pins', σ', H', cls, d, rfl, J', nb, up, sky, na, os, ag, b, hb1, hyes, hno⟩ := xx
    have J : Inv X pins σ' H' sI := J'.ofTry ok
    have sky' : Sky B (X.env :: X.outer) a (Z B H' cls d) X.env.locals s'.heap := hs ▸ sky
    show wpAny (model X.prog X.w) X.A (noteFrame (.ref a) X.env) _ _ _
    refine L2N.Sky.land hZ.st hfr hf sky' fun h3 fl3 up3 => ?_
    have J3 : Inv X pins σ' H' { s' with heap := h3 } := J.landed nb fl3.1 (up.trans up3) os ag
    obtain ⟨oe3, vs3, he3, hz3, hd3⟩ := fl3.there
    have nfr : a ∉ frs (X.env :: X.outer) := noFr fl3.2.2.1 he3 hd3
    have nL : a ≠ X.env.locals := fun z => nfr (List.mem_filterMap.mpr ⟨X.env, List.mem_cons_self, by rw [hf, z]⟩)
    have up1 : ∀ b, b ∉ frs (X.env :: X.outer) → b ≠ X.env.locals ∧ b ∉ X.fs := fun b nb => ⟨fun z => nb (List.mem_filterMap.mpr ⟨X.env, List.mem_cons_self, by rw [hf, z]⟩), fun hm => by
      obtain ⟨e, he, q⟩ := List.mem_filterMap.mp hm
      exact nb (List.mem_filterMap.mpr ⟨e, List.mem_cons_of_mem _ he, q⟩)⟩
    have S3 := J3.suite he3 hd3 na nL (up1 a nfr).2
    refine wpAny_handleBy_cons (codeAny_handlers_test ?_) (by intro q; cases q)
    have lt : PySem.W.Looks (model X.prog X.w) h3 (typeOf (.ref a)) cls := fun A Q E s k q => wpAny_typeOf_ref (k _ _ he3) (by rw [(hZ.zc hz3).1]; exact q)
    have lm := PySem.W.exm_one (M := model X.prog X.w) (J3.kIn) lt hb1
    have test : ∀ {Q : Value → Shared → Prop} {E : Value → Shared → Prop}, Q c { s' with heap := h3 } → wpAny (model X.prog X.w) (X.A.mark (some (.ref a))) (eval (.Name x np) X.env) Q E { s' with heap := h3 } := fun {Q E} q => by
      obtain ⟨g1, g2, g3 | ⟨g3, g4, g5⟩⟩ := hc
      · exact ld_glob (X := X.suite a ((a, oe3) :: (X.pn ++ pins))) S3 g1 g3 q g2
      · exact ld_blt (X := X.suite a ((a, oe3) :: (X.pn ++ pins))) S3 g1 g3 g4 q g5 g2
    refine test (lm.here ?_)
    cases b with
    | true =>
      refine codeAny_handlers_suite (HandSPX.lands_againZ fl3 fun h4 fl4 up4 => ?_)
      have J4 : Inv X pins σ' H' { s' with heap := h4 } := J.landed nb fl4.1 ((up.trans up3).trans up4) os ag
      obtain ⟨oe4, vs4, he4, hz4, hd4⟩ := fl4.there
      have pA : PinAt X H' h4 (a, oe4) := ⟨he4, na, nL, (up1 a nfr).2, fun v z => by rw [show oe4.data = .cell v from z] at hd4; cases hd4⟩
      have go : ∀ pn : List (Addr × Obj), (a, oe4) ∈ pn → (∀ p ∈ pn, PinAt X H' h4 p) → (∀ p ∈ X.pn ++ pins, p ∈ pn) → P (L2H.suiteX X a pn) →
          wpAny (model X.prog X.w) (X.A.mark (some (.ref a))) (execs (b₀ :: suite) X.env) (SP X pins D) X.xe { s' with heap := h4 } := fun pn hin hpn sub hot => by
        refine wpAny_mono ((hsu a oe4 cls d pn hin (hZ.zc hz4) ⟨_, hd4⟩ (fun Z W t u2 s2 x2 => ?_) hot).run [] _ _ H' D (inSuite J4 a hpn) (hyes rfl a na)) (fun fl s6 hsp => ?_) (fun e6 s6 z => z)
        · obtain ⟨a2, B2, sI2, pn2, σ2, H2, cls2, d2, e2, I2, nb2, up2, sky2, na2, os2, ag2, w2⟩ := x2
          exact t u2 s2 ⟨a2, B2, sI2, pins, σ2, H2, cls2, d2, e2, outSuite I2 ok sub, nb2, up2, sky2, na2, os2, ag2, w2⟩
        · cases fl with
          | ret u =>
            obtain ⟨v6, σ6, H6, S6, r6, q6⟩ := hsp
            exact ⟨_, _, _, outSuite S6 ok sub, r6, q6⟩
          | next =>
            obtain ⟨σ6, H6, S6, q6⟩ := hsp
            exact ⟨_, _, outSuite S6 ok sub, q6⟩
          | brk =>
            obtain ⟨σ6, H6, S6, q6⟩ := hsp
            exact ⟨_, _, outSuite S6 ok sub, q6⟩
          | cont =>
            obtain ⟨σ6, H6, S6, q6⟩ := hsp
            exact ⟨_, _, outSuite S6 ok sub, q6⟩
      have pO : ∀ p ∈ X.pn ++ pins, PinAt X H' h4 p := fun p hp => J4.pin p hp
      have fin : wpAny (model X.prog X.w) (X.A.mark (some (.ref a))) (execs (b₀ :: suite) X.env) (SP X pins D) X.xe { s' with heap := h4 } := by
        have one : vs4[2]? = some .none → P (L2H.suiteX X a ((a, oe4) :: (X.pn ++ pins))) → wpAny (model X.prog X.w) (X.A.mark (some (.ref a))) (execs (b₀ :: suite) X.env) (SP X pins D) X.xe { s' with heap := h4 } := fun c1 hp1 => by
          refine go ((a, oe4) :: (X.pn ++ pins)) List.mem_cons_self (fun p hp => ?_) (fun p hp => List.mem_cons_of_mem _ hp) hp1
          rcases List.mem_cons.mp hp with rfl | hp
          · exact pA
          · exact pO p hp
        have hotC : vs4[2]? = some .none → L2H.HotC (L2H.suiteX X a ((a, oe4) :: (X.pn ++ pins))) := fun c1 => ⟨(a, oe4), ⟨rfl, vs4, hd4, c1⟩, List.mem_cons_self⟩
        rcases kind with ⟨rfl, rfl⟩ | ⟨rfl, rfl⟩
        · exact one (hz4.2.2 vs4 hd4) (hotC (hz4.2.2 vs4 hd4))
        · rcases hz4.2.2 vs4 hd4 with c1 | ⟨b, ob, vb, c1, c2, c3, c4, c5⟩
          · exact one c1 (.inl (hotC c1))
          · have gb : h4.get? b = some ob := fl4.1 b ob c3
            have nbf : b ∉ frs (X.env :: X.outer) := noFr fl4.2.2.1 gb c4
            have pB : PinAt X H' h4 (b, ob) := ⟨gb, c2, (up1 b nbf).1, (up1 b nbf).2, fun v z => by rw [show ob.data = .cell v from z] at c4; cases c4⟩
            have nab : b ≠ a := fun z => by
              rw [z, fl4.2.1] at c3
              cases c3
            refine go ((a, oe4) :: (b, ob) :: (X.pn ++ pins)) List.mem_cons_self (fun p hp => ?_) (fun p hp => List.mem_cons_of_mem _ (List.mem_cons_of_mem _ hp))
              (.inr ⟨(a, oe4), (b, ob), rfl, List.mem_cons_self, List.mem_cons_of_mem _ List.mem_cons_self, nab, vs4, vb, hd4, c1, c4, c5⟩)
            rcases List.mem_cons.mp hp with rfl | hp
            · exact pA
            · rcases List.mem_cons.mp hp with rfl | hp
              · exact pB
              · exact pO p hp
      exact wpAny_mono fin (fun fl s6 hsp => by cases fl <;> exact hsp) (fun e6 s6 z => hpa (some (.ref a)) e6 s6 z)
    | false =>
      show wpAny _ X.A (handleBy (.ref a) X.env []) _ _ _
      refine wpAny_handleBy_nil ?_
      obtain ⟨k1, k2, k3, oe, vs, T, oT, ts', he, hz, hd, h1, hr⟩ := id fl3
      unfold PySem.passOn
      refine wpAny_bind (wpAny_field he hd h1 ?_)
      rw [if_neg (show ¬ ((Value.ref T == Value.none) = true) from by simp)]
      have fin : wpAny (model X.prog X.w) X.A (setFlight (.ref a) X.env.frame) (fun _ s4 => wpAny (model X.prog X.w) X.A (throw (.ref a) : Sem Flow) (SP X pins D) X.xe s4) X.xe { s' with heap := h3 } := by
        rw [hf]
        exact HandSPX.setFlight_upZ fl3 fun h4 hh4 up4 => wpAny_throw (tk _ _ ⟨a, B, sI, pins, σ', H', cls, d, rfl, J, nb, (up.trans up3).trans up4, .inr (.inr (by rw [hs]; exact hh4)), na, os, ag, hno rfl⟩)
      first
        | exact wpAny_bind (wpAny_pure (wpAny_bind fin))
        | exact wpAny_bind fin
  · cases fl with
    | ret u =>
      obtain ⟨v, σ', H', J', r, q⟩ := hsp
      exact ⟨v, σ', H', J'.ofTry ok, r, q⟩
    | next =>
      obtain ⟨σ', H', J', q⟩ := hsp
      exact wpAny_execs_nil ⟨σ', H', J'.ofTry ok, q⟩
    | brk =>
      obtain ⟨σ', H', J', q⟩ := hsp
      exact ⟨σ', H', J'.ofTry ok, q⟩
    | cont =>
      obtain ⟨σ', H', J', q⟩ := hsp
      exact ⟨σ', H', J'.ofTry ok, q⟩
end
end Ow

set_option maxRecDepth 100000
set_option maxHeartbeats 4000000
/-! several clauses with one name -/
namespace Ow
open PySem PySem.Spec PyProof.Rows L2
/-- the ends of a suite whose name goes -/
abbrev goneD (i : Nat) (D : Ends) : Ends := { nx := fun σ H => D.nx (σ.set i none) H, rt := D.rt, bk := fun σ H => D.bk (σ.set i none) H, ct := fun σ H => D.ct (σ.set i none) H }
def wAsL (K : PySem.W.Frag) (i : Nat) (Wout : WX) (D : Ends) : List (Value × (Addr → Value → Option Addr → TS)) → WX
  | [] => Wout
  | (c, ts) :: r => fun cls d σ H => ∃ b, PySem.W.exmOne K cls c = some b ∧ (b = true → ∀ a, H a = none → ts a cls d (goneD i D) (σ.set i (some (.ref a))) H) ∧ (b = false → wAsL K i Wout D r cls d σ H)
inductive HdsAs (X : Cx) (n : Str) : List ExceptHandler → List (Value × (Addr → Value → Option Addr → TS)) → Prop
  | nil : HdsAs X n [] []
  | cons {x : Str} {c : Value} {ts : Addr → Value → Option Addr → TS} {b₀ : Stmt} {suite : List Stmt} {np pos' : Pos} {hds : List ExceptHandler} {l : List (Value × (Addr → Value → Option Addr → TS))} (hc : Names X x c)
      (hsu : ∀ (a : Addr) (oe : Obj) (cls : Value) (d : Option Addr) (pn : List (Addr × Obj)), Zc cls d oe → (∃ vs, oe.data = .fields vs) → PSs (X.suite a ((a, oe) :: pn)) (b₀ :: suite) (ts a cls d)) (r : HdsAs X n hds l) :
      HdsAs X n (.ExceptHandler (some (.Name x np)) (some n) (b₀ :: suite) pos' :: hds) ((c, ts) :: l)
/-- try: body / except c1 as n: suite1 / .. -/
def tTryL (K : PySem.W.Frag) (i : Nat) (tb : WX → TS) (Wout : WX) (l : List (Value × (Addr → Value → Option Addr → TS))) : TS := fun D σ H => tb (wAsL K i Wout D l) D σ H
theorem r_tryL {K : PySem.W.Frag} {i : Nat} {tb : WX → TS} {Wout : WX} {l : List (Value × (Addr → Value → Option Addr → TS))} {D : Ends} {σ : L2.St} {H : Hp} (h : tb (wAsL K i Wout D l) D σ H) : tTryL K i tb Wout l D σ H := h
section
variable {X : Cx} {n : Str} {i : Nat} {body : List Stmt} {h₀ : ExceptHandler} {hds : List ExceptHandler} {l : List (Value × (Addr → Value → Option Addr → TS))} {pos : Pos} {tb : WX → TS} {Wout : WX}
theorem ps_try_asL (hs : X.stack = X.env :: X.outer) (hf : X.env.frame = some X.env.locals) (hN : X.N.Nodup) (hi : X.N[i]? = some n) (hln : X.env.kindOf n = some .local) (tk : L2.Takes X Wout)
    (hb : ∀ (W : WX) (pn : List (Addr × Obj)) (xe : Value → Shared → Prop), L2.Takes (X.tr pn xe) W → PassesOwn (model X.prog X.w) X.A X.env xe → PSs (X.tr pn xe) body (tb W))
    (hh : HdsAs X n (h₀ :: hds) l) : PS X (.Try body (h₀ :: hds) [] [] pos) (tTryL X.K i tb Wout l) := by
  refine ⟨fun pins s σ H D I h => ?_⟩
  have ok := I.ok
  have hfr : X.A.frames = some (X.env :: X.outer) := ok.frames.trans (congrArg some hs)
  have hloc : Loc X.env.scope n := .inl hln
  refine wpAny_Try_except (wpAny_mono ((hb (wAsL X.K i Wout D l) (X.pn ++ pins) (fun e s₁ => wpAny (model X.prog X.w) X.A (noteFrame e X.env) (fun _ s₂ => wpAny (model X.prog X.w) X.A (setFlight e none) (fun _ s₃ =>
    wpAny (model X.prog X.w) X.A (handleBy e X.env (h₀ :: hds)) (SP X pins D) X.xe s₃) X.xe s₂) X.xe s₁) (fun u s' xx => ?_) PassesOwn.looking).run [] s σ H D (I.toTry _) h) (fun fl s1 hsp => ?_) (fun e s1 he => he))
  · obtain ⟨a, B, sI, pins', σ', H', cls, d, rfl, J', nb, up, sky, na, os, ag, w⟩ := xx
    have J : Inv X pins σ' H' sI := J'.ofTry ok
    have sky' : Sky B (X.env :: X.outer) a (Zc cls d) X.env.locals s'.heap := hs ▸ sky
    show wpAny (model X.prog X.w) X.A (noteFrame (.ref a) X.env) _ _ _
    refine L2.Sky.land Zc.steady hfr hf sky' fun h3 fl3 up3 => ?_
    have J3 : Inv X pins σ' H' { s' with heap := h3 } := J.landed nb fl3.1 (up.trans up3) os ag
    obtain ⟨oe3, vs3, he3, hz3, hd3⟩ := fl3.there
    have nfr : a ∉ frs (X.env :: X.outer) := noFr fl3.2.2.1 he3 hd3
    have nL : a ≠ X.env.locals := fun z => nfr (List.mem_filterMap.mpr ⟨X.env, List.mem_cons_self, by rw [hf, z]⟩)
    have nF : a ∉ X.fs := fun hm => by
      obtain ⟨e, he, q⟩ := List.mem_filterMap.mp hm
      exact nfr (List.mem_filterMap.mpr ⟨e, List.mem_cons_of_mem _ he, q⟩)
    have S3 := J3.suite he3 hd3 na nL nF
    have go : ∀ {hds' : List ExceptHandler} {l' : List (Value × (Addr → Value → Option Addr → TS))}, HdsAs X n hds' l' → wAsL X.K i Wout D l' cls d σ' H' →
        wpAny (model X.prog X.w) X.A (handleBy (.ref a) X.env hds') (SP X pins D) X.xe { s' with heap := h3 } := by
      intro hds' l' hk
      induction hk with
      | nil =>
        intro w
        refine wpAny_handleBy_nil ?_
        obtain ⟨k1, k2, k3, oe, vs, T, oT, ts', he, hz, hd, h1, hr⟩ := id fl3
        unfold PySem.passOn
        refine wpAny_bind (wpAny_field he hd h1 ?_)
        rw [if_neg (show ¬ ((Value.ref T == Value.none) = true) from by simp)]
        have fin : wpAny (model X.prog X.w) X.A (setFlight (.ref a) X.env.frame) (fun _ s4 => wpAny (model X.prog X.w) X.A (throw (.ref a) : Sem Flow) (SP X pins D) X.xe s4) X.xe { s' with heap := h3 } := by
          rw [hf]
          exact HandSPX.setFlight_upZ fl3 fun h4 hh4 up4 => wpAny_throw (tk _ _ ⟨a, B, sI, pins, σ', H', cls, d, rfl, J, nb, (up.trans up3).trans up4, .inr (.inr (by rw [hs]; exact hh4)), na, os, ag, w⟩)
        first
          | exact wpAny_bind (wpAny_pure (wpAny_bind fin))
          | exact wpAny_bind fin
      | @cons x c ts b₀ suite np pos' hds2 l2 hc hsu r ih =>
        intro w
        obtain ⟨b, hb1, hyes, hno⟩ := w
        refine wpAny_handleBy_cons (codeAny_handlers_test ?_) (by intro q; cases q)
        have lt : PySem.W.Looks (model X.prog X.w) h3 (typeOf (.ref a)) cls := fun A Q E s k q => wpAny_typeOf_ref (k _ _ he3) (by rw [hz3.1]; exact q)
        have lm := PySem.W.exm_one (M := model X.prog X.w) (J3.kIn) lt hb1
        have test : ∀ {Q : Value → Shared → Prop} {E : Value → Shared → Prop}, Q c { s' with heap := h3 } → wpAny (model X.prog X.w) (X.A.mark (some (.ref a))) (eval (.Name x np) X.env) Q E { s' with heap := h3 } := fun {Q E} q => by
          obtain ⟨g1, g2, g3 | ⟨g3, g4, g5⟩⟩ := hc
          · exact ld_glob (X := X.suite a ((a, oe3) :: (X.pn ++ pins))) S3 g1 g3 q g2
          · exact ld_blt (X := X.suite a ((a, oe3) :: (X.pn ++ pins))) S3 g1 g3 g4 q g5 g2
        refine test (lm.here ?_)
        cases b with
        | true =>
          refine codeAny_handlers_suite_as (HandSPX.lands_againZ fl3 fun h4 fl4 up4 => ?_)
          have J4 : Inv X pins σ' H' { s' with heap := h4 } := J.landed nb fl4.1 ((up.trans up3).trans up4) os ag
          obtain ⟨oe4, vs4, he4, hz4, hd4⟩ := fl4.there
          have S4 := J4.suite he4 hd4 na nL nF
          refine store_ok (X := X.suite a ((a, oe4) :: (X.pn ++ pins))) (v := .ref a) S4 hN hi hloc rfl (fun s5 S5 => ?_) (.inr hln)
          refine wpAny_mono ((hsu a oe4 cls d (X.pn ++ pins) hz4 ⟨_, hd4⟩).run [] s5 _ H' _ S5 (hyes rfl a na)) (fun fl s6 hsp => ?_) (fun _ _ z => False.elim z)
          have off : ∀ {σ6 : L2.St} {H6 : Hp} {Q : Shared → Prop}, Inv (X.suite a ((a, oe4) :: (X.pn ++ pins))) [] σ6 H6 s6 → (∀ s7, Inv X pins (σ6.set i none) H6 s7 → Q s7) →
              wpAny (model X.prog X.w) X.A (do bindName X.env n .none; unbindBehindTheSuite X.env n pos') (fun _ s7 => Q s7) X.xe s6 := fun {σ6 H6 Q} S6 hq => gone_ok (S6.unsuite ok) hN hi hln hq
          cases fl with
          | next =>
            obtain ⟨σ6, H6, S6, q6⟩ := hsp
            exact off S6 fun s7 J7 => ⟨_, _, J7, q6⟩
          | brk =>
            obtain ⟨σ6, H6, S6, q6⟩ := hsp
            exact off S6 fun s7 J7 => ⟨_, _, J7, q6⟩
          | cont =>
            obtain ⟨σ6, H6, S6, q6⟩ := hsp
            exact off S6 fun s7 J7 => ⟨_, _, J7, q6⟩
          | ret u =>
            obtain ⟨v6, σ6, H6, S6, r6, q6⟩ := hsp
            exact off S6 fun s7 J7 => ⟨_, _, _, J7, r6, q6⟩
        | false =>
          show wpAny _ X.A (handleBy (.ref a) X.env hds2) _ _ _
          exact ih (hno rfl)
    exact go hh w
  · cases fl with
    | ret u =>
      obtain ⟨v, σ', H', J', r, q⟩ := hsp
      exact ⟨v, σ', H', J'.ofTry ok, r, q⟩
    | next =>
      obtain ⟨σ', H', J', q⟩ := hsp
      exact wpAny_execs_nil ⟨σ', H', J'.ofTry ok, q⟩
    | brk =>
      obtain ⟨σ', H', J', q⟩ := hsp
      exact ⟨σ', H', J'.ofTry ok, q⟩
    | cont =>
      obtain ⟨σ', H', J', q⟩ := hsp
      exact ⟨σ', H', J'.ofTry ok, q⟩
end
end Ow

set_option maxRecDepth 100000
set_option maxHeartbeats 4000000
/-! the head's facts of own errors, and of tables of code objects -/
namespace Hk
open PySem PySem.W PySem.Calls PyProof.Rows He He5
/-- an own error: its class, its field, the argument of __init__, the text of __init__, its base -/
structure DefE where
  cls : PySem.Str
  fld : PySem.Str
  arg : PySem.Str
  st : Stmt
  newId : String
  initId : String
  base : String
  tl : List Value
abbrev FnE : Type := Option (PySem.Str × PySem.Str × Arguments × FuncBody × Scope × Addr × Addr)
def fnE (K : Frag) (a : Addr) : FnE := match K.lookup a with
  | some ⟨_, _, .func fd, _⟩ => some (fd.name, fd.qualname, fd.params, fd.body, fd.scope, fd.globals, fd.builtins)
  | _ => none
def DefE.C (d : DefE) (K : Frag) : Addr := ga K d.cls
def DefE.f (d : DefE) (K : Frag) : Addr := ma K (ga K d.cls) "__init__"
def DefE.val (d : DefE) : FnE := some ("__init__", d.cls ++ ".__init__", L2.defArgs d.st, .stmts (L2.defBody d.st), L2.defScope d.st, mainGlobals, builtinsNs)
def clsE (K : Frag) (C : Addr) (newId : String) (tl : List Value) : Bool := match K.lookup C with
  | some ⟨.type "type", _, .cls cd, sl⟩ => (match cd.mro, sl.toList with
    | .ref C' :: bm, [_, _, _, _, some (.builtin n), _] => decide (C' = C) && (n == newId && (!cd.hasDel && (cd.hasDict && bm == tl)))
    | _, _ => false)
  | _ => false
def cellE (K : Frag) (C : Addr) : List (PySem.Str × Addr) → Bool
  | [(x, cc)] => decide (x = "__class__") && (match K.lookup cc with
    | some ⟨_, _, .cell (some (.ref C')), _⟩ => decide (C' = C)
    | _ => false)
  | _ => false
def fileE (mf : PySem.Str) (K : Frag) : Value → Bool
  | .ref c => (match K.lookup c with
    | some ⟨_, _, .fields vs, _⟩ => (match (vs[2]? : Option Value) with
      | some (.str file _) => mf == file
      | _ => false)
    | _ => false)
  | _ => false
def funE (mf : PySem.Str) (K : Frag) (C f : Addr) (q : PySem.Str) : Bool := match K.lookup f with
  | some ⟨_, _, .func fd, _⟩ => codeIn K fd.code q && (fileE mf K fd.code && (cellE K C fd.closure && (match fd.defaults with | .none => true | _ => false)))
  | _ => false
def oxB (mf : PySem.Str) (d : DefE) (K : Frag) : Bool := clsE K (d.C K) d.newId d.tl && (funE mf K (d.C K) (d.f K) (d.cls ++ ".__init__") && (eqO (findIn K (.ref (d.C K)) "__setattr__") (some (some (.builtin "object.__setattr__"))) &&
  (eqO (findIn K (.ref (d.C K)) "__getattribute__") (some (some (.builtin "BaseException.__getattribute__"))) && (eqO (findIn K (.ref (d.C K)) "__getattr__") (some none) && (eqO (findIn K (.ref (d.C K)) d.fld) (some none) &&
  (eqO (findIn K (.ref (d.C K)) "__init__") (some (some (.ref (d.f K)))) && (decide (typeIn K (.ref (d.f K)) = some (.type "function")) && (keepIn K (.ref (d.C K)) && (decide (subIn K (.ref (d.C K)) (.type "BaseException") = some true) &&
  (decide (subIn K (.ref (d.C K)) (.type d.base) = some true) && (decide (typeIn K (.ref (d.C K)) = some (.type "type")) && (hasDictIn K (d.C K) && (decide (exmOne K (.ref (d.C K)) (.ref (d.C K)) = some true) && (decide (mroIn K (d.C K) (.ref (d.C K)) = some true) &&
  (eqO (ks_superIn K (d.C K) (d.C K) "__init__") (some (some (.builtin d.initId))) && (eqO (nsIn K cStatics "thirdparty.any") (some none) && eqO (nsIn K mainGlobals "super") (some none)))))))))))))))))
theorem ox_of {P : Program} {mf : PySem.Str} {d : DefE} {K : Frag} (c : oxB mf d K = true) (e : fnE K (d.f K) = d.val) (it : Ox.IText (L2.defArgs d.st) (L2.defBody d.st) (L2.defScope d.st) d.arg d.fld)
    (hb : ∀ (kV doc pm : Value) (an : Option Addr) (cda : Addr) (ct : Value) (cc : Addr) (u v : Value), bindArgs (ksFn "__init__" (d.cls ++ ".__init__") (L2.defArgs d.st) (L2.defBody d.st) (L2.defScope d.st) .none kV doc pm an (.ref cda) ct cc) ⟨[u, v], []⟩ = pure [(Str.ofString "self", u), (d.arg, v)])
    (hf : (P.main.file : PySem.Str) = mf) (ht : (P.main.scope.names.lookup ("super" : PySem.Str)).isSome = false) : Ox.XTxt P K (ga K d.cls) d.fld d.newId d.initId d.base d.tl := by
  obtain ⟨c1, c⟩ := ba c
  obtain ⟨c2, c⟩ := ba c
  obtain ⟨c3, c⟩ := ba c
  obtain ⟨c4, c⟩ := ba c
  obtain ⟨c5, c⟩ := ba c
  obtain ⟨c6, c⟩ := ba c
  obtain ⟨c7, c⟩ := ba c
  obtain ⟨c8, c⟩ := ba c
  obtain ⟨c9, c⟩ := ba c
  obtain ⟨c10, c⟩ := ba c
  obtain ⟨c11, c⟩ := ba c
  obtain ⟨c12, c⟩ := ba c
  obtain ⟨c13, c⟩ := ba c
  obtain ⟨c14, c⟩ := ba c
  obtain ⟨c15, c⟩ := ba c
  obtain ⟨c16, c⟩ := ba c
  obtain ⟨c17, c18⟩ := ba c
  refine { cls := ?_, sa := eqO_ok c3, ga := eqO_ok c4, gg := eqO_ok c5, noN := eqO_ok c6, init := ⟨d.f K, eqO_ok c7, of_decide_eq_true c8, ?_⟩, kC := c9, exC := of_decide_eq_true c10, subB := of_decide_eq_true c11, tyC := of_decide_eq_true c12, hdC := c13, te := of_decide_eq_true c14, selfC := of_decide_eq_true c15, sup := eqO_ok c16, any := eqO_ok c17, nosup := eqO_ok c18, top := ht }
  · unfold clsE at c1
    split at c1
    · rename_i dd cd sl ho
      split at c1
      · rename_i C' bm k0 k1 k2 k3 n k5 hm hs
        obtain ⟨q1, q⟩ := ba c1
        obtain ⟨q2, q⟩ := ba q
        obtain ⟨q3, q⟩ := ba q
        obtain ⟨q4, q5⟩ := ba q
        have q1 := of_decide_eq_true q1
        have q2 := eq_of_beq q2
        have q5 := eq_of_beq q5
        obtain ⟨nm, bs, mro, ns, qn, hd, sn, sub, ab, col, del⟩ := cd
        obtain ⟨l⟩ := sl
        dsimp only at hm hs q3 q4
        subst hm hs
        have q3 : del = false := by simpa using q3
        subst q3 q4
        rw [q1, q2, q5] at ho
        exact ⟨nm, qn, ns, bs, sn, sub, ab, col, dd, k0, k1, k2, k3, k5, ho⟩
      · cases c1
    · cases c1
  · unfold funE at c2
    unfold fnE at e
    split at c2
    · rename_i oc od fd sl ho
      rw [ho] at e
      obtain ⟨n1, n2, n3, n4, n5, n6, n7, n8, n9, n10, n11, n12, n13, n14, n15⟩ := fd
      have e2 : (some (n1, n2, n3, n4, n5, n6, n15) : FnE) = some (("__init__" : PySem.Str), d.cls ++ ".__init__", L2.defArgs d.st, FuncBody.stmts (L2.defBody d.st), L2.defScope d.st, mainGlobals, builtinsNs) := e
      simp only [Option.some.injEq, Prod.mk.injEq] at e2
      obtain ⟨h1, h2, h3, h4, h5, h6, h7⟩ := e2
      subst h1 h2 h3 h4 h5 h6 h7
      obtain ⟨q1, q⟩ := ba c2
      obtain ⟨q2, q⟩ := ba q
      obtain ⟨q3, q4⟩ := ba q
      dsimp only at q1 q2 q3 q4
      unfold fileE at q2
      split at q2
      · rename_i cda
        split at q2
        · rename_i ccl cdd vs ccs hcode
          split at q2
          · rename_i file tf hvs
            unfold cellE at q3
            split at q3
            · rename_i x cc
              obtain ⟨z1, z2⟩ := ba q3
              have z1 := of_decide_eq_true z1
              subst z1
              split at z2
              · rename_i cl cld C' csl hcell
                have z2 := of_decide_eq_true z2
                subst z2
                split at q4
                · exact ⟨oc, od, _, _, _, _, _, n9, n10, n11, n12, _, n14, sl, cc, d.arg, ho, q1, it, fun u v => hb _ _ _ _ _ _ _ u v, ⟨cl, cld, csl, hcell⟩, ccl, cdd, vs, ccs, file, tf, hcode, hvs, by rw [hf]; exact q2⟩
                · cases q4
              · cases z2
            · cases q3
          · cases q2
        · cases q2
      · cases q2
    · cases c2
/-- what isinstance asks of an own error's class -/
def excCB (x : PySem.Str) (K : Frag) : Bool := eqO (findIn K (.ref (ga K x)) "__getattribute__") (some (some (.builtin "BaseException.__getattribute__"))) && (eqO (findIn K (.ref (ga K x)) "__getattr__") (some none) && (decide (subIn K (.ref (ga K x)) (.type "BaseException") = some true) &&
  (hasDictIn K (ga K x) && (eqO (findIn K (.ref (ga K x)) "__class__") (some (some (.builtin "object.__class__"))) && (eqO (specialIn K (.builtin "object.__class__") "__get__") (some (some (.builtin "getset_descriptor.__get__"))) &&
  (decide (takesIn K (.builtin "object.__class__") = some true) && decide (mroIn K (ga K x) (.type "object") = some true)))))))
theorem excC_of {x : PySem.Str} {K : Frag} (c : excCB x K = true) : L2.ExcC K (ga K x) := by
  obtain ⟨c1, c⟩ := ba c
  obtain ⟨c2, c⟩ := ba c
  obtain ⟨c3, c⟩ := ba c
  obtain ⟨c4, c⟩ := ba c
  obtain ⟨c5, c⟩ := ba c
  obtain ⟨c6, c⟩ := ba c
  obtain ⟨c7, c8⟩ := ba c
  exact ⟨eqO_ok c1, eqO_ok c2, of_decide_eq_true c3, c4, eqO_ok c5, eqO_ok c6, of_decide_eq_true c7, of_decide_eq_true c8⟩
def exmB (x y : PySem.Str) (b : Bool) (K : Frag) : Bool := decide (exmOne K (.ref (ga K x)) (.ref (ga K y)) = some b)
theorem exm_of {x y : PySem.Str} {b : Bool} {K : Frag} (c : exmB x y b K = true) : exmOne K (.ref (ga K x)) (.ref (ga K y)) = some b := of_decide_eq_true c
def kitB (x : PySem.Str) (t : String) (b : Bool) (K : Frag) : Bool := decide (kitOne K (.ref (ga K x)) (.type t) = some b)
theorem kit_of' {x : PySem.Str} {t : String} {b : Bool} {K : Frag} (c : kitB x t b K = true) : kitOne K (.ref (ga K x)) (.type t) = some b := of_decide_eq_true c
def kitCB (x y : PySem.Str) (b : Bool) (K : Frag) : Bool := decide (kitOne K (.ref (ga K x)) (.ref (ga K y)) = some b)
theorem kitC_of {x y : PySem.Str} {b : Bool} {K : Frag} (c : kitCB x y b K = true) : kitOne K (.ref (ga K x)) (.ref (ga K y)) = some b := of_decide_eq_true c
/-! tables -/
def codeAt (K : Frag) (f : Addr) : Addr := match K.lookup f with
  | some ⟨_, _, .func fd, _⟩ => (match fd.code with
    | .ref c => c
    | _ => 0)
  | _ => 0
def tabAt (K : Frag) (f : Addr) : Addr := match K.lookup (codeAt K f) with
  | some ⟨_, _, .fields vs, _⟩ => (match (vs[11]? : Option Value) with
    | some (.ref p) => p
    | _ => 0)
  | _ => 0
def emptyT (o : Option Obj) : Bool := match o with
  | some ⟨.none, none, .fields vs, sl⟩ => vs.toList.isEmpty && sl.toList.isEmpty
  | _ => false
def tabB (g : Addr → Option Obj) (K : Frag) (f : Addr) : Bool := codeHdIn K (codeAt K f) (tabAt K f) && ((K.lookup (tabAt K f)).isNone && emptyT (g (tabAt K f)))
theorem emptyT_ok {o : Option Obj} (h : emptyT o = true) : o = some { cls := .none, data := .fields #[] } := by
  unfold emptyT at h
  split at h
  · rename_i vs sl
    obtain ⟨h1, h2⟩ := ba h
    obtain ⟨l⟩ := vs
    obtain ⟨m⟩ := sl
    have h1 : l = [] := by simpa using h1
    have h2 : m = [] := by simpa using h2
    subst h1 h2
    rfl
  · cases h
/-! the Hook -/
def notTab (g : Addr → Option Obj) (a : Addr) : Bool := a == cStatics || match g a with
  | some o => (match o.cls with | .none => false | _ => true)
  | none => true
def frT (g : Addr → Option Obj) (n : Nat) : Frag := frG g ((asA g n).filter (notTab g))
abbrev AlT : Type := He.AlD × List FnE × Bool
def obsT (ck : Frag → Bool) (fn : List DefA) (es : List DefE) (tf : List (Frag → Addr)) (g : Addr → Option Obj) (K : Frag) : AlT := (obsM ck fn K, es.map (fun d => fnE K (d.f K)), tf.all fun f => tabB g K (f K))
def valT (fn : List DefA) (es : List DefE) : AlT := (valM fn, es.map DefE.val, true)
def obsTG (n : Nat) (ck : Frag → Bool) (fn : List DefA) (es : List DefE) (tf : List (Frag → Addr)) (g : Addr → Option Obj) : AlT := obsT ck fn es tf g (frT g n)
def SaysT (ck : Frag → Bool) (fn : List DefA) (es : List DefE) (tf : List (Frag → Addr)) (K : Frag) (h : Heap) : Prop := SaysM ck fn K ∧ (es.map fun d => fnE K (d.f K)) = es.map DefE.val ∧ ∀ f ∈ tf, CodeHd h (codeAt K (f K)) (tabAt K (f K)) ∧ K.lookup (tabAt K (f K)) = none ∧ h.get? (tabAt K (f K)) = some { cls := .none, data := .fields #[] } ∧ codeHdIn K (codeAt K (f K)) (tabAt K (f K)) = true
theorem says_of {n : Nat} {ck : Frag → Bool} {fn : List DefA} {es : List DefE} {tf : List (Frag → Addr)} {h : Heap} (e : obsTG n ck fn es tf h.get? = valT fn es) : ∃ K : Frag, K.In h ∧ SaysT ck fn es tf K h := by
  have kin : (frT h.get? n).In h := fun _ _ e => frG_at _ e
  have e1 : obsM ck fn (frT h.get? n) = valM fn := congrArg (fun z : AlT => z.1) e
  have e2 : (es.map fun d => fnE (frT h.get? n) (d.f (frT h.get? n))) = es.map DefE.val := congrArg (fun z : AlT => z.2.1) e
  have e3 : (tf.all fun f => tabB h.get? (frT h.get? n) (f (frT h.get? n))) = true := congrArg (fun z : AlT => z.2.2) e
  refine ⟨_, kin, e1, e2, fun f hf => ?_⟩
  have z := List.all_eq_true.mp e3 f hf
  obtain ⟨z1, z⟩ := ba z
  obtain ⟨z2, z3⟩ := ba z
  exact ⟨codeHd_of_K kin z1, by simpa using z2, emptyT_ok z3, z1⟩
def hookT (n : Nat) (ck : Frag → Bool) (fn : List DefA) (es : List DefE) (tf : List (Frag → Addr)) : PySem.W.Hook where
  α := AlT
  obs := fun s => obsTG n ck fn es tf s.heap.get?
  val := fun _ => valT fn es
  says := fun _ h => ∃ K : Frag, K.In h ∧ SaysT ck fn es tf K h
  of := fun _ _ e => says_of e
  keeps := fun _ _ _ ⟨K, hK, c1, c2, c3⟩ k => ⟨K, Frag.In.keeps hK k, c1, c2, fun f hf => by
    obtain ⟨z1, z2, z3, z4⟩ := c3 f hf
    exact ⟨codeHd_of_K (Frag.In.keeps hK k) z4, z2, k _ _ z3, z4⟩⟩
theorem obsTG_eq {n : Nat} {ck : Frag → Bool} {fn : List DefA} {es : List DefE} {tf : List (Frag → Addr)} {g : Addr → Option Obj} {s : Shared} (h : ∀ a, g a = s.heap.get? a) : obsTG n ck fn es tf g = (hookT n ck fn es tf).obs s := by
  have e : g = s.heap.get? := funext h
  rw [e] <;> rfl
theorem SaysT.err {ck : Frag → Bool} {fn : List DefA} {es : List DefE} {tf : List (Frag → Addr)} {K : Frag} {h : Heap} (c : SaysT ck fn es tf K h) (i : Nat) {d : DefE} (e : es[i]? = some d := by rfl) : fnE K (d.f K) = d.val := by
  have z : (es.map fun d => fnE K (d.f K))[i]? = (es.map DefE.val)[i]? := by rw [c.2.1]
  rw [List.getElem?_map, List.getElem?_map, e] at z
  exact Option.some.inj z
end Hk

set_option maxRecDepth 100000
set_option maxHeartbeats 4000000
/-! promises of defs that raise, by position -/
namespace My
open PySem PySem.Spec PyProof.Rows L2 Oc
/-- what leaves a def of the package -/
abbrev CXb (P : Program) (w : World) : CXT := Oc.CX Zb P w
abbrev CXn (P : Program) (w : World) : CXT := Oc.CX zN P w
section
variable {X : Cx} {E : XK} {W : WX} {Z : ZF}
theorem passZ0 : Passes (Oc.CX Z X.prog X.w) X E0 := fun _ _ _ _ _ _ _ h => by
  obtain ⟨_, _, _, _, _, _, _, _, _, _, _, _, z⟩ := h
  exact z.elim
theorem passZ (tk : Oc.Takes Z X fun cls d _ H => E cls d H) : Passes (Oc.CX Z X.prog X.w) X E := fun _ _ _ _ e s' I c => tk e s' (Oc.XE.of_call I (fun _ _ _ h => h) c)
theorem takesBN (tk : Oc.Takes Zb X W) : Oc.Takes zN X W := Oc.Takes.le tk fun _ _ _ _ _ h => zn_zb h
theorem takesCN (tk : L2.Takes X W) : Oc.Takes zN X W := Oc.Takes.ofC zn_ok tk
theorem takesCB (tk : L2.Takes X W) : Oc.Takes Zb X W := Oc.Takes.ofC zb_ok tk
theorem passC (tk : L2.Takes X fun cls d _ H => E cls d H) : Passes (L2.CX X.prog X.w) X E := fun _ _ _ _ e s' I c => tk e s' (L2.XE.of_call I (fun _ _ _ h => h) c)
theorem passAtZ (tk : Oc.Takes Z X W) (σ : L2.St) : PassesAt (Oc.CX Z X.prog X.w) X σ (WE W σ) := Oc.passAt tk σ
end
theorem cxUpZ {P : Program} {w : World} {Z : ZF} : StX.CXUp (Oc.CX Z P w) := by
  rintro outer s H s2 H2 E e s' un kp ho ⟨a, B, H', cls, d, ea, fl, hok, ub, na, os, ag, he⟩
  refine ⟨a, B, H', cls, d, ea, fl, hok, { keep := fun b o q n hb => ?_, slot := fun b o q hb => ?_, free := fun b o q n => ?_, there := fun b o q hb => ?_, tups := fun b xs q => ?_, frzs := fun b o xs q => ?_, tbls := fun b ps q => ?_ }, na, os.trans ho, ag, he⟩
  · exact ub.keep b o (kp b o q) (un.free b o q n (by simp)) hb
  · exact ub.slot b o (kp b o q) hb
  · exact ub.free b o (kp b o q) (un.free b o q n (by simp))
  · exact ub.there b o (kp b o q) hb
  · exact ub.tups b xs (un.tups b xs q)
  · exact ub.frzs b o xs (un.frzs b o xs q)
  · obtain ⟨m1, e1⟩ := un.tbls b ps q
    obtain ⟨m2, e2⟩ := ub.tbls b _ e1
    exact ⟨m1 ++ m2, by rw [e2, Array.append_assoc]⟩
section
variable {P : Program} {w : World} {K : PySem.W.Frag} {mg : Str → Option Value} {base : Heap} {CX : CXT} {k : Nat} {f : Addr} {sp : Sp} {x qual : Str} {params : Arguments} {body : List Stmt} {scope : Scope} {N ps : List Str}
/-- def f(*v) behind further parameters, whatever leaves it -/
theorem fnX_star {pv : Str} (up : StX.CXUp CX) (F : ∃ fd, FunD K x qual params body scope [] [] f fd) (S : FnScope N (ps ++ [pv]) scope)
    (hb : ∀ (kV doc pm : Value) (an : Option Addr) (cdv ct : Value) (us rest : List Value), us.length = ps.length → bindArgs (PySem.W.fnOf x qual params body scope .none kV doc pm an cdv ct) ⟨us ++ rest, []⟩ = (newTuple rest >>= fun t => pure (ps.zip us ++ [(pv, t)])))
    (hbody : ∀ (A : Around) (outer : List Env) (s : Shared) (H : Hp) (vs : List V) (Q : VK) (E : XK) (cdv : Value), Room k (A.deeper (envOfC qual scope s.heap.objs.size f cdv)) → sp vs H Q E →
      ∃ t, PSs (cxOf CX P w K mg base N qual scope f cdv A outer s H E) body t ∧ t { nx := fun _ H' => Q .non H', rt := Q } (start N vs) H) :
    FnR P w K mg base CX (k + 1) f (fun vs H Q E => ∃ ws rest, vs = ws ++ rest ∧ ws.length = ps.length ∧ rest.length ≤ sizeLine ∧ ∀ p, H p = Option.none → sp (ws ++ [V.ref p]) (upd H p (.tup rest)) Q E) := by
  obtain ⟨fd, F⟩ := F
  obtain ⟨oc, od, dV, kV, doc, pm, an, cdv, ct, osl, rfl, lk, hcd, hd, _⟩ := F.ex
  rcases hd with ⟨_, hd⟩ | ⟨hd, _⟩
  · subst hd
    exact StX.fn_star lk hcd S up (hb kV doc pm an cdv ct) fun A outer s H vs Q E hr h => hbody A outer s H vs Q E cdv hr h
  · exact absurd rfl hd
end
/-! calls within a try: the wish knows the slots -/
section
variable {X : Cx} {CX : CXT} {k : Nat} {f g C p' : Addr} {mc : Value} {sp : Sp} {W : L2.St → XK} {x m : Str} {p pos apos sp_ : Pos} {e o : Expr} {es : List Expr} {ta te : TE} {t : TA} {pins : List (Addr × Obj)} {σ : L2.St} {H : Hp} {s : Shared} {Q : VK} {us : List Value} {vs : List V} {E : XK}
theorem run_fnW (F : FnR X.prog X.w X.K X.mg X.base CX k f sp) (hr : Room k X.A) (hx : PassesAt CX X σ E) (I : Inv X pins σ H s) (r : Vals vs us) (h : sp vs H Q E) :
    codeAny (model X.prog X.w) X.A (.call (.ref f) ⟨us, []⟩) (fun r s' => match r with | .ok (.ret v) => EP X pins σ Q v s' | .ok _ => False | .error e => X.xe e s') s := by
  refine codeAny_mono (F X.A X.stack s H us vs Q E hr I.env0 r h) fun r s' hq => ?_
  cases r with
  | error e => exact hx pins H s e s' I hq
  | ok fl => cases fl with
    | ret u => exact I.after hq
    | next => exact False.elim hq
    | brk => exact False.elim hq
    | cont => exact False.elim hq
def tCallRW (sp : Sp) (W : L2.St → XK) (t : TA) : TE := fun σ H Q => t σ H fun vs H1 => sp vs H1 Q (W σ)
theorem pe_callRW (F : FnR X.prog X.w X.K X.mg X.base CX k f sp) (hr : Room k X.A) (hk : PySem.W.keepIn X.K (.ref f) = true) (hg : Gl X x) (hm : X.mg x = some (.ref f)) (hx : ∀ σ, PassesAt CX X σ (W σ)) (ha : PA X (e :: es) t) (hd : (x == ("__debug__" : Str)) = false := by decide)
    (he : starEach (e :: es) X.env = (false, eval e X.env) :: starEach es X.env := by rfl) (hst : (backTo pos (starEach es X.env)).any (·.1) = false := by rfl) :
    PE X (.Call (.Name x p) (e :: es) [] pos) (tCallRW sp W t) := by
  refine ⟨fun pins s σ H Q I h => ?_⟩
  refine wpAny_Call_Name_kw (ld_glob I hg hm ?_ hd)
  exact PySem.W.callWith_K (h₀ := X.base) I.ok.mod.kin hk (thn (ha.run pos pins s σ H _ I h) fun us s1 ⟨vs, H1, I1, r, q⟩ => ⟨I1.kIn, wpAny_call (run_fnW F hr (hx σ) I1 r q)⟩) he hst
theorem run_makeW (M : Mk X.K C f) (F : FnR X.prog X.w X.K X.mg X.base CX k f sp) (hr : Room (k + 1) X.A) (hx : PassesAt CX X σ E) (I : Inv X pins σ H s) (r : Vals vs us)
    (h : ∀ x dx, H x = Option.none → H dx = Option.none → dx ≠ x → sp (V.ref x :: vs) (upd (upd H dx (.own x)) x (.ins C dx [])) (fun v H2 => v = .non ∧ Q (.ref x) H2) E) : wpAny (model X.prog X.w) X.A (call (.ref C) us) (EP X pins σ Q) X.xe s := by
  have want := h (s.heap.objs.size + 1) s.heap.objs.size (I.hok.fresh (Nat.le_succ _)) (I.hok.fresh (Nat.le_refl _)) (Nat.ne_of_lt (Nat.lt_succ_self _))
  have J := Inv.made (C := C) I
  have rr : Vals (V.ref (s.heap.objs.size + 1) :: vs) (Value.ref (s.heap.objs.size + 1) :: us) := .cons rfl r
  refine wpAny_call (make_map (f := f) I.kIn M.makes M.init (beq_iff_eq.mp M.fn) (codeAny_mono (F _ X.stack _ _ (Value.ref (s.heap.objs.size + 1) :: us) _ _ E (hr.make C us []) (J.env0.make C us []) rr want) fun r s' z => ?_))
  cases r with
  | error e => exact hx pins _ _ e s' J z
  | ok fl =>
    cases fl with
    | ret u =>
      obtain ⟨v, H', I3, rv, ev, q3⟩ := J.after z
      subst ev
      exact ⟨rv, ⟨V.ref (s.heap.objs.size + 1), H', I3, rfl, q3⟩⟩
    | next => exact False.elim z
    | brk => exact False.elim z
    | cont => exact False.elim z
def tMakeS1W (K : PySem.W.Frag) (C : Addr) (sp : Sp) (W : L2.St → XK) (te : TE) : TE := fun σ H Q => te σ H fun y H1 => ∃ a xs, y = V.ref a ∧ (SqT K H1 a xs ∨ SqL K H1 a xs) ∧ ∀ x dx, H1 x = Option.none → H1 dx = Option.none → dx ≠ x →
  sp (V.ref x :: xs) (upd (upd H1 dx (.own x)) x (.ins C dx [])) (fun v H2 => v = .non ∧ Q (.ref x) H2) (W σ)
/-- c( *e), c a local name that holds the class, within a try -/
theorem pe_makeV1W {i : Nat} (M : Mk X.K C f) (F : FnR X.prog X.w X.K X.mg X.base CX k f sp) (hr : Room (k + 1) X.A) (hx : ∀ σ, PassesAt CX X σ (W σ)) (he : PE X e te) (hf : PE X (.Name x p) (tVar i))
    (hst : starEach [.Starred e sp_] X.env = [(true, eval e X.env)] := by rfl)
    (ht : eval (.Call (.Name x p) [.Starred e sp_] [] pos) X.env = (do callWith pos (← eval (.Name x p) X.env) [] (backTo pos (starEach [.Starred e sp_] X.env)) (backToKw pos (keywordEach [] X.env))) := by rfl) :
    PE X (.Call (.Name x p) [.Starred e sp_] [] pos) (fun σ H Q => σ[i]? = some (some (.ref C)) ∧ tMakeS1W X.K C sp W te σ H Q) := by
  refine ⟨fun pins s σ H Q I h => ?_⟩
  obtain ⟨h0, h⟩ := h
  refine Call_ (thn (hf.run pins s σ H (fun v H1 => v = .ref C ∧ H1 = H) I ⟨_, h0, rfl, rfl⟩) fun u s1 z => ?_) ht
  obtain ⟨v, H1, I1, rv, ev, eH⟩ := z
  subst ev eH
  obtain rfl : u = Value.ref C := rv
  refine PySem.W.callWith_S (h₀ := X.base) I1.ok.mod.kin M.kp (thn (he.run pins s1 σ _ _ I1 h) fun u s2 z => ?_) hst
  obtain ⟨y, H2, I2, ry, a, xs, ey, hxs, q⟩ := z
  subst ey
  obtain rfl : u = Value.ref a := ry
  exact StX.star_any I2 hxs fun us s3 I3 rv => ⟨I3.kIn, run_makeW M F hr (hx σ) I3 rv q⟩
theorem pe_makeV1WK {K : PySem.W.Frag} {i : Nat} (hK : X.K = K) (M : Mk X.K C f) (F : FnR X.prog X.w X.K X.mg X.base CX k f sp) (hr : Room (k + 1) X.A) (hx : ∀ σ, PassesAt CX X σ (W σ)) (he : PE X e te) (hf : PE X (.Name x p) (tVar i))
    (hst : starEach [.Starred e sp_] X.env = [(true, eval e X.env)] := by rfl)
    (ht : eval (.Call (.Name x p) [.Starred e sp_] [] pos) X.env = (do callWith pos (← eval (.Name x p) X.env) [] (backTo pos (starEach [.Starred e sp_] X.env)) (backToKw pos (keywordEach [] X.env))) := by rfl) :
    PE X (.Call (.Name x p) [.Starred e sp_] [] pos) (fun σ H Q => σ[i]? = some (some (.ref C)) ∧ tMakeS1W K C sp W te σ H Q) := hK ▸ pe_makeV1W M F hr hx he hf hst ht
theorem pe_bmK {K : PySem.W.Frag} {T : String} {name : Str} {id : String} {r : V → List V → Hp → VK → Prop} {to : TE} {cpos : Pos} (hK : X.K = K) (pa : PlainAttrs T) (slot : Slot T name id) (hty : typeOf (.builtin id) = pure (.type "method_descriptor")) (hm : MtR X id r) (ho : PE X o to) (ha : PA X (e :: es) t)
    (hbase : attributeBase o name X.env (eval o X.env) = eval o X.env := by rfl)
    (hfew : ((backTo cpos (starEach (e :: es) X.env)).all (fun x => !x.1) && (backToKw cpos (keywordEach [] X.env)).all (fun x => x.1.isSome) && decide ((e :: es).length + ([] : List Keyword).length + (if ([] : List Keyword).isEmpty then 0 else 1) < 30)) = true := by rfl)
    (hline : (apos.endLine == cpos.line) = true := by rfl) (hs : starEach (e :: es) X.env = (false, eval e X.env) :: starEach es X.env := by rfl) (hplain : (backTo cpos (starEach es X.env)).any (·.1) = false := by rfl) :
    PE X (.Call (.Attribute o name apos) (e :: es) [] cpos) (tBM K T r to t) := hK ▸ pe_bm pa slot hty hm ho ha hbase hfew hline hs hplain
def tCMethW (C : Addr) (sp : Sp) (W : L2.St → XK) (ta : TE) (t : TA) : TE := fun σ H Q => ta σ H fun x H1 => x = .ref C ∧ t σ H1 fun vs H2 => sp (.ref C :: vs) H2 Q (W σ)
theorem pe_cmethW {pl : Sem Bool} (he : PE X o ta) (r : ClX.CRead X.K C mc) (c : ClX.CMet X.K C mc m p' g) (F : FnR X.prog X.w X.K X.mg X.base CX k g sp) (hr : Room k X.A) (hx : ∀ σ, PassesAt CX X σ (W σ)) (ha : PA X (e :: es) t)
    (hst : starEach (e :: es) X.env = (false, eval e X.env) :: starEach es X.env := by rfl) (hpl : (backTo pos (starEach es X.env)).any (·.1) = false := by rfl)
    (ht : eval (.Call (.Attribute o m apos) (e :: es) [] pos) X.env = (do
      let ov ← eval o X.env
      standAt apos.atName
      let (f, first) ← holding [ov] (getMethod ov m pl)
      callWith pos f first (backTo pos (starEach (e :: es) X.env)) (backToKw pos (keywordEach [] X.env))) := by rfl) :
    PE X (.Call (.Attribute o m apos) (e :: es) [] pos) (tCMethW C sp W ta t) := by
  refine ⟨fun pins s σ H Q I h => PySem.W.methodCall_KW (pl := pl) (thn (he.run pins s σ H _ I h) fun u s1 ⟨x, H1, I1, rx, ex, q⟩ => ?_) ht⟩
  subst ex
  obtain rfl : u = Value.ref C := rx
  refine ClX.getmethcm_ok I1 r c fun s2 I2 => ?_
  refine ClX.callwith_cm I2 (ClX.base_none I1 (Nat.le_refl _)) c.fi (thn (ha.run pos _ s2 σ H1 _ I2 q) fun us s3 ⟨vs, H2, I3, rv, q2⟩ => ⟨⟨ClX.pin_at I3, I3.kIn⟩, ?_⟩) hst hpl
  refine thn (wpAny_call (PySem.W.method_call (ClX.pin_at I3) (run_fnW (us := .ref C :: us) (vs := .ref C :: vs) F hr (fun pins H s e s' I c => hx σ pins H s e s' I c) I3 (.cons rfl rv) q2))) fun _ _ y => ClX.unpinE y
end
/-! readings -/
section
variable {K : PySem.W.Frag} {σ : L2.St} {H : Hp} {Q : VK} {D : Ends} {te ta : TE} {tl : TA} {C : Addr} {sp : Sp} {W : L2.St → XK} {f : Str}
theorem r_callRW (h : tl σ H fun vs H1 => sp vs H1 Q (W σ)) : tCallRW sp W tl σ H Q := h
theorem r_cmethW (h : ta σ H fun x H1 => x = .ref C ∧ tl σ H1 fun vs H2 => sp (.ref C :: vs) H2 Q (W σ)) : tCMethW C sp W ta tl σ H Q := h
theorem r_makeS1W (h : te σ H fun y H1 => ∃ a xs, y = V.ref a ∧ (SqT K H1 a xs ∨ SqL K H1 a xs) ∧ ∀ x dx, H1 x = Option.none → H1 dx = Option.none → dx ≠ x →
  sp (V.ref x :: xs) (upd (upd H1 dx (.own x)) x (.ins C dx [])) (fun v H2 => v = .non ∧ Q (.ref x) H2) (W σ)) : tMakeS1W K C sp W te σ H Q := h
theorem r_mkOx {QX : XK} (h : tl σ H fun vs H1 => ∃ v, vs = [v] ∧ ∀ d, H1 d = none → QX (.ref C) (some d) (upd H1 d (.xd [(f, v)]))) : Ow.tMkOx C f tl σ H QX := h
theorem r_mk1 {v : V} {P : V → Prop} (q : P v) : ∃ u, [v] = [u] ∧ P u := ⟨v, rfl, q⟩
end
end My

set_option maxRecDepth 100000
set_option maxHeartbeats 4000000
/-! a text backwards, a text many times, a list unpacked -/
namespace My
open PySem PySem.Spec PyProof.Rows L2
section
variable {X : Cx}
/-- s[::-1]: told is the length alone -/
def tRevS (te : TE) : TE := fun σ H Q => te σ H fun x H1 => ∃ z : Str, x = .str z ∧ z.length ≤ sizeLine ∧ ∀ y : Str, y.length ≤ z.length → Q (.str y) H1
theorem r_revS {te : TE} {σ : L2.St} {H : Hp} {Q : VK} (h : te σ H fun x H1 => ∃ z : Str, x = .str z ∧ z.length ≤ sizeLine ∧ ∀ y : Str, y.length ≤ z.length → Q (.str y) H1) : tRevS te σ H Q := h
theorem pe_revS {e : Expr} {te : TE} {k : Nat} {p1 p2 p3 pos : Pos} (he : PE X e te) : PE X (.Subscript e (.Slice none none (some (.UnaryOp .USub (.Constant (.int 1) k p1) p2)) p3) pos) (tRevS te) := by
  refine ⟨fun pins s σ H Q I h => ?_⟩
  refine Subscript_ (thn (he.run pins s σ H _ I h) fun v s1 ⟨x, H1, I1, r1, q1⟩ => ?_)
  obtain ⟨z, ex, hz, q⟩ := q1
  subst ex
  obtain ⟨t, rfl⟩ := r1
  have minus : PO X (some (.UnaryOp .USub (.Constant (.int 1) k p1) p2)) (tPart (tUn (rU fun i => .int (-i)) (tC (.int 1)))) := po_some (pe_un un_neg pe_int)
  refine wpAny_Slice (thn (po_none.run pins s1 σ H1 (fun o H2 => o = none ∧ H2 = H1) I1 ⟨rfl, rfl⟩) fun vl s2 ⟨l, H2, I2, pl, el, e2⟩ => ?_)
  subst el e2
  refine thn (po_none.run pins s2 σ H2 (fun o H3 => o = none ∧ H3 = H2) I2 ⟨rfl, rfl⟩) fun vu s3 ⟨u, H3, I3, pu, eu, e3⟩ => ?_
  subst eu e3
  refine thn (minus.run pins s3 σ H3 (fun o H4 => o = some (-1) ∧ H4 = H3) I3 ⟨1, rfl, -1, rfl, rfl, rfl⟩) fun vs s4 ⟨o, H4, I4, ps, eo, e4⟩ => ?_
  subst eo e4
  have I5 : Inv X pins σ H4 { s4 with heap := s4.heap.push { cls := .type "slice", data := .fields #[vl, vu, vs] } } := I4.kept (t' := s4.toks) fun b ob q => Heap.get?_push_of_some _ q
  obtain ⟨l', rfl, el⟩ := IsPart.raw pl
  obtain ⟨u', rfl, eu⟩ := IsPart.raw pu
  obtain ⟨o', rfl, eo⟩ := IsPart.raw ps
  have el : l' = none := by cases l' <;> first | rfl | cases el
  have eu : u' = none := by cases u' <;> first | rfl | cases eu
  obtain ⟨m, rfl⟩ : ∃ m, o' = some (-1, m) := by
    cases o' with
    | none => cases eo
    | some p =>
      obtain ⟨i, m⟩ := p
      have : i = -1 := Option.some.inj eo
      exact ⟨m, by rw [this]⟩
  subst el eu
  refine tail_any (ops := [.ref s4.heap.objs.size, .str z t]) (typeIs_str _ _ _) (F.slot_str_getitem.lookup) ?_ (by with_unfolding_all rfl)
  have hl := Txt.sliceBy_le z none none (-1, m) (show (-1 : Int) ≠ 0 by decide)
  exact wpAny_getItem_str_slice (l := none) (u := none) (st := some (-1, m)) ⟨_, Heap.get?_push_size _ rfl, rfl, rfl⟩ rfl (post_val_or_str ⟨Nat.le_trans hl hz, fun t' c => ⟨.str _, H4, I5.tok _, ⟨_, rfl⟩, q _ hl⟩⟩)
theorem rep_len (c : Array Nat) : ∀ (n : Nat) (acc : Array Nat), ((List.replicate n c).foldl (· ++ ·) acc).size = acc.size + c.size * n
  | 0, acc => by simp
  | n + 1, acc => by
    rw [List.replicate_succ, List.foldl_cons, rep_len c n, Array.size_append, Nat.mul_succ]
    omega
/-- s * n, n written: told is the length alone -/
def rMulT : R2 := fun x y H Q => ∃ (a : Str) (n : Int), x = .str a ∧ y = .int n ∧ 2 ≤ n ∧ n ≤ 10000 ∧ 0 < a.length ∧ a.length ≤ 1000 ∧ ∀ z : Str, z.length = a.length * n.toNat → Q (.str z) H
theorem op_mulT : OpR X (binaryOp .Mult) rMulT := by
  intro pins s σ H x y v u Q I rx ry h
  obtain ⟨a, n, rfl, rfl, h2, h1000, h0, hl, q⟩ := h
  obtain ⟨t, rfl⟩ := rx
  obtain ⟨t', rfl⟩ := ry
  have n1 : ¬ n < 1 := by omega
  have b1 : (n == 1 || a.length == 0) = false := by
    have e1 : (n == 1) = false := by simpa using (show n ≠ 1 by omega)
    have e2 : (a.length == 0) = false := by simpa using (show a.length ≠ 0 by omega)
    rw [e1, e2]
    rfl
  have hm : a.length * n.toNat ≤ 1000 * 10000 := Nat.mul_le_mul hl (by omega)
  have hlen : (⟨(List.replicate n.toNat a.cps).foldl (· ++ ·) #[]⟩ : Str).length = a.length * n.toNat := by
    show ((List.replicate n.toNat a.cps).foldl (· ++ ·) #[]).size = _
    rw [rep_len]
    show 0 + a.length * n.toNat = _
    omega
  refine P.mul_str ?_ (fun _ _ => ?_) (fun _ _ => ?_) ?_
  · have e1 : decide (n < -(2 ^ 63 : Int)) = false := decide_eq_false (by omega)
    have e2 : decide (n ≥ 2 ^ 63) = false := decide_eq_false (by omega)
    rw [e1, e2]
    rfl
  · have hd : (1000 : Int) ≤ (2 ^ 63 - 1) / n := by
      rw [Int.le_ediv_iff_mul_le (by omega)]
      omega
    omega
  · have z : a.length * n.toNat ≤ sizeLine := Nat.le_trans hm (by decide)
    first
      | exact decide_eq_false (Nat.not_lt.mpr z)
      | (unfold Builtin.tooLong; exact decide_eq_false (Nat.not_lt.mpr z))
      | (unfold Builtin.Str.tooLong; exact decide_eq_false (Nat.not_lt.mpr z))
  · rw [if_neg n1, if_neg (by rw [b1]; decide)]
    exact ⟨by rw [hlen]; exact Nat.le_trans hm (by decide), .str _, H, I.tok _, ⟨_, rfl⟩, q _ hlen⟩
theorem r_mulT {a : Str} {n : Int} {H : Hp} {Q : VK} (h2 : 2 ≤ n) (h3 : n ≤ 10000) (h0 : 0 < a.length) (hl : a.length ≤ 1000) (q : ∀ z : Str, z.length = a.length * n.toNat → Q (.str z) H) : rMulT (.str a) (.int n) H Q := ⟨a, n, rfl, rfl, h2, h3, h0, hl, q⟩
theorem pg_lstK {K : PySem.W.Frag} {es : List Expr} {k : Nat} {pos : Pos} {t : TGs} {n : Nat} (hK : X.K = K) (hc : X.calm = true) (h : PGs X es t) (hn : (assignEach es X.env).length = n := by rfl) (hst : (assignEach es X.env).findIdx? (·.1) = none := by rfl) :
    PG X (.Tuple es k pos) (gLst K n t) := hK ▸ pg_lst hc h hn hst
theorem r_gLst {K : PySem.W.Frag} {n : Nat} {gs : TGs} {p : Addr} {xs : List V} {σ : L2.St} {H : Hp} {Q : L2.St → Hp → Prop} (h : SqL K H p xs) (e : xs.length = n) (k : gs xs σ H Q) : gLst K n gs (.ref p) σ H Q := ⟨p, xs, rfl, h, e, k⟩
/-- a sign not in a text -/
def rNSgn : R2 := fun x y H Q => ∃ (c : Nat) (z : Str), x = .str ⟨#[c]⟩ ∧ y = .str z ∧ Q (.bl (!decide (c ∈ z.cps.toList))) H
theorem op_nsgn : OpR X (compareOp .NotIn) rNSgn := op_notIn_sign
theorem r_nsgn {c : Nat} {z : Str} {H : Hp} {Q : VK} (q : Q (.bl (!decide (c ∈ z.cps.toList))) H) : rNSgn (.str ⟨#[c]⟩) (.str z) H Q := ⟨c, z, rfl, rfl, q⟩
end
/-! a list against an empty one -/
section
open PySem.SeqAt MeetsSeq MeetsSeq2 MeetsSeq3 SeqRoads2
variable {prog : Program} {w : World} {A : Around} {s : Shared} {l b : Addr} {items : Array Value}
theorem rc_eq0 (hl : s.heap.IsList l items) (hb : s.heap.IsList b #[]) (hu : A.units < cLine) (E Q : Value → Shared → Prop) (h : Q (.bool (items.size == 0)) s) : wpAny (model prog w) A (richCompare .Eq (.ref l) (.ref b)) Q E s := by
  obtain ⟨⟨c1, d1, t1, l1⟩, o1, e1, n1, f1⟩ := id hl
  obtain ⟨⟨c2, d2, t2, l2⟩, o2, e2, n2, f2⟩ := id hb
  simp only at e1 f1 e2 f2
  subst e1 f1 e2 f2
  have ta : s.TypeIs (.ref l) "list" := ⟨_, o1, rfl⟩
  have tb : s.TypeIs (.ref b) "list" := ⟨_, o2, rfl⟩
  refine wpAny_richCompare_same_room (op := .Eq) ta tb F.slot_list_eq ?_ hu
  by_cases z : items.size = 0
  · refine call_meets F.slot_list_eq ta F.entry_list_eq (F.args_list_eq_2 _ _) (list_eqAt l b items #[] n1 n2 d1 d2 l1 l2 (by rw [z]; rfl) fun _ => true) ⟨o1, o2, fun j h1 h2 => absurd h2 (Nat.not_lt_zero _), ⟨(fun x => nomatch x), ?_⟩⟩
    rw [z] at h ⊢
    exact h
  · refine call_meets F.slot_list_eq ta F.entry_list_eq (F.args_list_eq_2 _ _) (list_eq_lengthsAt l b items #[] n1 n2 d1 d2 l1 l2 (by simpa using z)) ⟨o1, o2, ⟨(fun x => nomatch x), ?_⟩⟩
    have e : (items.size == 0) = false := by simpa using z
    rw [e] at h
    exact h
theorem rc_ne0 (hl : s.heap.IsList l items) (hb : s.heap.IsList b #[]) (hu : A.units < cLine) (E Q : Value → Shared → Prop) (h : Q (.bool (!(items.size == 0))) s) : wpAny (model prog w) A (richCompare .NotEq (.ref l) (.ref b)) Q E s := by
  obtain ⟨⟨c1, d1, t1, l1⟩, o1, e1, n1, f1⟩ := id hl
  obtain ⟨⟨c2, d2, t2, l2⟩, o2, e2, n2, f2⟩ := id hb
  simp only at e1 f1 e2 f2
  subst e1 f1 e2 f2
  have ta : s.TypeIs (.ref l) "list" := ⟨_, o1, rfl⟩
  have tb : s.TypeIs (.ref b) "list" := ⟨_, o2, rfl⟩
  refine wpAny_richCompare_same_room (op := .NotEq) ta tb F.slot_list_ne ?_ hu
  by_cases z : items.size = 0
  · refine call_meets F.slot_list_ne ta F.entry_list_ne (F.args_list_ne_2 _ _) (list_neAt l b items #[] n1 n2 d1 d2 l1 l2 (by rw [z]; rfl) fun _ => true) ⟨o1, o2, fun j h1 h2 => absurd h2 (Nat.not_lt_zero _), ⟨(fun x => nomatch x), ?_⟩⟩
    rw [z] at h ⊢
    exact h
  · refine call_meets F.slot_list_ne ta F.entry_list_ne (F.args_list_ne_2 _ _) (list_ne_lengthsAt l b items #[] n1 n2 d1 d2 l1 l2 (by simpa using z)) ⟨o1, o2, ⟨(fun x => nomatch x), ?_⟩⟩
    have e : (items.size == 0) = false := by simpa using z
    rw [e] at h
    exact h
end
section
variable {X : Cx} {K : PySem.W.Frag}
def rEq0 (K : PySem.W.Frag) (neg : Bool) : R2 := fun x y H Q => ∃ p q xs, x = .ref p ∧ y = .ref q ∧ SqL K H p xs ∧ SqL K H q [] ∧ Q (.bl (if neg then !xs.isEmpty else xs.isEmpty)) H
theorem emp_size {xs : List V} {us : List Value} (r : Vals xs us) : (us.toArray.size == 0) = xs.isEmpty := by
  cases r with
  | nil => rfl
  | cons _ _ => simp
theorem op_eq0 (hK : X.K = K) (hu : X.A.units < cLine) : OpR X (compareOp .Eq) (rEq0 K false) := by
  subst hK
  intro pins s σ H x y v u Q I rx ry h
  obtain ⟨p, q, xs, rfl, rfl, h1, h2, k⟩ := h
  cases rx
  cases ry
  obtain ⟨us, r1, l1, _⟩ := I.list h1
  obtain ⟨us2, r2, l2, _⟩ := I.list h2
  cases r2
  show wpAny (model X.prog X.w) X.A (richCompare .Eq (.ref p) (.ref q)) (EP X pins σ Q) X.xe s
  refine rc_eq0 l1.isList l2.isList hu _ _ ?_
  rw [emp_size r1]
  exact ⟨.bl _, H, I, rfl, k⟩
theorem op_ne0 (hK : X.K = K) (hu : X.A.units < cLine) : OpR X (compareOp .NotEq) (rEq0 K true) := by
  subst hK
  intro pins s σ H x y v u Q I rx ry h
  obtain ⟨p, q, xs, rfl, rfl, h1, h2, k⟩ := h
  cases rx
  cases ry
  obtain ⟨us, r1, l1, _⟩ := I.list h1
  obtain ⟨us2, r2, l2, _⟩ := I.list h2
  cases r2
  show wpAny (model X.prog X.w) X.A (richCompare .NotEq (.ref p) (.ref q)) (EP X pins σ Q) X.xe s
  refine rc_ne0 l1.isList l2.isList hu _ _ ?_
  rw [emp_size r1]
  exact ⟨.bl _, H, I, rfl, k⟩
theorem r_eq0 {p q : Addr} {xs : List V} {H : Hp} {Q : VK} (h1 : SqL K H p xs) (h2 : SqL K H q []) (k : Q (.bl xs.isEmpty) H) : rEq0 K false (.ref p) (.ref q) H Q := ⟨p, q, xs, rfl, rfl, h1, h2, k⟩
theorem r_ne0 {p q : Addr} {xs : List V} {H : Hp} {Q : VK} (h1 : SqL K H p xs) (h2 : SqL K H q []) (k : Q (.bl (!xs.isEmpty)) H) : rEq0 K true (.ref p) (.ref q) H Q := ⟨p, q, xs, rfl, rfl, h1, h2, k⟩
end
end My

set_option maxRecDepth 100000
set_option maxHeartbeats 4000000
namespace My
open PySem PySem.Spec PyProof.Rows L2
/-! ### names: letters, 1 to 8, distinct -/
def Lt (c : Nat) : Prop := 97 ≤ c ∧ c ≤ 122
instance (c : Nat) : Decidable (Lt c) := inferInstanceAs (Decidable (_ ∧ _))
def cl (s : Str) : List Nat := s.cps.toList
theorem cl_len (s : Str) : (cl s).length = s.length := Array.length_toList
theorem cl_app (a b : Str) : cl (a ++ b) = cl a ++ cl b := by
  unfold cl
  rw [PySem.Str.cps_append, Array.toList_append]
theorem cl_one (c : Nat) : cl ⟨#[c]⟩ = [c] := rfl
theorem cl_inj {a b : Str} (h : cl a = cl b) : a = b := PySem.Str.ext' (Array.toList_inj.mp h)
def IsNm (s : Str) : Prop := 1 ≤ s.length ∧ s.length ≤ 8 ∧ ∀ c ∈ cl s, Lt c
abbrev lettersS : Str := "abcdefghijklmnopqrstuvwxyz"
theorem letters_cl : cl lettersS = (List.range 26).map (97 + ·) := by decide +kernel
theorem letters_at {i : Int} (h0 : 0 ≤ i) (h1 : i < 26) : atI lettersS.cps.toList i = some (97 + i.toNat) := by
  obtain ⟨j, rfl⟩ : ∃ j : Nat, i = (j : Int) := ⟨i.toNat, by omega⟩
  have hj : j < 26 := by omega
  refine atI_nat ?_
  show (cl lettersS)[j]? = _
  rw [letters_cl]
  simp [hj]
theorem letters_mem {c : Nat} (h : c ∈ lettersS.cps.toList) : Lt c := by
  have h' : c ∈ cl lettersS := h
  rw [letters_cl] at h'
  obtain ⟨i, hi, rfl⟩ := List.mem_map.mp h'
  have := List.mem_range.mp hi
  exact ⟨by omega, by omega⟩
/-- one name: a stem, a letter, a tail -/
def nmL (stem : List Nat) (o : Nat) : List Nat := if stem.length % 2 = 0 then stem ++ [o] else o :: stem
theorem nmL_len (stem : List Nat) (o : Nat) : (nmL stem o).length = stem.length + 1 := by
  unfold nmL
  split <;> simp
theorem nmL_inj {stem : List Nat} {o p : Nat} (h : nmL stem o = nmL stem p) : o = p := by
  unfold nmL at h
  split at h
  · have := List.append_cancel_left h
    simpa using this
  · simpa using h
theorem nmL_mem {stem : List Nat} {o c : Nat} (h : c ∈ nmL stem o) : c ∈ stem ∨ c = o := by
  unfold nmL at h
  split at h
  · simpa using h
  · simpa [or_comm] using h
def ownAt (front step : Int) (k : Nat) : Nat := 97 + ((front + step * k) % 26).toNat
theorem ownAt_lt (front step : Int) (k : Nat) : Lt (ownAt front step k) := by
  unfold ownAt Lt
  have := Int.emod_nonneg (front + step * k) (show (26 : Int) ≠ 0 by decide)
  have := Int.emod_lt_of_pos (front + step * k) (show (0 : Int) < 26 by decide)
  omega
def stepsL : List Int := [1, 3, 5, 7, 9, 11, 15, 17, 19, 21, 23, 25]
theorem ownAt_inj {front step : Int} (hs : step ∈ stepsL) {j k : Nat} (h : ownAt front step j = ownAt front step k) : (j : Int) % 26 = (k : Int) % 26 := by
  unfold ownAt at h
  have := Int.emod_nonneg (front + step * j) (show (26 : Int) ≠ 0 by decide)
  have := Int.emod_nonneg (front + step * k) (show (26 : Int) ≠ 0 by decide)
  have e : (front + step * j) % 26 = (front + step * k) % 26 := by omega
  simp only [stepsL, List.mem_cons, List.not_mem_nil, or_false] at hs
  rcases hs with rfl | rfl | rfl | rfl | rfl | rfl | rfl | rfl | rfl | rfl | rfl | rfl <;> omega
def TailOk (k : Nat) (t : List Nat) : Prop := (k < 26 → t = []) ∧ (26 ≤ k → ∃ c, Lt c ∧ t = [c])
def NmRow (stem : Str) (front step : Int) (names : List Str) : Prop := ∀ (j : Nat) (x : Str), names[j]? = some x → ∃ t, cl x = nmL (cl stem) (ownAt front step j) ++ t ∧ TailOk j t
def NamesOk (names : List Str) (many : Nat) : Prop := names.length = many ∧ names.Nodup ∧ ∀ x ∈ names, IsNm x
theorem names_ok {stem : Str} {front step : Int} {names : List Str} (hl : names.length ≤ 52) (h1 : stem.length ≤ 6) (h2 : ∀ c ∈ cl stem, Lt c) (hs : step ∈ stepsL) (h : NmRow stem front step names) : NamesOk names names.length := by
  refine ⟨rfl, ?_, fun x hx => ?_⟩
  · rw [List.nodup_iff_pairwise_ne, List.pairwise_iff_getElem]
    intro i j hi hj hij e
    obtain ⟨t, e1, t1, t2⟩ := h i _ (List.getElem?_eq_getElem hi)
    obtain ⟨u, e2, u1, u2⟩ := h j _ (List.getElem?_eq_getElem hj)
    rw [e, e2] at e1
    by_cases hj2 : j < 26
    · rw [u1 hj2, t1 (by omega), List.append_nil, List.append_nil] at e1
      have := ownAt_inj hs (nmL_inj e1)
      omega
    · obtain ⟨c, _, hc⟩ := u2 (by omega)
      subst hc
      by_cases hi2 : i < 26
      · rw [t1 hi2] at e1
        have := congrArg List.length e1
        simp [nmL_len] at this
      · obtain ⟨d, _, hd⟩ := t2 (by omega)
        subst hd
        have e3 := (List.append_inj e1 (by rw [nmL_len, nmL_len])).1
        have := ownAt_inj hs (nmL_inj e3)
        omega
  · obtain ⟨j, hj⟩ := List.mem_iff_getElem?.mp hx
    obtain ⟨t, e, t1, t2⟩ := h j x hj
    have tl : t.length ≤ 1 ∧ ∀ c ∈ t, Lt c := by
      by_cases hj2 : j < 26
      · rw [t1 hj2]
        simp
      · obtain ⟨c, hc, rfl⟩ := t2 (by omega)
        simpa using hc
    have hx := congrArg List.length e
    rw [cl_len, List.length_append, nmL_len, cl_len] at hx
    refine ⟨by omega, by omega, fun c hc => ?_⟩
    rw [e] at hc
    rcases List.mem_append.mp hc with z | z
    · rcases nmL_mem z with y | rfl
      · exact h2 c y
      · exact ownAt_lt _ _ _
    · exact tl.2 c z
theorem NmRow.snoc {stem : Str} {front step : Int} {names : List Str} (h : NmRow stem front step names) {x : Str} {t : List Nat} (e : cl x = nmL (cl stem) (ownAt front step names.length) ++ t) (ht : TailOk names.length t) : NmRow stem front step (names ++ [x]) := by
  intro j y hj
  by_cases hlt : j < names.length
  · rw [List.getElem?_append_left hlt] at hj
    exact h j y hj
  · have hj2 : j = names.length := by
      have := (List.getElem?_eq_some_iff.mp hj).1
      simp at this
      omega
    subst hj2
    rw [List.getElem?_append_right (Nat.le_refl _)] at hj
    simp at hj
    subst hj
    exact ⟨t, e, ht⟩
end My

set_option maxRecDepth 100000
set_option maxHeartbeats 4000000
namespace My
open PySem PySem.Spec PyProof.Rows L2
/-! ### texts cut and joined -/
def jn (c : List Nat) : List (List Nat) → List Nat
  | [] => []
  | [a] => a
  | a :: b :: r => a ++ c ++ jn c (b :: r)
theorem cl_join (sep : Str) : ∀ ss : List Str, cl (Txt.join sep ss) = jn (cl sep) (ss.map cl) := by
  intro ss
  have e : Txt.join sep ss = Str.join sep ss := StrLaws.glued_eq_join sep ss
  rw [e]
  induction ss with
  | nil => rfl
  | cons a r ih =>
    cases r with
    | nil => rfl
    | cons b r =>
      have ih := ih (StrLaws.glued_eq_join sep _)
      show cl (a ++ sep ++ Str.join sep (b :: r)) = _
      rw [cl_app, cl_app, ih]
      rfl
theorem cl_mk (l : List Nat) : cl ⟨l.toArray⟩ = l := rfl
theorem jn_nil : ∀ ss : List (List Nat), jn [] ss = ss.flatten
  | [] => rfl
  | [a] => by simp [jn]
  | a :: b :: r => by
    have ih := jn_nil (b :: r)
    show a ++ [] ++ jn [] (b :: r) = _
    rw [ih]
    simp
theorem free_split {c : Nat} {a b x y : List Nat} (ha : c ∉ a) (hb : c ∉ b) (h : a ++ c :: x = b ++ c :: y) : a = b ∧ x = y := by
  induction a generalizing b with
  | nil =>
    cases b with
    | nil => exact ⟨rfl, by simpa using h⟩
    | cons d b =>
      have h1 : c = d := (List.cons.inj h).1
      exact absurd (by rw [h1]; exact List.mem_cons_self) hb
  | cons e a ih =>
    cases b with
    | nil =>
      have h1 : e = c := (List.cons.inj h).1
      exact absurd (by rw [h1]; exact List.mem_cons_self) ha
    | cons d b =>
      obtain ⟨h1, h2⟩ := List.cons.inj h
      obtain ⟨e1, e2⟩ := ih (fun z => ha (List.mem_cons_of_mem _ z)) (fun z => hb (List.mem_cons_of_mem _ z)) h2
      exact ⟨by rw [h1, e1], e2⟩
theorem jn_mem {c : Nat} : ∀ {a b : List Nat} {r : List (List Nat)}, c ∈ jn [c] (a :: b :: r) := fun {a b r} => by
  show c ∈ a ++ [c] ++ jn [c] (b :: r)
  simp
theorem jn_inj {c : Nat} : ∀ {a b : List (List Nat)}, a ≠ [] → b ≠ [] → (∀ s ∈ a, c ∉ s) → (∀ s ∈ b, c ∉ s) → jn [c] a = jn [c] b → a = b
  | [], _, h, _, _, _, _ => absurd rfl h
  | _, [], _, h, _, _, _ => absurd rfl h
  | [x], [y], _, _, _, _, h => by
    have h' : x = y := h
    rw [h']
  | [x], y :: z :: r, _, _, ha, _, h => by
    have hm : c ∈ jn [c] (y :: z :: r) := jn_mem
    rw [← h] at hm
    exact absurd hm (ha x List.mem_cons_self)
  | x :: y :: r, [z], _, _, _, hb, h => by
    have hm : c ∈ jn [c] (x :: y :: r) := jn_mem
    rw [h] at hm
    exact absurd hm (hb z List.mem_cons_self)
  | x :: y :: r, z :: u :: t, _, _, ha, hb, h => by
    have h' : x ++ [c] ++ jn [c] (y :: r) = z ++ [c] ++ jn [c] (u :: t) := h
    rw [List.append_assoc, List.append_assoc] at h'
    obtain ⟨e1, e2⟩ := free_split (ha x List.mem_cons_self) (hb z List.mem_cons_self) h'
    have e3 := jn_inj (c := c) (a := y :: r) (b := u :: t) (by simp) (by simp) (fun s hs => ha s (List.mem_cons_of_mem _ hs)) (fun s hs => hb s (List.mem_cons_of_mem _ hs)) e2
    rw [e1, e3]
theorem map_cl_inj {a b : List Str} (h : a.map cl = b.map cl) : a = b := by
  induction a generalizing b with
  | nil =>
    cases b with
    | nil => rfl
    | cons _ _ => cases h
  | cons x a ih =>
    cases b with
    | nil => cases h
    | cons y b =>
      obtain ⟨h1, h2⟩ := List.cons.inj h
      rw [cl_inj h1, ih h2]
theorem split_ne (x : Str) (c : Nat) : Txt.split x ⟨#[c]⟩ ≠ [] := fun e => by
  have := split_pos x ⟨#[c]⟩
  rw [e] at this
  exact absurd this (by decide)
theorem split_free (x : Str) (c : Nat) : ∀ s ∈ Txt.split x ⟨#[c]⟩, c ∉ cl s := fun s hs => StrLaws.split_free x c s hs
theorem join_split (x : Str) (c : Nat) : Txt.join ⟨#[c]⟩ (Txt.split x ⟨#[c]⟩) = x := (StrLaws.glued_eq_join _ _).trans (StrLaws.join_split x _)
theorem split_join {c : Nat} {ss : List Str} (h0 : ss ≠ []) (h : ∀ s ∈ ss, c ∉ cl s) : Txt.split (Txt.join ⟨#[c]⟩ ss) ⟨#[c]⟩ = ss := by
  have e := congrArg cl (join_split (Txt.join ⟨#[c]⟩ ss) c)
  rw [cl_join, cl_join] at e
  refine map_cl_inj (jn_inj (c := c) ?_ (by simpa using h0) ?_ ?_ e)
  · simpa using split_ne _ c
  · intro s hs
    obtain ⟨t, ht, rfl⟩ := List.mem_map.mp hs
    exact split_free _ c t ht
  · intro s hs
    obtain ⟨t, ht, rfl⟩ := List.mem_map.mp hs
    exact h t ht
/-- texts of one sign joined -/
theorem join_ones {ss : List Str} (h : ∀ x ∈ ss, ∃ c, Lt c ∧ x = ⟨#[c]⟩) : (Txt.join "" ss).length = ss.length ∧ ∀ c ∈ cl (Txt.join "" ss), Lt c := by
  have e : cl (Txt.join "" ss) = (ss.map cl).flatten := by
    rw [cl_join]
    have e2 : cl "" = [] := by decide
    rw [e2, jn_nil]
  constructor
  · rw [← cl_len, e]
    clear e
    induction ss with
    | nil => rfl
    | cons a r ih =>
      obtain ⟨c, _, rfl⟩ := h a List.mem_cons_self
      have ih := ih fun x hx => h x (List.mem_cons_of_mem _ hx)
      rw [List.map_cons, List.flatten_cons, List.length_append, ih]
      rw [List.length_cons, cl_one, List.length_singleton]
      omega
  · intro c hc
    rw [e] at hc
    obtain ⟨l, hl, hcl⟩ := List.mem_flatten.mp hc
    obtain ⟨x, hx, rfl⟩ := List.mem_map.mp hl
    obtain ⟨d, hd, rfl⟩ := h x hx
    rw [cl_one] at hcl
    have : c = d := by simpa using hcl
    rw [this]
    exact hd
theorem ones_sum {ss : List Str} (h : ∀ x ∈ ss, ∃ c, Lt c ∧ x = ⟨#[c]⟩) : (ss.map (·.length)).sum = ss.length := by
  induction ss with
  | nil => rfl
  | cons a r ih =>
    obtain ⟨c, _, rfl⟩ := h a List.mem_cons_self
    have ih := ih fun x hx => h x (List.mem_cons_of_mem _ hx)
    rw [List.map_cons, List.sum_cons, ih, List.length_cons]
    show 1 + _ = _
    omega
end My

set_option maxRecDepth 100000
set_option maxHeartbeats 4000000
namespace My
open PySem PySem.Spec PyProof.Rows L2
/-! ### rows: name, day, post, stride -/
structure Rw where
  nm : Str
  day : Int
  post : Int
  pace : Int
def NumOk (r : Rw) : Prop := 0 ≤ r.day ∧ r.day ≤ 10 ^ 30 ∧ -(10 ^ 30) ≤ r.post ∧ r.post ≤ 10 ^ 30 ∧ -(10 ^ 18) ≤ r.pace ∧ r.pace ≤ 10 ^ 18 ∧ r.pace ≠ 0
def rowV (r : Rw) : List V := [.str r.nm, .int r.day, .int r.post, .int r.pace]
def RowsAt (H : Hp) : List V → List Rw → Prop
  | [], [] => True
  | v :: vs, r :: rs => (∃ p, v = .ref p ∧ H p = some (.tup (rowV r))) ∧ RowsAt H vs rs
  | _, _ => False
theorem RowsAt.kp {H H' : Hp} (e : Kp H H') : ∀ {vs : List V} {rs : List Rw}, RowsAt H vs rs → RowsAt H' vs rs
  | [], [], _ => trivial
  | _ :: _, _ :: _, ⟨⟨p, e1, e2⟩, h⟩ => ⟨⟨p, e1, e.t e2⟩, RowsAt.kp e h⟩
theorem RowsAt.put {H : Hp} {p : Addr} {xs ys : List V} (e : H p = some (.lst xs)) : ∀ {vs : List V} {rs : List Rw}, RowsAt H vs rs → RowsAt (upd H p (.lst ys)) vs rs
  | [], [], _ => trivial
  | _ :: _, _ :: _, ⟨⟨q, e1, e2⟩, h⟩ => ⟨⟨q, e1, by rw [upd_ne (ne_of e2 e (by intro z; cases z))]; exact e2⟩, RowsAt.put e h⟩
theorem RowsAt.len {H : Hp} : ∀ {vs : List V} {rs : List Rw}, RowsAt H vs rs → vs.length = rs.length
  | [], [], _ => rfl
  | _ :: _, _ :: _, ⟨_, h⟩ => congrArg (· + 1) (RowsAt.len h)
theorem RowsAt.snoc {H : Hp} {p : Addr} {r : Rw} (e : H p = some (.tup (rowV r))) : ∀ {vs : List V} {rs : List Rw}, RowsAt H vs rs → RowsAt H (vs ++ [.ref p]) (rs ++ [r])
  | [], [], _ => ⟨⟨p, rfl, e⟩, trivial⟩
  | _ :: _, _ :: _, ⟨h1, h⟩ => ⟨h1, RowsAt.snoc e h⟩
theorem RowsAt.mem {H : Hp} {v : V} : ∀ {vs : List V} {rs : List Rw}, RowsAt H vs rs → v ∈ vs → ∃ p r, r ∈ rs ∧ v = .ref p ∧ H p = some (.tup (rowV r))
  | [], [], _, h => (List.not_mem_nil h).elim
  | u :: vs, r :: rs, ⟨⟨p, e1, e2⟩, h⟩, hm => by
    rcases List.mem_cons.mp hm with rfl | hm
    · exact ⟨p, r, List.mem_cons_self, e1, e2⟩
    · obtain ⟨p, r, h1, h2⟩ := RowsAt.mem h hm
      exact ⟨p, r, List.mem_cons_of_mem _ h1, h2⟩
theorem RowsAt.at {H : Hp} {v : V} : ∀ {vs : List V} {rs : List Rw} {i : Nat}, RowsAt H vs rs → vs[i]? = some v → ∃ p r, rs[i]? = some r ∧ v = .ref p ∧ H p = some (.tup (rowV r))
  | [], [], _, _, h => by simp at h
  | u :: vs, r :: rs, 0, ⟨⟨p, e1, e2⟩, h⟩, hm => by
    have : u = v := by simpa using hm
    subst this
    exact ⟨p, r, rfl, e1, e2⟩
  | u :: vs, r :: rs, i + 1, ⟨_, h⟩, hm => by simpa using RowsAt.at (vs := vs) (rs := rs) (i := i) h (by simpa using hm)
theorem RowsAt.set {H : Hp} {p : Addr} {r : Rw} (e : H p = some (.tup (rowV r))) : ∀ {vs : List V} {rs : List Rw} {i : Nat}, RowsAt H vs rs → RowsAt H (vs.set i (.ref p)) (rs.set i r)
  | [], [], _, _ => trivial
  | _ :: _, _ :: _, 0, ⟨_, h⟩ => ⟨⟨p, rfl, e⟩, h⟩
  | _ :: _, _ :: _, i + 1, ⟨h1, h⟩ => ⟨h1, RowsAt.set e h⟩
theorem mem_cutV {v : V} {xs : List V} {lo hi : Option Int} (h : v ∈ cutV xs lo hi) : v ∈ xs := List.mem_of_mem_drop (List.mem_of_mem_take h)
theorem cut_last {xs : List V} (h : 1 ≤ xs.length) : cutV xs none (some (-1)) = xs.take (xs.length - 1) := by
  unfold cutV
  have e0 : HT.sIx xs.length 0 none = 0 := rfl
  have e1 : HT.sIx xs.length xs.length (some (-1)) = xs.length - 1 := by
    unfold HT.sIx
    simp only
    try split
    all_goals omega
  rw [e0, e1]
  simp
theorem ixN_last {n : Nat} (h : 1 ≤ n) : ixN n (-1) = some (n - 1) := by
  unfold ixN
  rw [if_neg (by omega), if_pos (by omega)]
  congr 1
  omega
theorem atI_last {α : Type} {xs : List α} (h : xs ≠ []) : atI xs (-1) = xs[xs.length - 1]? := by
  have := List.length_pos_iff.mpr h
  unfold atI
  rw [ixN_last (by omega)]
  rfl
def NumsOk (rs : List Rw) : Prop := ∀ r ∈ rs, NumOk r
theorem NumsOk.snoc {rs : List Rw} {r : Rw} (h : NumsOk rs) (e : NumOk r) : NumsOk (rs ++ [r]) := fun x hx => by
  rcases List.mem_append.mp hx with y | y
  · exact h x y
  · have : x = r := by simpa using y
    rw [this]
    exact e
theorem NumsOk.set {rs : List Rw} {r : Rw} {i : Nat} (h : NumsOk rs) (e : NumOk r) : NumsOk (rs.set i r) := fun x hx => by
  rcases List.mem_or_eq_of_mem_set hx with y | y
  · exact h x y
  · rw [y]
    exact e
/-- the rows of a fence: numbers and names as they should be, the names distinct -/
def RowsOk (rs : List Rw) : Prop := NumsOk rs ∧ (rs.map Rw.nm).Nodup ∧ (∀ r ∈ rs, IsNm r.nm) ∧ rs.length ≤ 40
theorem rowsOk_of {rs : List Rw} {names : List Str} {many : Nat} (h : NumsOk rs) (hn : NamesOk names many) (e : rs.map Rw.nm = names) (hm : many ≤ 40) : RowsOk rs := by
  subst e
  refine ⟨h, hn.2.1, fun r hr => hn.2.2 _ (List.mem_map_of_mem hr), ?_⟩
  have := hn.1
  rw [List.length_map] at this
  omega
/-- a list of rows that is new behind H0 -/
def RowsR (H0 : Hp) (v : V) (H : Hp) : Prop := ∃ p vs rs, v = .ref p ∧ H0 p = none ∧ H p = some (.lst vs) ∧ RowsAt H vs rs ∧ RowsOk rs
/-- rows under construction: p the list, q that of the names -/
structure RI (z : PenI) (H0 H : Hp) (n : Nat) (p q : Addr) (names : List Str) (i : Nat) (vs : List V) (rs : List Rw) : Prop where
  acc : Acc z H0 H n p vs
  rows : RowsAt H vs rs
  nums : NumsOk rs
  nms : rs.map Rw.nm = names.take i
  src : H q = some (.lst (names.map V.str))
  ne : q ≠ p
section
variable {z : PenI} {H0 H H' : Hp} {n m : Nat} {p q : Addr} {names : List Str} {i : Nat} {vs : List V} {rs : List Rw}
theorem RI.go (r : RI z H0 H n p q names i vs rs) (k : Kp H H') (a : Acc z H0 H' m p vs) : RI z H0 H' m p q names i vs rs := ⟨a, r.rows.kp k, r.nums, r.nms, k.l r.src, r.ne⟩
theorem RI.new {t : Addr} {o : HO} (r : RI z H0 H n p q names i vs rs) (h : H t = none) : RI z H0 (upd H t o) n p q names i vs rs := r.go (Kp.new h) (r.acc.newO h)
theorem RI.mono (r : RI z H0 H n p q names i vs rs) (h : n ≤ m) : RI z H0 H m p q names i vs rs := ⟨r.acc.mono h, r.rows, r.nums, r.nms, r.src, r.ne⟩
theorem RI.len (r : RI z H0 H n p q names i vs rs) : vs.length ≤ i := by
  have := congrArg List.length r.nms
  rw [List.length_map, ← r.rows.len, List.length_take] at this
  omega
theorem RI.eqlen (r : RI z H0 H n p q names i vs rs) (hi : i ≤ names.length) : vs.length = i := by
  have := congrArg List.length r.nms
  rw [List.length_map, ← r.rows.len, List.length_take] at this
  omega
theorem RI.app {t : Addr} {row : Rw} (r : RI z H0 H n p q names i vs rs) (h : H t = some (.tup (rowV row))) (hl : names[i]? = some row.nm) (ho : NumOk row) :
    RI z H0 (upd H p (.lst (vs ++ [.ref t]))) n p q names (i + 1) (vs ++ [.ref t]) (rs ++ [row]) :=
  ⟨r.acc.put _, (r.rows.snoc h).put r.acc.l, r.nums.snoc ho, by rw [List.map_append, r.nms, List.take_add_one, hl]; rfl, by rw [upd_ne r.ne]; exact r.src, r.ne⟩
theorem RI.set {t : Addr} {row : Rw} {j : Nat} (r : RI z H0 H n p q names i vs rs) (h : H t = some (.tup (rowV row))) (hl : names[j]? = some row.nm) (hj : j < i) (ho : NumOk row) :
    RI z H0 (upd H p (.lst (vs.set j (.ref t)))) n p q names i (vs.set j (.ref t)) (rs.set j row) := by
  refine ⟨r.acc.put _, (r.rows.set h).put r.acc.l, r.nums.set ho, ?_, by rw [upd_ne r.ne]; exact r.src, r.ne⟩
  rw [List.map_set, r.nms]
  have e : (names.take i)[j]? = some row.nm := by
    rw [List.getElem?_take_of_lt hj]
    exact hl
  obtain ⟨hlt, e2⟩ := List.getElem?_eq_some_iff.mp e
  rw [← e2]
  exact List.set_getElem_self hlt
theorem RI.start (a : Acc z H0 H n p []) (h : H q = some (.lst (names.map V.str))) (ne : q ≠ p) : RI z H0 H n p q names 0 [] [] := ⟨a, trivial, fun r hr => (List.not_mem_nil hr).elim, rfl, h, ne⟩
theorem RI.done {many : Nat} (r : RI z H0 H n p q names i vs rs) (hn : NamesOk names many) (hi : many ≤ i) (hm : many ≤ 40) : RowsR H0 (.ref p) H :=
  ⟨p, vs, rs, rfl, r.acc.new, r.acc.l, r.rows, rowsOk_of r.nums hn (by rw [r.nms, List.take_of_length_le (by rw [hn.1]; exact hi)]) hm⟩
end
theorem RowsAt.ext {H H' : Hp} (e : Ext H H') : ∀ {vs : List V} {rs : List Rw}, RowsAt H vs rs → RowsAt H' vs rs
  | [], [], _ => trivial
  | _ :: _, _ :: _, ⟨⟨p, e1, e2⟩, h⟩ => ⟨⟨p, e1, e _ _ e2⟩, RowsAt.ext e h⟩
theorem Pen.ext {H H' : Hp} {z : PenI} {n : Nat} (d : Pen H z n) (e : Ext H H') : Pen H' z n := by
  obtain ⟨b, r, d, y⟩ := d
  exact ⟨b, r, ⟨e _ _ d.d, e _ _ d.c⟩, y⟩
end My

set_option maxRecDepth 100000
set_option maxHeartbeats 4000000
/-! ### words: names, numbers, lines -/
namespace My
open PySem PySem.Spec PyProof.Rows L2 TL
def nmB (s : Str) : Bool := decide (1 ≤ s.length) && (decide (s.length ≤ 8) && (cl s).all fun c => decide (c ∈ lettersS.cps.toList))
theorem letters_iff {c : Nat} : c ∈ lettersS.cps.toList ↔ Lt c := by
  constructor
  · exact letters_mem
  · intro h
    show c ∈ cl lettersS
    rw [letters_cl]
    exact List.mem_map.mpr ⟨c - 97, List.mem_range.mpr (by have := h.2; omega), by have := h.1; omega⟩
theorem nmB_iff {s : Str} : nmB s = true ↔ IsNm s := by
  unfold nmB IsNm
  simp only [Bool.and_eq_true, decide_eq_true_eq, List.all_eq_true, letters_iff]
abbrev digitsS : Str := "0123456789"
theorem digits_iff {c : Nat} : c ∈ digitsS.cps.toList ↔ 48 ≤ c ∧ c ≤ 57 := by
  have e : digitsS.cps.toList = (List.range 10).map (48 + ·) := by decide +kernel
  rw [e]
  constructor
  · intro h
    obtain ⟨i, hi, rfl⟩ := List.mem_map.mp h
    have := List.mem_range.mp hi
    omega
  · intro h
    exact List.mem_map.mpr ⟨c - 48, List.mem_range.mpr (by omega), by omega⟩
/-- the digits of a word -/
def dgs (w : Str) : Str := if cutS w none (some 1) = "-" then cutS w (some 1) none else w
def inOk (d : Int) (w : Str) : Bool := decide (1 ≤ ((dgs w).length : Int)) && (decide (((dgs w).length : Int) ≤ d) && ((cl (dgs w)).all (fun c => decide (c ∈ digitsS.cps.toList)) && !(decide ((cl (dgs w)).head? = some 48) && !decide (w = "0"))))
def intIn (d : Int) (w : Str) : Option Int := if inOk d w = true then PySem.intText? w else none
theorem cl_cut1 {w : Str} : cl (cutS w none (some 1)) = (cl w).take 1 := by
  have e1 : HT.sIx w.length 0 none = 0 := rfl
  have e2 : HT.sIx w.length w.length (some 1) = min 1 w.length := rfl
  show ((w.cps.toList.drop _).take _) = _
  rw [e1, e2, List.drop_zero, Nat.sub_zero]
  show (cl w).take _ = _
  rw [← cl_len w]
  cases cl w with
  | nil => rfl
  | cons c r => simp
theorem cl_cut2 {w : Str} : cl (cutS w (some 1) none) = (cl w).drop 1 := by
  have e1 : HT.sIx w.length 0 (some 1) = min 1 w.length := rfl
  have e2 : HT.sIx w.length w.length none = w.length := rfl
  show ((w.cps.toList.drop _).take _) = _
  rw [e1, e2]
  show ((cl w).drop _).take _ = _
  rw [← cl_len w]
  cases cl w with
  | nil => rfl
  | cons c r =>
    have : min 1 (c :: r).length = 1 := by simp
    rw [this]
    simp
theorem cut1_is {w : Str} : cutS w none (some 1) = "-" ↔ (cl w).head? = some 45 := by
  have e : cl "-" = [45] := by decide
  constructor
  · intro h
    have h2 := congrArg cl h
    rw [cl_cut1, e] at h2
    cases hw : cl w with
    | nil => rw [hw] at h2; cases h2
    | cons c r =>
      rw [hw] at h2
      have : c = 45 := by simpa using h2
      rw [this]
      rfl
  · intro h
    refine cl_inj ?_
    rw [cl_cut1, e]
    cases hw : cl w with
    | nil => rw [hw] at h; cases h
    | cons c r =>
      rw [hw] at h
      have : c = 45 := by simpa using h
      rw [this]
      rfl
theorem cl_dgs {w : Str} : cl (dgs w) = if (cl w).head? = some 45 then (cl w).tail else cl w := by
  unfold dgs
  by_cases h : cutS w none (some 1) = "-"
  · rw [if_pos h, if_pos (cut1_is.mp h), cl_cut2, List.drop_one]
  · rw [if_neg h, if_neg (fun z => h (cut1_is.mpr z))]
theorem all_digits {l : List Nat} (h : (l.all fun c => decide (c ∈ digitsS.cps.toList)) = true) : NumText.AllDigits l := fun c hc => digits_iff.mp (of_decide_eq_true (List.all_eq_true.mp h c hc))
theorem inOk_text {d : Int} {w : Str} (h : inOk d w = true) (hd : d ≤ 600) : w.length ≤ 640 ∧ ∃ n, PySem.intText? w = some n := by
  unfold inOk at h
  simp only [Bool.and_eq_true, decide_eq_true_eq] at h
  obtain ⟨h1, h2, h3, _⟩ := h
  have ha := all_digits h3
  have hl := cl_len (dgs w)
  have hw := cl_len w
  have hne : cl (dgs w) ≠ [] := fun e => by
    rw [e] at hl
    have : ([] : List Nat).length = 0 := rfl
    omega
  by_cases hm : (cl w).head? = some 45
  · have e := cl_dgs (w := w)
    rw [if_pos hm] at e
    cases hc : cl w with
    | nil => rw [hc] at hm; cases hm
    | cons c r =>
      rw [hc] at hm e hw
      have e45 : c = 45 := by simpa using hm
      have er : cl (dgs w) = r := e
      rw [er] at ha hne hl
      rw [List.length_cons] at hw
      have h640 : w.length ≤ 640 := by omega
      exact ⟨h640, _, intText_neg (cs := r) (by rw [← e45]; exact hc) ha hne (by omega)⟩
  · have e := cl_dgs (w := w)
    rw [if_neg hm] at e
    rw [e] at ha hne hl
    have h640 : w.length ≤ 640 := by omega
    exact ⟨h640, _, intText_digits ha hne (by omega)⟩
/-! a number's text -/
def tS (i : Int) : Str := Str.ofString (toString i)
theorem cl_tS0 (n : Nat) : cl (tS n) = numL n := tl_num n
theorem cl_ofString (s : String) : cl (Str.ofString s) = s.toList.map Char.toNat := by
  rw [PySem.Str.ofString_eq_toList]
  rfl
theorem cl_tSneg {n : Nat} (h : 0 < n) : cl (tS (-(n : Int))) = 45 :: numL n := by
  unfold tS
  rw [toString_neg (by omega)]
  have e : (0 : Int) - -(n : Int) = n := by omega
  rw [e, cl_ofString, String.toList_append, List.map_append, ← cl_ofString, ← cl_ofString]
  have e2 : cl (Str.ofString "-") = [45] := by decide
  rw [e2]
  have e3 := cl_tS0 n
  unfold tS at e3
  rw [e3]
  rfl
theorem tS_cases (i : Int) : (∃ n : Nat, i = n ∧ cl (tS i) = numL n) ∨ ∃ n : Nat, i = -(n : Int) ∧ 0 < n ∧ cl (tS i) = 45 :: numL n := by
  rcases Int.le_total 0 i with h | h
  · obtain ⟨n, rfl⟩ : ∃ n : Nat, i = n := ⟨i.toNat, by omega⟩
    exact .inl ⟨n, rfl, cl_tS0 n⟩
  · by_cases h0 : i = 0
    · subst h0
      exact .inl ⟨0, rfl, cl_tS0 0⟩
    · obtain ⟨n, rfl⟩ : ∃ n : Nat, i = -(n : Int) := ⟨(-i).toNat, by omega⟩
      exact .inr ⟨n, rfl, by omega, cl_tSneg (by omega)⟩
theorem tS_mem {i : Int} {c : Nat} (h : c ∈ cl (tS i)) : c = 45 ∨ (48 ≤ c ∧ c ≤ 57) := by
  rcases tS_cases i with ⟨n, _, e⟩ | ⟨n, _, _, e⟩
  · rw [e] at h
    exact .inr (numL_digits n c h)
  · rw [e] at h
    rcases List.mem_cons.mp h with h | h
    · exact .inl h
    · exact .inr (numL_digits n c h)
theorem numL_head {n : Nat} (h : (numL n).head? = some 48) : n = 0 := by
  induction n using Nat.strongRecOn with
  | _ n ih =>
    by_cases hn : n < 10
    · rw [numL_lt hn] at h
      have : 48 + n = 48 := by simpa using h
      omega
    · rw [numL_step (by omega)] at h
      have hne := numL_ne (n / 10)
      have e : (numL (n / 10) ++ [48 + n % 10]).head? = (numL (n / 10)).head? := by
        cases hh : numL (n / 10) with
        | nil => exact absurd hh hne
        | cons _ _ => rfl
      rw [e] at h
      have := ih (n / 10) (by omega) h
      omega
theorem tS_small {i : Int} {k : Nat} (h1 : -(10 ^ k) < i) (h2 : i < 10 ^ k) (hk : 0 < k) : (tS i).length ≤ k + 1 := by
  have hp : ((10 ^ k : Nat) : Int) = 10 ^ k := by simp
  rcases tS_cases i with ⟨n, e0, e⟩ | ⟨n, e0, _, e⟩
  · rw [← cl_len, e]
    have := numL_len hk (show n < 10 ^ k by omega)
    omega
  · rw [← cl_len, e, List.length_cons]
    have := numL_len hk (show n < 10 ^ k by omega)
    omega
theorem numL_head_ne {n : Nat} : (numL n).head? ≠ some 45 := fun h => by
  have hm : (45 : Nat) ∈ numL n := List.mem_of_head? h
  have := numL_digits n 45 hm
  omega
/-- what str(i) says is read back -/
theorem intIn_tS {i : Int} (h1 : -(10 ^ 79) < i) (h2 : i < 10 ^ 79) : intIn 80 (tS i) = some i := by
  have e48 : (cl "0") = [48] := by decide
  have hp : ((10 ^ 79 : Nat) : Int) = 10 ^ 79 := by simp
  rcases tS_cases i with ⟨n, e0, e⟩ | ⟨n, e0, hn, e⟩
  · have hd : cl (dgs (tS i)) = numL n := by rw [cl_dgs, e, if_neg numL_head_ne]
    have hl := numL_len (k := 79) (by decide) (show n < 10 ^ 79 by omega)
    have hl0 : 0 < (numL n).length := List.length_pos_iff.mpr (numL_ne n)
    have hdl : (dgs (tS i)).length = (numL n).length := by rw [← cl_len, hd]
    have ok : inOk 80 (tS i) = true := by
      unfold inOk
      simp only [Bool.and_eq_true, decide_eq_true_eq, List.all_eq_true, hd, hdl]
      refine ⟨by omega, by omega, fun c hc => digits_iff.mpr (numL_digits n c hc), ?_⟩
      rw [Bool.not_eq_true', Bool.and_eq_false_iff]
      by_cases hz : (numL n).head? = some 48
      · right
        have := numL_head hz
        subst this
        have : tS i = "0" := cl_inj (by rw [e, e48]; rfl)
        simp [this]
      · left
        simpa using hz
    unfold intIn
    rw [if_pos ok, intText_digits (by show NumText.AllDigits (cl (tS i)); rw [e]; exact numL_digits n) (by show cl (tS i) ≠ []; rw [e]; exact numL_ne n) (by rw [← cl_len, e]; omega)]
    show some ((NumText.digitsVal (cl (tS i)) : Nat) : Int) = _
    rw [e, numL_val, e0]
  · have hd : cl (dgs (tS i)) = numL n := by rw [cl_dgs, e]; simp
    have hl := numL_len (k := 79) (by decide) (show n < 10 ^ 79 by omega)
    have hl0 : 0 < (numL n).length := List.length_pos_iff.mpr (numL_ne n)
    have hdl : (dgs (tS i)).length = (numL n).length := by rw [← cl_len, hd]
    have ok : inOk 80 (tS i) = true := by
      unfold inOk
      simp only [Bool.and_eq_true, decide_eq_true_eq, List.all_eq_true, hd, hdl]
      refine ⟨by omega, by omega, fun c hc => digits_iff.mpr (numL_digits n c hc), ?_⟩
      rw [Bool.not_eq_true', Bool.and_eq_false_iff]
      left
      have : (numL n).head? ≠ some 48 := fun hz => by
        have := numL_head hz
        omega
      simpa using this
    unfold intIn
    rw [if_pos ok, intText_neg (cs := numL n) e (numL_digits n) (numL_ne n) (by rw [← cl_len, e, List.length_cons]; omega), numL_val, e0]
/-! lines -/
def rowS (r : Rw) : Str := Txt.join " " [r.nm, tS r.day, tS r.post, tS r.pace]
theorem nm_free {s : Str} (h : IsNm s) {c : Nat} (hc : c < 97) : c ∉ cl s := fun hm => by
  have := (h.2.2 c hm).1
  omega
theorem tS_free {i : Int} {c : Nat} (hc : c < 45) : c ∉ cl (tS i) := fun hm => by
  rcases tS_mem hm with h | h <;> omega
theorem sp_cl : cl " " = [32] := by decide
theorem nl_cl : cl "\n" = [10] := by decide
theorem sp_mk : (" " : Str) = ⟨#[32]⟩ := cl_inj (by rw [sp_cl]; rfl)
theorem nl_mk : ("\n" : Str) = ⟨#[10]⟩ := cl_inj (by rw [nl_cl]; rfl)
theorem row_split {r : Rw} (h : IsNm r.nm) : Txt.split (rowS r) " " = [r.nm, tS r.day, tS r.post, tS r.pace] := by
  unfold rowS
  rw [sp_mk]
  refine split_join (by simp) fun s hs => ?_
  simp only [List.mem_cons, List.not_mem_nil, or_false] at hs
  rcases hs with rfl | rfl | rfl | rfl
  · exact nm_free h (by decide)
  · exact tS_free (by decide)
  · exact tS_free (by decide)
  · exact tS_free (by decide)
theorem row_free {r : Rw} (h : IsNm r.nm) : 10 ∉ cl (rowS r) := by
  unfold rowS
  rw [cl_join, sp_cl]
  have h1 := nm_free h (show 10 < 97 by decide)
  have h2 := tS_free (i := r.day) (show 10 < 45 by decide)
  have h3 := tS_free (i := r.post) (show 10 < 45 by decide)
  have h4 := tS_free (i := r.pace) (show 10 < 45 by decide)
  simp [jn, h1, h2, h3, h4]
theorem row_len {r : Rw} (h : IsNm r.nm) (hn : NumOk r) : 4 ≤ (rowS r).length ∧ (rowS r).length ≤ 140 := by
  unfold rowS
  rw [← cl_len, cl_join, sp_cl]
  obtain ⟨a1, a2, a3, a4, a5, a6, a7⟩ := hn
  have l1 := tS_small (i := r.day) (k := 31) (by omega) (by omega) (by decide)
  have l2 := tS_small (i := r.post) (k := 31) (by omega) (by omega) (by decide)
  have l3 := tS_small (i := r.pace) (k := 31) (by omega) (by omega) (by decide)
  have l4 := h.1
  have l5 := h.2.1
  rw [← cl_len] at l1 l2 l3 l4 l5
  simp only [List.map_cons, List.map_nil, jn, List.length_append, List.length_singleton]
  omega
def fenceS (rs : List Rw) : Str := Txt.join "\n" (rs.map rowS)
theorem fence_split {rs : List Rw} (h0 : rs ≠ []) (h : ∀ r ∈ rs, IsNm r.nm) : Txt.split (fenceS rs) "\n" = rs.map rowS := by
  unfold fenceS
  rw [nl_mk]
  refine split_join (by simpa using h0) fun s hs => ?_
  obtain ⟨r, hr, rfl⟩ := List.mem_map.mp hs
  exact row_free (h r hr)
theorem line_eq (r : Rw) : Str.empty ++ r.nm ++ " " ++ tS r.day ++ " " ++ tS r.post ++ " " ++ tS r.pace = rowS r := by
  refine cl_inj ?_
  unfold rowS
  have e0 : cl Str.empty = [] := rfl
  rw [cl_join]
  simp only [cl_app, e0, sp_cl, List.nil_append, List.map_cons, List.map_nil, jn, List.append_assoc, List.singleton_append, List.cons_append]
end My
namespace My
open PySem PySem.Spec PyProof.Rows L2 TL
/-! a row as data -/
def rowD (r : Rw) : PyData := .tuple [.str r.nm, .int r.day, .int r.post, .int r.pace]
theorem strOk_of {s : Str} (h : ∀ c ∈ cl s, c < 0x110000) : PyData.strOk s = true := by
  unfold PyData.strOk
  rw [← Array.all_toList, List.all_eq_true]
  exact fun c hc => decide_eq_true (h c hc)
theorem nm_ok {s : Str} (h : IsNm s) : PyData.strOk s = true := strOk_of fun c hc => by
  have := (h.2.2 c hc).2
  omega
theorem rowD_lay {r : Rw} (h : IsNm r.nm) : (rowD r).canLay0 = true := by
  show (PyData.strOk r.nm && (true && (true && (true && true)))) = true
  rw [nm_ok h]
  rfl
theorem rowD_shaped {r : Rw} (h : IsNm r.nm) : SeqAt.shaped (rowD r) = true := by
  unfold SeqAt.shaped
  rw [rowD_lay h, Bool.true_and]
  exact decide_eq_true (show max 0 (max 0 (max 0 (max 0 0))) + 1 ≤ 64 by decide)
theorem rowD_dp {K : PySem.W.Frag} {H : Hp} {p : Addr} {r : Rw} (h : H p = some (.tup (rowV r))) : Dp K H (.ref p) (rowD r) :=
  .tup (SqT.of h) (.cons (.str _) (.cons (.int _) (.cons (.int _) (.cons (.int _) .nil))))
theorem sum_bound {l : List Nat} {b : Nat} (h : ∀ x ∈ l, x ≤ b) : l.sum ≤ b * l.length := by
  induction l with
  | nil => simp
  | cons a r ih =>
    have h1 := ih fun x hx => h x (List.mem_cons_of_mem _ hx)
    have h2 := h a List.mem_cons_self
    rw [List.sum_cons, List.length_cons, Nat.mul_succ]
    omega
theorem fence_sum {rs : List Rw} (h : RowsOk rs) : ((rs.map rowS).map (·.length)).sum ≤ 5600 := by
  have h1 := sum_bound (l := (rs.map rowS).map (·.length)) (b := 140) fun x hx => by
    obtain ⟨s, hs, rfl⟩ := List.mem_map.mp hx
    obtain ⟨r, hr, rfl⟩ := List.mem_map.mp hs
    exact (row_len (h.2.2.1 r hr) (h.1 r hr)).2
  rw [List.length_map, List.length_map] at h1
  have := h.2.2.2
  omega
theorem fenceS_nil : fenceS [] = "" := by
  refine cl_inj ?_
  unfold fenceS
  rw [cl_join]
  decide
theorem fenceS_ne {rs : List Rw} (h : RowsOk rs) (h0 : rs ≠ []) : fenceS rs ≠ "" := fun e => by
  cases rs with
  | nil => exact h0 rfl
  | cons r rs =>
    have h1 := congrArg (fun s => (cl s).length) e
    have h2 := (row_len (h.2.2.1 r List.mem_cons_self) (h.1 r List.mem_cons_self)).1
    rw [← cl_len] at h2
    have e0 : (cl "").length = 0 := by decide
    have h1 : (cl (fenceS (r :: rs))).length = (cl "").length := h1
    rw [e0] at h1
    unfold fenceS at h1
    rw [cl_join, List.map_cons, List.map_cons] at h1
    cases hr : (rs.map rowS).map cl with
    | nil =>
      rw [hr] at h1
      have : (cl (rowS r)).length = 0 := h1
      omega
    | cons a t =>
      rw [hr] at h1
      have h1 : (cl (rowS r) ++ cl "\n" ++ jn (cl "\n") (a :: t)).length = 0 := h1
      rw [List.length_append, List.length_append] at h1
      omega
theorem jn_len {c : List Nat} (hc : c.length = 1) : ∀ l : List (List Nat), (jn c l).length ≤ (l.map List.length).sum + l.length
  | [] => Nat.zero_le _
  | [a] => by
    show a.length ≤ _
    simp
  | a :: b :: r => by
    have ih := jn_len hc (b :: r)
    show (a ++ c ++ jn c (b :: r)).length ≤ _
    rw [List.length_append, List.length_append, hc, List.map_cons, List.sum_cons, List.length_cons]
    omega
theorem fence_len {rs : List Rw} (h : RowsOk rs) : (fenceS rs).length ≤ 6000 := by
  rw [← cl_len]
  unfold fenceS
  rw [cl_join]
  have h1 := jn_len (c := cl "\n") (by decide) ((rs.map rowS).map cl)
  have h2 := fence_sum h
  have h3 := h.2.2.2
  have e : ((rs.map rowS).map cl).map List.length = (rs.map rowS).map (·.length) := by
    rw [List.map_map]
    exact List.map_congr_left fun s _ => cl_len s
  rw [e, List.length_map, List.length_map] at h1
  omega
end My

set_option maxRecDepth 100000
set_option maxHeartbeats 4000000
/-! what repr says of texts and rows -/
namespace My
open PySem PySem.Spec PyProof.Rows L2 TL
theorem log_i {i : Int} (h1 : -(10 ^ 70) ≤ i) (h2 : i ≤ 10 ^ 70) : i.natAbs.log2 < 1920 := by
  by_cases h : i.natAbs = 0
  · rw [h]
    decide
  · have e : (10 : Int) ^ 70 < 2 ^ 250 := by decide
    exact Nat.lt_trans ((Nat.log2_lt h).mpr (show i.natAbs < 2 ^ 250 by omega)) (by decide)
theorem jn_memb {c : List Nat} {x : Nat} : ∀ {l : List (List Nat)}, x ∈ jn c l → x ∈ c ∨ ∃ a ∈ l, x ∈ a
  | [], h => (List.not_mem_nil h).elim
  | [a], h => .inr ⟨a, List.mem_cons_self, h⟩
  | a :: b :: r, h => by
    have h : x ∈ a ++ c ++ jn c (b :: r) := h
    rcases List.mem_append.mp h with h | h
    · rcases List.mem_append.mp h with h | h
      · exact .inr ⟨a, List.mem_cons_self, h⟩
      · exact .inl h
    · rcases jn_memb h with h | ⟨y, hy, h⟩
      · exact .inl h
      · exact .inr ⟨y, List.mem_cons_of_mem _ hy, h⟩
theorem row_small {r : Rw} (h : IsNm r.nm) {c : Nat} (hc : c ∈ cl (rowS r)) : c < 128 := by
  unfold rowS at hc
  rw [cl_join] at hc
  rcases jn_memb hc with h1 | ⟨a, ha, h1⟩
  · rw [sp_cl] at h1
    have : c = 32 := by simpa using h1
    omega
  · obtain ⟨s, hs, rfl⟩ := List.mem_map.mp ha
    simp only [List.mem_cons, List.not_mem_nil, or_false] at hs
    rcases hs with rfl | rfl | rfl | rfl
    · have := (h.2.2 c h1).2
      omega
    · have := tS_mem h1
      omega
    · have := tS_mem h1
      omega
    · have := tS_mem h1
      omega
theorem fence_small {rs : List Rw} (h : ∀ r ∈ rs, IsNm r.nm) {c : Nat} (hc : c ∈ cl (fenceS rs)) : c < 128 := by
  unfold fenceS at hc
  rw [cl_join] at hc
  rcases jn_memb hc with h1 | ⟨a, ha, h1⟩
  · rw [nl_cl] at h1
    have : c = 10 := by simpa using h1
    omega
  · obtain ⟨s, hs, rfl⟩ := List.mem_map.mp ha
    obtain ⟨r, hr, rfl⟩ := List.mem_map.mp hs
    exact row_small (h r hr) h1
theorem repr_le {s : Str} (h : ∀ c ∈ cl s, c < 128) : (reprText s).length ≤ 10 * s.length + 2 := StrLaws.reprText_len s fun c hc => by
  have e : (16 : Nat) ^ 8 = 4294967296 := by decide
  have := h c hc
  omega
theorem rowD_show {r : Rw} (h : NumOk r) : (rowD r).showable = true := by
  obtain ⟨a1, a2, a3, a4, a5, a6, a7⟩ := h
  show (true && (decide (r.day.natAbs.log2 < 1920) && (decide (r.post.natAbs.log2 < 1920) && (decide (r.pace.natAbs.log2 < 1920) && true)))) = true
  rw [decide_eq_true (log_i (by omega) (by omega)), decide_eq_true (log_i (by omega) (by omega)), decide_eq_true (log_i (by omega) (by omega))]
  rfl
theorem rowD_len {r : Rw} (h : IsNm r.nm) (hn : NumOk r) : (rowD r).shown.length ≤ 1000 := by
  obtain ⟨a1, a2, a3, a4, a5, a6, a7⟩ := hn
  have l1 := tS_small (i := r.day) (k := 31) (by omega) (by omega) (by decide)
  have l2 := tS_small (i := r.post) (k := 31) (by omega) (by omega) (by decide)
  have l3 := tS_small (i := r.pace) (k := 31) (by omega) (by omega) (by decide)
  have l0 := repr_le (s := r.nm) fun c hc => by have := (h.2.2 c hc).2; omega
  have l4 := h.2.1
  have e : (rowD r).shown = ("(" : Str) ++ Str.join ", " [reprText r.nm, tS r.day, tS r.post, tS r.pace] ++ (")" : String) := rfl
  have e2 : Str.join ", " [reprText r.nm, tS r.day, tS r.post, tS r.pace] = reprText r.nm ++ ", " ++ (tS r.day ++ ", " ++ (tS r.post ++ ", " ++ tS r.pace)) := rfl
  rw [e, e2]
  simp only [PySem.Str.length_append]
  have e3 : ("(" : Str).length = 1 := by decide
  have e4 : (", " : Str).length = 2 := by decide
  have e5 : (Str.ofString ")").length = 1 := by decide
  rw [e3, e4, e5]
  omega
theorem rowD_dict (r : Rw) : (rowD r).hasDict = false := rfl
/-- the texts at the ends of the bounds -/
def endA : Rw := ⟨"a", 0, -(10 ^ 30), 10 ^ 18⟩
def endB : Rw := ⟨"b", 10 ^ 30, 0, -(10 ^ 18)⟩
theorem ends_ok : RowsOk [endA, endB] := by
  refine ⟨fun r hr => ?_, by decide +kernel, fun r hr => ?_, by decide⟩
  · simp only [List.mem_cons, List.not_mem_nil, or_false] at hr
    rcases hr with rfl | rfl
    · exact ⟨by decide, by decide, by decide, by decide, by decide, by decide, by decide⟩
    · exact ⟨by decide, by decide, by decide, by decide, by decide, by decide, by decide⟩
  · rw [← nmB_iff]
    simp only [List.mem_cons, List.not_mem_nil, or_false] at hr
    rcases hr with rfl | rfl <;> decide +kernel
section
variable {K : PySem.W.Frag} {H : Hp} {Q : VK}
theorem r_reprS {z : Str} (h : (reprText z).length ≤ sizeLine) (q : Q (.str (reprText z)) H) : rReprD K [.str z] H Q := ⟨_, .str z, rfl, .str z, rfl, rfl, Nat.zero_le _, h, q⟩
theorem r_reprRow {p : Addr} {r : Rw} (hp : H p = some (.tup (rowV r))) (h : IsNm r.nm) (hn : NumOk r) (q : Q (.str (rowD r).shown) H) : rReprD K [.ref p] H Q :=
  ⟨_, rowD r, rfl, rowD_dp hp, rowD_show hn, rowD_dict r, (show max 0 (max 0 (max 0 (max 0 0))) + 1 ≤ 40 by decide), Nat.le_trans (rowD_len h hn) (show 1000 ≤ 16777216 by decide), q⟩
theorem strs_lay : ∀ {l : List Str}, (∀ x ∈ l, IsNm x) → PyData.canLayAll0 (l.map PyData.str) = true
  | [], _ => rfl
  | a :: r, h => by
    show (PyData.strOk a && PyData.canLayAll0 (r.map PyData.str)) = true
    rw [nm_ok (h a List.mem_cons_self), strs_lay fun x hx => h x (List.mem_cons_of_mem _ hx)]
    rfl
theorem strs_depth : ∀ l : List Str, PyData.depthAll (l.map PyData.str) = 0
  | [] => rfl
  | a :: r => by
    show max 0 (PyData.depthAll (r.map PyData.str)) = 0
    rw [strs_depth r]
    rfl
theorem strs_dp : ∀ l : List Str, DpAll K H (l.map V.str) (l.map PyData.str)
  | [] => .nil
  | a :: r => .cons (.str a) (strs_dp r)
/-- two tuples of the same names -/
theorem r_neNames {p q : Addr} {l : List Str} (h : ∀ x ∈ l, IsNm x) (hp : H p = some (.tup (l.map V.str))) (hq : H q = some (.tup (l.map V.str))) (k : Q (.bl false) H) : rNeU K (.ref p) (.ref q) H Q := by
  have hlay : (PyData.tuple (l.map PyData.str)).canLay0 = true := strs_lay h
  have sh : SeqAt.shaped (.tuple (l.map PyData.str)) = true := by
    unfold SeqAt.shaped
    rw [hlay, Bool.true_and]
    refine decide_eq_true ?_
    show PyData.depthAll (l.map PyData.str) + 1 ≤ 64
    rw [strs_depth]
    decide
  refine .inr ⟨_, _, .tup (SqT.of hp) (strs_dp l), .tup (SqT.of hq) (strs_dp l), sh, sh, ?_⟩
  rw [SeqAt.eqv_refl _ hlay]
  exact k
end
def zS (n : Nat) : Str := ⟨(List.replicate n (Str.ofString "0").cps).foldl (· ++ ·) #[]⟩
theorem r_zeros {n : Int} {H : Hp} {Q : VK} (h1 : 2 ≤ n) (h2 : n ≤ 40) (hz : (zS n.toNat).length ≤ sizeLine) (q : Q (.str (zS n.toNat)) H) : rMulU (.str (Str.ofString "0")) (.int n) H Q := .inr ⟨_, n, rfl, rfl, h1, by omega, by decide, by decide, hz, q⟩
theorem ends_text : Str.ofString "a 0 -" ++ Str.ofString "1" ++ zS 30 ++ Str.ofString " 1" ++ zS 18 ++ Str.ofString "\nb 1" ++ zS 30 ++ Str.ofString " 0 -1" ++ zS 18 = fenceS [endA, endB] := by decide +kernel
end My

set_option maxRecDepth 100000
set_option maxHeartbeats 4000000
/-! what is read as a number, a line: its text -/
namespace My
open PySem PySem.Spec PyProof.Rows L2 TL
theorem numL_digitsVal {cs : List Nat} (h : NumText.AllDigits cs) (hne : cs ≠ []) (h0 : cs.head? = some 48 → cs = [48]) : numL (NumText.digitsVal cs) = cs := by
  have hl : cs.length = (cs.length - 1) + 1 := by
    have := List.length_pos_iff.mpr hne
    omega
  have key := NumText.toDigits_digitsVal (cs.length - 1) cs hl h (by
    cases cs with
    | nil => exact absurd rfl hne
    | cons c r =>
      by_cases hc : c = 48
      · subst hc
        have := h0 rfl
        rw [this]
        exact .inl rfl
      · have := h c List.mem_cons_self
        exact .inr ⟨c, r, rfl, by omega⟩)
  show (Nat.toDigits 10 (NumText.digitsVal cs)).map Char.toNat = cs
  rw [key, List.map_map]
  refine (List.map_congr_left fun c hc => ?_).trans (List.map_id cs)
  have hd := h c hc
  show (Char.ofNat c).toNat = c
  have hv : c.isValidChar := .inl (by omega)
  unfold Char.ofNat
  rw [dif_pos hv]
  rfl
theorem digitsVal_eq0 {cs : List Nat} (h : NumText.AllDigits cs) (hne : cs ≠ []) (h0 : cs.head? = some 48 → cs = [48]) (e : NumText.digitsVal cs = 0) : cs = [48] := by
  have := numL_digitsVal h hne h0
  rw [e] at this
  rw [← this]
  rfl
/-- a word that is a number is the number's text -/
theorem intIn_inv {w : Str} {n : Int} (hi : intIn 80 w = some n) : tS n = w := by
  unfold intIn at hi
  split at hi
  · rename_i ok
    have ok' := ok
    unfold inOk at ok
    simp only [Bool.and_eq_true, decide_eq_true_eq] at ok
    obtain ⟨h1, h2, h3, h4⟩ := ok
    have ha := all_digits h3
    have hl := cl_len (dgs w)
    have hw := cl_len w
    have hne : cl (dgs w) ≠ [] := fun e => by
      rw [e] at hl
      have : ([] : List Nat).length = 0 := rfl
      omega
    have e48 : (cl "0") = [48] := by decide
    have h0 : (cl (dgs w)).head? = some 48 → w = "0" := fun h => by
      rw [decide_eq_true h, Bool.true_and, Bool.not_not] at h4
      exact of_decide_eq_true h4
    by_cases hm : (cl w).head? = some 45
    · have e := cl_dgs (w := w)
      rw [if_pos hm] at e
      cases hc : cl w with
      | nil => rw [hc] at hm; cases hm
      | cons c r =>
        rw [hc] at hm e hw
        have e45 : c = 45 := by simpa using hm
        have er : cl (dgs w) = r := e
        rw [er] at ha hne hl h0
        rw [List.length_cons] at hw
        have hn0 : r.head? ≠ some 48 := fun z => by
          have := h0 z
          rw [this, e48] at hc
          cases hc
          cases e45
        have hi2 := intText_neg (cs := r) (by rw [← e45]; exact hc) ha hne (by omega)
        rw [hi2] at hi
        cases hi
        have hv := numL_digitsVal ha hne fun z => absurd z hn0
        have hpos : 0 < NumText.digitsVal r := by
          rcases Nat.eq_zero_or_pos (NumText.digitsVal r) with z | z
          · have := digitsVal_eq0 ha hne (fun z => absurd z hn0) z
            rw [this] at hn0
            exact absurd rfl hn0
          · exact z
        refine cl_inj ?_
        rw [cl_tSneg hpos, hv, hc, e45]
    · have e := cl_dgs (w := w)
      rw [if_neg hm] at e
      rw [e] at ha hne hl h0
      have hi2 := intText_digits ha hne (by omega)
      rw [hi2] at hi
      cases hi
      refine cl_inj ?_
      rw [cl_tS0]
      refine numL_digitsVal ha hne fun z => ?_
      rw [h0 z]
      exact e48
  · cases hi
end My

set_option maxRecDepth 100000
set_option maxHeartbeats 4000000
/-! a law's end where its def is promised for known guards, with one table of code objects -/
namespace My
open PySem PySem.Spec PyProof.Rows L2 LamX
/-- an empty table of code objects -/
abbrev tabO : Obj := { cls := .none, data := .fields #[] }
/-- what the end says of the module object of the built-ins -/
def BmAt (h : Heap) (mg : Str → Option Value) : Prop := ∃ (bm : Addr) (ob : Obj), mg "__builtins__" = some (.ref bm) ∧ bm ≠ builtinsNs ∧ h.get? bm = some ob ∧ ob.cls = .type "module" ∧ ob.dict = some builtinsNs ∧ ob.data = .plain
section
variable {P : Program} {w : World} {K : PySem.W.Frag} {mg mb : Str → Option Value} {k : Nat} {f p cd tb : Addr} {sp : Sp} {t : Shared} {us : List Value} {ns : List Int}
theorem tabB_at {h base : Heap} (up : ∀ b o, h.get? b = some o → (∀ v n, o.data ≠ .seq v n) → o.data ≠ .fields #[] → base.get? b = some o) (gl : h.Ns mainGlobals mg) (tab : h.get? tb = some tabO) (c : PySem.W.CodeHd h cd tb) (bm : BmAt h mg) : TabB base mg cd tb := by
  have glT : mainGlobals ≠ tb := by
    obtain ⟨_, _, _, e, d, _⟩ := gl
    intro z
    rw [z, tab] at e
    injection e with e
    rw [← e] at d
    nomatch d
  refine ⟨?_, ?_, glT⟩
  · obtain ⟨o, xs, fl, tf, fg, tg, inF, tx, tt, c1, c2, c3, c4, rest⟩ := c
    refine ⟨o, xs, fl, tf, fg, tg, inF, tx, tt, up cd o c1 ?_ ?_, c2, c3, c4, rest⟩
    · intro v n z
      rw [c3] at z
      nomatch z
    · intro z
      rw [c3] at z
      have z : xs = #[] := Data.fields.inj z
      rw [z] at c4
      nomatch c4
  · obtain ⟨m, om, m1, m2, m3, m4, m5, m6⟩ := bm
    have away : m ≠ tb := by
      intro z
      rw [z, tab] at m3
      injection m3 with m3
      rw [← m3] at m6
      nomatch m6
    have awayG : m ≠ mainGlobals := by
      obtain ⟨_, _, _, e, d, _⟩ := gl
      intro z
      rw [z, e] at m3
      injection m3 with m3
      rw [← m3, d] at m6
      nomatch m6
    refine ⟨m, om, m1, m2, awayG, away, up m om m3 ?_ ?_, m4, m5, m6⟩
    · intro v n z
      rw [m6] at z
      nomatch z
    · intro z
      rw [m6] at z
      nomatch z
theorem core_atT (kin : K.In t.heap) (gl : t.heap.Ns mainGlobals mg) (bl : t.heap.Ns builtinsNs mb) (bb : ∀ x : Str, x ≠ "__name__" → mb x = bootBuiltins x) (nl : t.heap.NoLimit) (gn : t.gens = #[])
    (at_ : t.heap.get? p = some { cls := .type "list", data := .seq us.toArray }) (tab : t.heap.get? tb = some tabO) (tk : K.lookup tb = none) (c : PySem.W.CodeHd t.heap cd tb) (bm : BmAt t.heap mg)
    (room : Room k callerA) (F : ∀ base : Heap, K.In base → base.Ns mainGlobals mg → TabB base mg cd tb → FnG P w K mg base (L2.CX P w) k f sp)
    {H : Hp} (hT : H tb = some (.tbl #[])) (only : ∀ b, b ≠ tb → H b = none ∨ ∃ o xs, H b = some (.frz o (.lst xs))) (want : sp [.ref p] H (fun v _ => v = .bl true) fun _ _ _ => False) (ok : HOk P w H t.heap) (one : ∀ b, H b ≠ none → b = p ∨ b = tb) (kn : H p ≠ none → K.lookup p = none) :
    codeAny (model P w) callerA (.call (.ref f) ⟨[.ref p], []⟩) (Told t) t := by
  have gone : ∀ b o, t.heap.get? b = some o → (∀ v n, o.data ≠ .seq v n) → o.data ≠ .fields #[] → H b = none := fun b o e n1 n2 => by
    by_cases z : H b = none
    · exact z
    · exfalso
      rcases one b z with rfl | rfl
      · rw [at_] at e
        cases e
        exact n1 _ _ rfl
      · rw [tab] at e
        cases e
        exact n2 rfl
  have up : ∀ b o, t.heap.get? b = some o → (∀ v n, o.data ≠ .seq v n) → o.data ≠ .fields #[] → (hidT t.heap H).get? b = some o := fun b o e n1 n2 => hidT_get e (gone b o e n1 n2)
  have names : ∀ (b : Addr) (m : Str → Option Value), t.heap.Ns b m → (hidT t.heap H).Ns b m := fun b m z => by
    obtain ⟨o, es, n, e, d, r⟩ := z
    refine ⟨o, es, n, up b o e (fun v n z => ?_) (fun z => ?_), d, r⟩ <;> (rw [d] at z; cases z)
  have kb : K.In (hidT t.heap H) := fun b o e => by
    refine hidT_get (kin b o e) ?_
    by_cases z : H b = none
    · exact z
    · exfalso
      rcases one b z with rfl | rfl
      · rw [kn z] at e
        cases e
      · rw [tk] at e
        cases e
  obtain ⟨mc, nl1, nl2⟩ := nl
  have mod : Mod K mg (hidT t.heap H) := ⟨kb, names _ _ gl, ⟨mb, names _ _ bl, bb⟩, ⟨mc, names _ _ nl1, nl2⟩⟩
  have env : Env0 P w K mg (hidT t.heap H) callerA [] t H := ⟨rfl, mod, fun b o e => of_hidT e, Nat.le_of_eq (hidT_size _ _), trivial, fun b hb => (List.not_mem_nil hb).elim, ok, .of_eq gn⟩
  refine codeAny_mono (F _ kb (names _ _ gl) (tabB_at up gl tab c bm) callerA [] t H [.ref p] [.ref p] _ _ room rfl env (.cons rfl .nil) want) fun r u z => ?_
  match r, z with
  | .error x, z =>
    exfalso
    have z : L2.CX P w [] H t (fun _ _ _ => False) x u := z
    obtain ⟨_, _, _, _, _, _, _, _, _, _, _, _, hE⟩ := z
    exact hE
  | .ok .next, z => exact False.elim z
  | .ok .brk, z => exact False.elim z
  | .ok .cont, z => exact False.elim z
  | .ok (.ret y), z =>
    obtain ⟨v, H2, os, bare, un, ok2, rel, q⟩ := z
    have q : v = .bl true := q
    subst q
    obtain rfl : y = Value.bool true := rel
    have stay : ∀ b o, b ≠ tb → t.heap.get? b = some o → u.heap.get? b = some o := fun b o nb e => by
      rcases only b nb with z | ⟨ob, xs, z⟩
      · exact un.keep b o e z (by simp [frs]) (by simp)
      · obtain ⟨e1, _⟩ := ok b _ z
        obtain ⟨e2, _⟩ := ok2 b _ (un.frzs b ob _ z)
        rw [e1] at e
        cases e
        exact e2
    obtain ⟨more, grow⟩ := un.tbls tb #[] hT
    have grown : u.heap.get? tb = some { cls := .none, data := .fields (#[] ++ more) } := ok2 tb _ grow
    refine ⟨rfl, ⟨fun b o e => ?_, fun b o e => ?_⟩, os, bare⟩
    · by_cases hb : b = tb
      · subst hb
        rw [tab] at e
        injection e with e
        subst e
        exact .inr (.inl ⟨(c.tab tab).isCodeTable, rfl, #[], more, rfl, grown⟩)
      · exact .inl (stay b o hb e)
    · by_cases hb : b = tb
      · subst hb
        exact ⟨_, grown⟩
      · exact ⟨o, stay b o hb e⟩
theorem law_atT (kin : K.In t.heap) (gl : t.heap.Ns mainGlobals mg) (bl : t.heap.Ns builtinsNs mb) (bb : ∀ x : Str, x ≠ "__name__" → mb x = bootBuiltins x) (nl : t.heap.NoLimit) (gn : t.gens = #[])
    (at_ : t.heap.get? p = some { cls := .type "list", data := .seq us.toArray }) (tab : t.heap.get? tb = some tabO) (tk : K.lookup tb = none) (c : PySem.W.CodeHd t.heap cd tb) (bm : BmAt t.heap mg)
    (isInts : IntsAre us ns) (few : ns.length ≤ sizeLine) (room : Room k callerA) (F : ∀ base : Heap, K.In base → base.Ns mainGlobals mg → TabB base mg cd tb → FnG P w K mg base (L2.CX P w) k f sp)
    (want : ∀ H : Hp, H tb = some (.tbl #[]) → SqL K H p (ns.map V.int) → sp [.ref p] H (fun v _ => v = .bl true) fun _ _ _ => False) : codeAny (model P w) callerA (.call (.ref f) ⟨[.ref p], []⟩) (Told t) t := by
  have rel := vals_ints isInts
  have len := isInts.length
  have apart : p ≠ tb := fun z => by
    rw [z, tab] at at_
    have := congrArg Obj.data (Option.some.inj at_)
    cases this
  by_cases hk : K.lookup p = none
  · generalize ho : (HO.frz { cls := .type "list", data := .seq us.toArray } (.lst (ns.map V.int))) = o
    have here : (fun b => if b = p then some o else if b = tb then some (.tbl #[]) else none : Hp) p = some o := if_pos rfl
    have hereT : (fun b => if b = p then some o else if b = tb then some (.tbl #[]) else none : Hp) tb = some (.tbl #[]) := (if_neg apart.symm).trans (if_pos rfl)
    have away : ∀ b, b ≠ p → b ≠ tb → (fun b => if b = p then some o else if b = tb then some (.tbl #[]) else none : Hp) b = none := fun b z z2 => (if_neg z).trans (if_neg z2)
    generalize (fun b => if b = p then some o else if b = tb then some (.tbl #[]) else none : Hp) = H at here hereT away
    refine core_atT kin gl bl bb nl gn at_ tab tk c bm room F hereT (fun b nb => ?_) (want H hereT (.inl (.inr ⟨_, by rw [here, ← ho]⟩))) (fun b u z => ?_) (fun b z => ?_) fun _ => hk
    · by_cases z : b = p
      · exact .inr ⟨_, _, by rw [z, here, ← ho]⟩
      · exact .inl (away b z nb)
    · by_cases e : b = p
      · subst e
        rw [here, ← ho] at z
        cases z
        exact ⟨at_, by rw [List.length_map]; exact few, us, _, rel, at_⟩
      · by_cases e2 : b = tb
        · subst e2
          rw [hereT] at z
          cases z
          exact tab
        · rw [away b e e2] at z
          cases z
    · by_cases e : b = p
      · exact .inl e
      · by_cases e2 : b = tb
        · exact .inr e2
        · exact absurd (away b e e2) z
  · obtain ⟨o, hk⟩ : ∃ o, K.lookup p = some o := by
      cases z : K.lookup p with
      | none => exact absurd z hk
      | some o => exact ⟨o, rfl⟩
    have e := kin p o hk
    rw [at_] at e
    cases e
    have hereT : (fun b => if b = tb then some (.tbl #[]) else none : Hp) tb = some (.tbl #[]) := if_pos rfl
    have away : ∀ b, b ≠ tb → (fun b => if b = tb then some (.tbl #[]) else none : Hp) b = none := fun b z => if_neg z
    generalize (fun b => if b = tb then some (.tbl #[]) else none : Hp) = H at hereT away
    refine core_atT kin gl bl bb nl gn at_ tab tk c bm room F hereT (fun b nb => .inl (away b nb)) (want H hereT (.inr ⟨_, us.toArray, _, hk, rfl, rfl, rfl, by rw [List.size_toArray, len]; exact few, by simpa using rel⟩)) (fun b u z => ?_) (fun b z => ?_) fun z => absurd (away p apart) z
    · by_cases e2 : b = tb
      · subst e2
        rw [hereT] at z
        cases z
        exact tab
      · rw [away b e2] at z
        cases z
    · by_cases e2 : b = tb
      · exact .inr e2
      · exact absurd (away b e2) z
end
/-- the end over a head by facts, with a table -/
theorem walk_GT {l : PySem.W.OpenLaw} {n k : Nat} {q : Program} {loose : List Str} {XP : (Str → Option Value) → Heap → Prop} {YP : World → Heap → Prop} {d : DefRec} (hn : l.most = some n) (hz : n ≤ sizeLine) (hd : d.params.defaults = []) (room : Room k callerA)
    (F : ∀ (w : World) (mg : Str → Option Value) (f : Addr) (h : Heap), YP w h → h.Ns mainGlobals mg → mg d.name = some (.ref f) →
      ∃ (K : PySem.W.Frag) (cd tb : Addr) (sp : Sp), K.In h ∧ h.get? tb = some tabO ∧ K.lookup tb = none ∧ PySem.W.CodeHd h cd tb ∧ (∀ (H : Hp) (p : Addr) (ns : List Int), ns.length ≤ n → H tb = some (.tbl #[]) → SqL K H p (ns.map V.int) → sp [.ref p] H (fun v _ => v = .bl true) fun _ _ _ => False) ∧
        ∀ base : Heap, K.In base → base.Ns mainGlobals mg → TabB base mg cd tb → FnG l.prog w K mg base (L2.CX l.prog w) k f sp) : PySem.W.WalkO q loose XP YP l.row.toRowW d [] (fun f vs => PySem.call f vs) := by
  refine Att.attach_callB hn hd fun w t0 t mg mb f o pm cd doc p us ns G Y ho hf hcd hmg hobj hints hlen hbits hg => ?_
  obtain ⟨K, cd, tb, sp, kin, tab, tk, c, want, hF⟩ := F w mg f _ Y G.T.g hmg
  exact law_atT kin G.T.g G.T.b G.T.builtins G.T.nolimit hg hobj tab tk c G.T.bmain hints (Nat.le_trans hlen hz) room hF fun H hT rd => want H p ns hlen hT rd
end My

set_option maxRecDepth 100000
set_option maxHeartbeats 0
namespace Tx
open PySem PySem.Spec PyProof.Rows L2 He5
def topS (i : Nat) : Stmt := PySem.Challenge.pw_paintposts_k84_texts_that_are_no_fence.main.body.getD i (.Pass ⟨0, 0, 0, 0⟩)
abbrev s_is_integer : Stmt := topS 12
abbrev N_is_integer : List Str := ["value"]
theorem sc_is_integer : FnScope N_is_integer ["value"] (defScope s_is_integer) := ⟨rfl, rfl, rfl, by decide +kernel, rfl, by decide +kernel, by decide +kernel⟩

abbrev s_is_between : Stmt := topS 13
abbrev N_is_between : List Str := ["value", "low", "high"]
theorem sc_is_between : FnScope N_is_between ["value", "low", "high"] (defScope s_is_between) := ⟨rfl, rfl, rfl, by decide +kernel, rfl, by decide +kernel, by decide +kernel⟩

abbrev s_is_name : Stmt := topS 16
abbrev N_is_name : List Str := ["value", "letter"]
theorem sc_is_name : FnScope N_is_name ["value"] (defScope s_is_name) := ⟨rfl, rfl, rfl, by decide +kernel, rfl, by decide +kernel, by decide +kernel⟩

abbrev s_integer_in : Stmt := topS 20
abbrev N_integer_in : List Str := ["word", "digits", "number", "digit"]
theorem sc_integer_in : FnScope N_integer_in ["word", "digits"] (defScope s_integer_in) := ⟨rfl, rfl, rfl, by decide +kernel, rfl, by decide +kernel, by decide +kernel⟩

abbrev s_painter_line : Stmt := topS 21
abbrev N_painter_line : List Str := ["name", "day", "post", "stride"]
theorem sc_painter_line : FnScope N_painter_line ["name", "day", "post", "stride"] (defScope s_painter_line) := ⟨rfl, rfl, rfl, by decide +kernel, rfl, by decide +kernel, by decide +kernel⟩

abbrev s_painter_parts : Stmt := topS 22
abbrev N_painter_parts : List Str := ["line", "name", "words", "numbers", "word"]
theorem sc_painter_parts : FnScope N_painter_parts ["line"] (defScope s_painter_parts) := ⟨rfl, rfl, rfl, by decide +kernel, rfl, by decide +kernel, by decide +kernel⟩

abbrev s_Painter_init : Stmt := inClass (topS 24) 3
abbrev N_Painter_init : List Str := ["self", "name", "day", "post", "stride"]
theorem sc_Painter_init : FnScope N_Painter_init ["self", "name", "day", "post", "stride"] (defScope s_Painter_init) := ⟨rfl, rfl, rfl, by decide +kernel, rfl, by decide +kernel, by decide +kernel⟩

abbrev s_Painter_read : Stmt := inClass (topS 24) 5
abbrev N_Painter_read : List Str := ["cls", "text", "parts"]
theorem sc_Painter_read : FnScope N_Painter_read ["cls", "text"] (defScope s_Painter_read) := ⟨rfl, rfl, rfl, by decide +kernel, rfl, by decide +kernel, by decide +kernel⟩

abbrev s_Painter_name : Stmt := inClass (topS 24) 6
abbrev N_Painter_name : List Str := ["self"]
theorem sc_Painter_name : FnScope N_Painter_name ["self"] (defScope s_Painter_name) := ⟨rfl, rfl, rfl, by decide +kernel, rfl, by decide +kernel, by decide +kernel⟩

abbrev s_Painter_day : Stmt := inClass (topS 24) 7
abbrev N_Painter_day : List Str := ["self"]
theorem sc_Painter_day : FnScope N_Painter_day ["self"] (defScope s_Painter_day) := ⟨rfl, rfl, rfl, by decide +kernel, rfl, by decide +kernel, by decide +kernel⟩

abbrev s_Painter_post : Stmt := inClass (topS 24) 8
abbrev N_Painter_post : List Str := ["self"]
theorem sc_Painter_post : FnScope N_Painter_post ["self"] (defScope s_Painter_post) := ⟨rfl, rfl, rfl, by decide +kernel, rfl, by decide +kernel, by decide +kernel⟩

abbrev s_Painter_stride : Stmt := inClass (topS 24) 9
abbrev N_Painter_stride : List Str := ["self"]
theorem sc_Painter_stride : FnScope N_Painter_stride ["self"] (defScope s_Painter_stride) := ⟨rfl, rfl, rfl, by decide +kernel, rfl, by decide +kernel, by decide +kernel⟩

abbrev s_Painter_text : Stmt := inClass (topS 24) 11
abbrev N_Painter_text : List Str := ["self"]
theorem sc_Painter_text : FnScope N_Painter_text ["self"] (defScope s_Painter_text) := ⟨rfl, rfl, rfl, by decide +kernel, rfl, by decide +kernel, by decide +kernel⟩

abbrev s_Fence_init : Stmt := inClass (topS 26) 0
abbrev N_Fence_init : List Str := ["self", "painters", "index", "painter", "names", "name"]
theorem sc_Fence_init : FnScope N_Fence_init ["self", "painters"] (defScope s_Fence_init) := ⟨rfl, rfl, rfl, by decide +kernel, rfl, by decide +kernel, by decide +kernel⟩

abbrev s_Fence_read : Stmt := inClass (topS 26) 1
abbrev N_Fence_read : List Str := ["cls", "text", "found", "index", "line"]
theorem sc_Fence_read : FnScope N_Fence_read ["cls", "text"] (defScope s_Fence_read) := ⟨rfl, rfl, rfl, by decide +kernel, rfl, by decide +kernel, by decide +kernel⟩

abbrev s_Fence_text : Stmt := inClass (topS 26) 4
abbrev N_Fence_text : List Str := ["self", "painter"]
theorem sc_Fence_text : FnScope N_Fence_text ["self"] (defScope s_Fence_text) := ⟨rfl, rfl, rfl, by decide +kernel, rfl, by decide +kernel, by decide +kernel⟩

abbrev s_Lpen : Stmt := topS 28
abbrev N_Lpen : List Str := ["_law_script"]
theorem sc_Lpen : FnScope N_Lpen ["_law_script"] (defScope s_Lpen) := ⟨rfl, rfl, rfl, by decide +kernel, rfl, by decide +kernel, by decide +kernel⟩

abbrev s_Ldraw : Stmt := topS 29
abbrev N_Ldraw : List Str := ["_law_pen_here", "_law_many", "_law_digit", "_law_site", "_law_cell", "_law_mixed"]
theorem sc_Ldraw : FnScope N_Ldraw ["_law_pen_here", "_law_many"] (defScope s_Ldraw) := ⟨rfl, rfl, rfl, by decide +kernel, rfl, by decide +kernel, by decide +kernel⟩

abbrev s_Lpick : Stmt := topS 30
abbrev N_Lpick : List Str := ["_law_pen_here", "_law_options"]
theorem sc_Lpick : FnScope N_Lpick ["_law_pen_here", "_law_options"] (defScope s_Lpick) := ⟨rfl, rfl, rfl, by decide +kernel, rfl, by decide +kernel, by decide +kernel⟩

abbrev s_Laround : Stmt := topS 31
abbrev N_Laround : List Str := ["_law_pen_here", "_law_most"]
theorem sc_Laround : FnScope N_Laround ["_law_pen_here", "_law_most"] (defScope s_Laround) := ⟨rfl, rfl, rfl, by decide +kernel, rfl, by decide +kernel, by decide +kernel⟩

abbrev s_Lpower : Stmt := topS 32
abbrev N_Lpower : List Str := ["_law_figures", "_law_found", "_law_k"]
theorem sc_Lpower : FnScope N_Lpower ["_law_figures"] (defScope s_Lpower) := ⟨rfl, rfl, rfl, by decide +kernel, rfl, by decide +kernel, by decide +kernel⟩

abbrev s_Lgreat : Stmt := topS 33
abbrev N_Lgreat : List Str := ["_law_pen_here", "_law_figures", "_law_most", "_law_some"]
theorem sc_Lgreat : FnScope N_Lgreat ["_law_pen_here", "_law_figures"] (defScope s_Lgreat) := ⟨rfl, rfl, rfl, by decide +kernel, rfl, by decide +kernel, by decide +kernel⟩

abbrev s_Lnames : Stmt := topS 34
abbrev N_Lnames : List Str := ["_law_pen_here", "_law_many", "_law_letters", "_law_stem", "_law_k", "_law_front", "_law_found", "_law_step", "_law_own", "_law_tail"]
theorem sc_Lnames : FnScope N_Lnames ["_law_pen_here", "_law_many"] (defScope s_Lnames) := ⟨rfl, rfl, rfl, by decide +kernel, rfl, by decide +kernel, by decide +kernel⟩

abbrev s_Lsmall : Stmt := topS 35
abbrev N_Lsmall : List Str := ["_law_pen_here", "_law_most", "_law_found", "_law_many", "_law_label", "_law_pace", "_law_date"]
theorem sc_Lsmall : FnScope N_Lsmall ["_law_pen_here", "_law_most"] (defScope s_Lsmall) := ⟨rfl, rfl, rfl, by decide +kernel, rfl, by decide +kernel, by decide +kernel⟩

abbrev s_Laimed : Stmt := topS 36
abbrev N_Laimed : List Str := ["_law_pen_here", "_law_most", "_law_found", "_law_many", "_law_hubs", "_law_k", "_law_spot", "_law_lot", "_law_label", "_law_date", "_law_some", "_law_pace", "_law_steps"]
theorem sc_Laimed : FnScope N_Laimed ["_law_pen_here", "_law_most"] (defScope s_Laimed) := ⟨rfl, rfl, rfl, by decide +kernel, rfl, by decide +kernel, by decide +kernel⟩

abbrev s_Llined : Stmt := topS 37
abbrev N_Llined : List Str := ["_law_pen_here", "_law_most", "_law_found", "_law_many", "_law_lot", "_law_base", "_law_label", "_law_pace", "_law_spot", "_law_date"]
theorem sc_Llined : FnScope N_Llined ["_law_pen_here", "_law_most"] (defScope s_Llined) := ⟨rfl, rfl, rfl, by decide +kernel, rfl, by decide +kernel, by decide +kernel⟩

abbrev s_Lline : Stmt := topS 38
abbrev N_Lline : List Str := ["_law_painter", "_law_part"]
theorem sc_Lline : FnScope N_Lline ["_law_painter"] (defScope s_Lline) := ⟨rfl, rfl, rfl, by decide +kernel, rfl, by decide +kernel, by decide +kernel⟩

abbrev s_Lfence_text : Stmt := topS 39
abbrev N_Lfence_text : List Str := ["_law_painters_here", "_law_painter"]
theorem sc_Lfence_text : FnScope N_Lfence_text ["_law_painters_here"] (defScope s_Lfence_text) := ⟨rfl, rfl, rfl, by decide +kernel, rfl, by decide +kernel, by decide +kernel⟩

abbrev s_Lodd : Stmt := topS 40
abbrev N_Lodd : List Str := ["_law_pen_here", "_law_some"]
theorem sc_Lodd : FnScope N_Lodd ["_law_pen_here"] (defScope s_Lodd) := ⟨rfl, rfl, rfl, by decide +kernel, rfl, by decide +kernel, by decide +kernel⟩

abbrev s_Lis_name : Stmt := topS 41
abbrev N_Lis_name : List Str := ["_law_thing", "_law_letter"]
theorem sc_Lis_name : FnScope N_Lis_name ["_law_thing"] (defScope s_Lis_name) := ⟨rfl, rfl, rfl, by decide +kernel, rfl, by decide +kernel, by decide +kernel⟩

abbrev s_Lpainters : Stmt := topS 42
abbrev N_Lpainters : List Str := ["_law_pen_here", "_law_way"]
theorem sc_Lpainters : FnScope N_Lpainters ["_law_pen_here"] (defScope s_Lpainters) := ⟨rfl, rfl, rfl, by decide +kernel, rfl, by decide +kernel, by decide +kernel⟩

abbrev s_Linteger_in : Stmt := topS 43
abbrev N_Linteger_in : List Str := ["_law_word", "_law_digits", "_law_digit"]
theorem sc_Linteger_in : FnScope N_Linteger_in ["_law_word"] (defScope s_Linteger_in) := ⟨rfl, rfl, rfl, by decide +kernel, rfl, by decide +kernel, by decide +kernel⟩

abbrev s_Lsigns : Stmt := topS 44
abbrev N_Lsigns : List Str := ["_law_some"]
theorem sc_Lsigns : FnScope N_Lsigns [] (defScope s_Lsigns) := ⟨rfl, rfl, rfl, by decide +kernel, rfl, by decide +kernel, by decide +kernel⟩

abbrev s_Lbent_text : Stmt := topS 45
abbrev N_Lbent_text : List Str := ["_law_pen_here", "_law_written", "_law_near", "_law_at", "_law_way", "_law_sign"]
theorem sc_Lbent_text : FnScope N_Lbent_text ["_law_pen_here", "_law_written", "_law_near"] (defScope s_Lbent_text) := ⟨rfl, rfl, rfl, by decide +kernel, rfl, by decide +kernel, by decide +kernel⟩

abbrev s_Lbent_lines : Stmt := topS 46
abbrev N_Lbent_lines : List Str := ["_law_pen_here", "_law_written", "_law_lines", "_law_at", "_law_to", "_law_words", "_law_way", "_law_k", "_law_j", "_law_some"]
theorem sc_Lbent_lines : FnScope N_Lbent_lines ["_law_pen_here", "_law_written"] (defScope s_Lbent_lines) := ⟨rfl, rfl, rfl, by decide +kernel, rfl, by decide +kernel, by decide +kernel⟩

abbrev s_Lis_painter : Stmt := topS 47
abbrev N_Lis_painter : List Str := ["_law_line_here", "_law_words", "_law_begin", "_law_place", "_law_step", "_law_word"]
theorem sc_Lis_painter : FnScope N_Lis_painter ["_law_line_here"] (defScope s_Lis_painter) := ⟨rfl, rfl, rfl, by decide +kernel, rfl, by decide +kernel, by decide +kernel⟩

abbrev s_Ldue : Stmt := topS 48
abbrev N_Ldue : List Str := ["_law_text", "_law_lines", "_law_k", "_law_words", "_law_line_here"]
theorem sc_Ldue : FnScope N_Ldue ["_law_text"] (defScope s_Ldue) := ⟨rfl, rfl, rfl, by decide +kernel, rfl, by decide +kernel, by decide +kernel⟩

abbrev s_Ltold : Stmt := topS 49
abbrev N_Ltold : List Str := ["_law_call", "e"]
theorem sc_Ltold : FnScope N_Ltold ["_law_call"] (defScope s_Ltold) := ⟨rfl, rfl, rfl, by decide +kernel, rfl, by decide +kernel, by decide +kernel⟩

abbrev s_law : Stmt := topS 50
abbrev N_law : List Str := ["_law_script", "_law_pen_here", "_law_turn", "_law_some", "_law_word", "_law_text", "_law_things", "_law_far", "_law_thing", "_law_line_here", "_law_due_here"]
theorem sc_law : FnScope N_law ["_law_script"] (defScope s_law) := ⟨rfl, rfl, rfl, by decide +kernel, rfl, by decide +kernel, by decide +kernel⟩

def a_is_integer (K : PySem.W.Frag) : Addr := (fun K => He.ga K "is_integer") K
def dA_is_integer : DefA := ⟨a_is_integer, "is_integer", "is_integer", defArgs s_is_integer, defBody s_is_integer, defScope s_is_integer, [], []⟩
abbrev FnP_is_integer (K : PySem.W.Frag) : Prop := ∃ fd, FunD K "is_integer" "is_integer" (defArgs s_is_integer) (defBody s_is_integer) (defScope s_is_integer) [] [] (a_is_integer K) fd
def a_is_between (K : PySem.W.Frag) : Addr := (fun K => He.ga K "is_between") K
def dA_is_between : DefA := ⟨a_is_between, "is_between", "is_between", defArgs s_is_between, defBody s_is_between, defScope s_is_between, [], []⟩
abbrev FnP_is_between (K : PySem.W.Frag) : Prop := ∃ fd, FunD K "is_between" "is_between" (defArgs s_is_between) (defBody s_is_between) (defScope s_is_between) [] [] (a_is_between K) fd
def a_is_name (K : PySem.W.Frag) : Addr := (fun K => He.ga K "is_name") K
def dA_is_name : DefA := ⟨a_is_name, "is_name", "is_name", defArgs s_is_name, defBody s_is_name, defScope s_is_name, [], []⟩
abbrev FnP_is_name (K : PySem.W.Frag) : Prop := ∃ fd, FunD K "is_name" "is_name" (defArgs s_is_name) (defBody s_is_name) (defScope s_is_name) [] [] (a_is_name K) fd
def a_integer_in (K : PySem.W.Frag) : Addr := (fun K => He.ga K "integer_in") K
def dA_integer_in : DefA := ⟨a_integer_in, "integer_in", "integer_in", defArgs s_integer_in, defBody s_integer_in, defScope s_integer_in, [.int 80], []⟩
abbrev FnP_integer_in (K : PySem.W.Frag) : Prop := ∃ fd, FunD K "integer_in" "integer_in" (defArgs s_integer_in) (defBody s_integer_in) (defScope s_integer_in) [V.int 80] [] (a_integer_in K) fd
def a_painter_line (K : PySem.W.Frag) : Addr := (fun K => He.ga K "painter_line") K
def dA_painter_line : DefA := ⟨a_painter_line, "painter_line", "painter_line", defArgs s_painter_line, defBody s_painter_line, defScope s_painter_line, [], []⟩
abbrev FnP_painter_line (K : PySem.W.Frag) : Prop := ∃ fd, FunD K "painter_line" "painter_line" (defArgs s_painter_line) (defBody s_painter_line) (defScope s_painter_line) [] [] (a_painter_line K) fd
def a_painter_parts (K : PySem.W.Frag) : Addr := (fun K => He.ga K "painter_parts") K
def dA_painter_parts : DefA := ⟨a_painter_parts, "painter_parts", "painter_parts", defArgs s_painter_parts, defBody s_painter_parts, defScope s_painter_parts, [], []⟩
abbrev FnP_painter_parts (K : PySem.W.Frag) : Prop := ∃ fd, FunD K "painter_parts" "painter_parts" (defArgs s_painter_parts) (defBody s_painter_parts) (defScope s_painter_parts) [] [] (a_painter_parts K) fd
def a_Painter_init (K : PySem.W.Frag) : Addr := (fun K => He.ma K (He.ga K "Painter") "__init__") K
def dA_Painter_init : DefA := ⟨a_Painter_init, "__init__", "Painter.__init__", defArgs s_Painter_init, defBody s_Painter_init, defScope s_Painter_init, [], []⟩
abbrev FnP_Painter_init (K : PySem.W.Frag) : Prop := ∃ fd, FunD K "__init__" "Painter.__init__" (defArgs s_Painter_init) (defBody s_Painter_init) (defScope s_Painter_init) [] [] (a_Painter_init K) fd
def a_Painter_read (K : PySem.W.Frag) : Addr := (fun K => He5.wf K (He.ga K "Painter") "classmethod" "read") K
def dA_Painter_read : DefA := ⟨a_Painter_read, "read", "Painter.read", defArgs s_Painter_read, defBody s_Painter_read, defScope s_Painter_read, [], []⟩
abbrev FnP_Painter_read (K : PySem.W.Frag) : Prop := ∃ fd, FunD K "read" "Painter.read" (defArgs s_Painter_read) (defBody s_Painter_read) (defScope s_Painter_read) [] [] (a_Painter_read K) fd
def a_Painter_name (K : PySem.W.Frag) : Addr := (fun K => Hk.pgA K (He.ga K "Painter") "name") K
def dA_Painter_name : DefA := ⟨a_Painter_name, "name", "Painter.name", defArgs s_Painter_name, defBody s_Painter_name, defScope s_Painter_name, [], []⟩
abbrev FnP_Painter_name (K : PySem.W.Frag) : Prop := ∃ fd, FunD K "name" "Painter.name" (defArgs s_Painter_name) (defBody s_Painter_name) (defScope s_Painter_name) [] [] (a_Painter_name K) fd
def a_Painter_day (K : PySem.W.Frag) : Addr := (fun K => Hk.pgA K (He.ga K "Painter") "day") K
def dA_Painter_day : DefA := ⟨a_Painter_day, "day", "Painter.day", defArgs s_Painter_day, defBody s_Painter_day, defScope s_Painter_day, [], []⟩
abbrev FnP_Painter_day (K : PySem.W.Frag) : Prop := ∃ fd, FunD K "day" "Painter.day" (defArgs s_Painter_day) (defBody s_Painter_day) (defScope s_Painter_day) [] [] (a_Painter_day K) fd
def a_Painter_post (K : PySem.W.Frag) : Addr := (fun K => Hk.pgA K (He.ga K "Painter") "post") K
def dA_Painter_post : DefA := ⟨a_Painter_post, "post", "Painter.post", defArgs s_Painter_post, defBody s_Painter_post, defScope s_Painter_post, [], []⟩
abbrev FnP_Painter_post (K : PySem.W.Frag) : Prop := ∃ fd, FunD K "post" "Painter.post" (defArgs s_Painter_post) (defBody s_Painter_post) (defScope s_Painter_post) [] [] (a_Painter_post K) fd
def a_Painter_stride (K : PySem.W.Frag) : Addr := (fun K => Hk.pgA K (He.ga K "Painter") "stride") K
def dA_Painter_stride : DefA := ⟨a_Painter_stride, "stride", "Painter.stride", defArgs s_Painter_stride, defBody s_Painter_stride, defScope s_Painter_stride, [], []⟩
abbrev FnP_Painter_stride (K : PySem.W.Frag) : Prop := ∃ fd, FunD K "stride" "Painter.stride" (defArgs s_Painter_stride) (defBody s_Painter_stride) (defScope s_Painter_stride) [] [] (a_Painter_stride K) fd
def a_Painter_text (K : PySem.W.Frag) : Addr := (fun K => Hk.pgA K (He.ga K "Painter") "text") K
def dA_Painter_text : DefA := ⟨a_Painter_text, "text", "Painter.text", defArgs s_Painter_text, defBody s_Painter_text, defScope s_Painter_text, [], []⟩
abbrev FnP_Painter_text (K : PySem.W.Frag) : Prop := ∃ fd, FunD K "text" "Painter.text" (defArgs s_Painter_text) (defBody s_Painter_text) (defScope s_Painter_text) [] [] (a_Painter_text K) fd
def a_Fence_init (K : PySem.W.Frag) : Addr := (fun K => He.ma K (He.ga K "Fence") "__init__") K
def dA_Fence_init : DefA := ⟨a_Fence_init, "__init__", "Fence.__init__", defArgs s_Fence_init, defBody s_Fence_init, defScope s_Fence_init, [], []⟩
abbrev FnP_Fence_init (K : PySem.W.Frag) : Prop := ∃ fd, FunD K "__init__" "Fence.__init__" (defArgs s_Fence_init) (defBody s_Fence_init) (defScope s_Fence_init) [] [] (a_Fence_init K) fd
def a_Fence_read (K : PySem.W.Frag) : Addr := (fun K => He5.wf K (He.ga K "Fence") "classmethod" "read") K
def dA_Fence_read : DefA := ⟨a_Fence_read, "read", "Fence.read", defArgs s_Fence_read, defBody s_Fence_read, defScope s_Fence_read, [], []⟩
abbrev FnP_Fence_read (K : PySem.W.Frag) : Prop := ∃ fd, FunD K "read" "Fence.read" (defArgs s_Fence_read) (defBody s_Fence_read) (defScope s_Fence_read) [] [] (a_Fence_read K) fd
def a_Fence_text (K : PySem.W.Frag) : Addr := (fun K => Hk.pgA K (He.ga K "Fence") "text") K
def dA_Fence_text : DefA := ⟨a_Fence_text, "text", "Fence.text", defArgs s_Fence_text, defBody s_Fence_text, defScope s_Fence_text, [], []⟩
abbrev FnP_Fence_text (K : PySem.W.Frag) : Prop := ∃ fd, FunD K "text" "Fence.text" (defArgs s_Fence_text) (defBody s_Fence_text) (defScope s_Fence_text) [] [] (a_Fence_text K) fd
def a_Lpen (K : PySem.W.Frag) : Addr := (fun K => He.ga K "_law_pen") K
def dA_Lpen : DefA := ⟨a_Lpen, "_law_pen", "_law_pen", defArgs s_Lpen, defBody s_Lpen, defScope s_Lpen, [], []⟩
abbrev FnP_Lpen (K : PySem.W.Frag) : Prop := ∃ fd, FunD K "_law_pen" "_law_pen" (defArgs s_Lpen) (defBody s_Lpen) (defScope s_Lpen) [] [] (a_Lpen K) fd
def a_Ldraw (K : PySem.W.Frag) : Addr := (fun K => He.ga K "_law_draw") K
def dA_Ldraw : DefA := ⟨a_Ldraw, "_law_draw", "_law_draw", defArgs s_Ldraw, defBody s_Ldraw, defScope s_Ldraw, [], []⟩
abbrev FnP_Ldraw (K : PySem.W.Frag) : Prop := ∃ fd, FunD K "_law_draw" "_law_draw" (defArgs s_Ldraw) (defBody s_Ldraw) (defScope s_Ldraw) [] [] (a_Ldraw K) fd
def a_Lpick (K : PySem.W.Frag) : Addr := (fun K => He.ga K "_law_pick") K
def dA_Lpick : DefA := ⟨a_Lpick, "_law_pick", "_law_pick", defArgs s_Lpick, defBody s_Lpick, defScope s_Lpick, [], []⟩
abbrev FnP_Lpick (K : PySem.W.Frag) : Prop := ∃ fd, FunD K "_law_pick" "_law_pick" (defArgs s_Lpick) (defBody s_Lpick) (defScope s_Lpick) [] [] (a_Lpick K) fd
def a_Laround (K : PySem.W.Frag) : Addr := (fun K => He.ga K "_law_around") K
def dA_Laround : DefA := ⟨a_Laround, "_law_around", "_law_around", defArgs s_Laround, defBody s_Laround, defScope s_Laround, [], []⟩
abbrev FnP_Laround (K : PySem.W.Frag) : Prop := ∃ fd, FunD K "_law_around" "_law_around" (defArgs s_Laround) (defBody s_Laround) (defScope s_Laround) [] [] (a_Laround K) fd
def a_Lpower (K : PySem.W.Frag) : Addr := (fun K => He.ga K "_law_power") K
def dA_Lpower : DefA := ⟨a_Lpower, "_law_power", "_law_power", defArgs s_Lpower, defBody s_Lpower, defScope s_Lpower, [], []⟩
abbrev FnP_Lpower (K : PySem.W.Frag) : Prop := ∃ fd, FunD K "_law_power" "_law_power" (defArgs s_Lpower) (defBody s_Lpower) (defScope s_Lpower) [] [] (a_Lpower K) fd
def a_Lgreat (K : PySem.W.Frag) : Addr := (fun K => He.ga K "_law_great") K
def dA_Lgreat : DefA := ⟨a_Lgreat, "_law_great", "_law_great", defArgs s_Lgreat, defBody s_Lgreat, defScope s_Lgreat, [], []⟩
abbrev FnP_Lgreat (K : PySem.W.Frag) : Prop := ∃ fd, FunD K "_law_great" "_law_great" (defArgs s_Lgreat) (defBody s_Lgreat) (defScope s_Lgreat) [] [] (a_Lgreat K) fd
def a_Lnames (K : PySem.W.Frag) : Addr := (fun K => He.ga K "_law_names") K
def dA_Lnames : DefA := ⟨a_Lnames, "_law_names", "_law_names", defArgs s_Lnames, defBody s_Lnames, defScope s_Lnames, [], []⟩
abbrev FnP_Lnames (K : PySem.W.Frag) : Prop := ∃ fd, FunD K "_law_names" "_law_names" (defArgs s_Lnames) (defBody s_Lnames) (defScope s_Lnames) [] [] (a_Lnames K) fd
def a_Lsmall (K : PySem.W.Frag) : Addr := (fun K => He.ga K "_law_small") K
def dA_Lsmall : DefA := ⟨a_Lsmall, "_law_small", "_law_small", defArgs s_Lsmall, defBody s_Lsmall, defScope s_Lsmall, [], []⟩
abbrev FnP_Lsmall (K : PySem.W.Frag) : Prop := ∃ fd, FunD K "_law_small" "_law_small" (defArgs s_Lsmall) (defBody s_Lsmall) (defScope s_Lsmall) [] [] (a_Lsmall K) fd
def a_Laimed (K : PySem.W.Frag) : Addr := (fun K => He.ga K "_law_aimed") K
def dA_Laimed : DefA := ⟨a_Laimed, "_law_aimed", "_law_aimed", defArgs s_Laimed, defBody s_Laimed, defScope s_Laimed, [], []⟩
abbrev FnP_Laimed (K : PySem.W.Frag) : Prop := ∃ fd, FunD K "_law_aimed" "_law_aimed" (defArgs s_Laimed) (defBody s_Laimed) (defScope s_Laimed) [] [] (a_Laimed K) fd
def a_Llined (K : PySem.W.Frag) : Addr := (fun K => He.ga K "_law_lined") K
def dA_Llined : DefA := ⟨a_Llined, "_law_lined", "_law_lined", defArgs s_Llined, defBody s_Llined, defScope s_Llined, [], []⟩
abbrev FnP_Llined (K : PySem.W.Frag) : Prop := ∃ fd, FunD K "_law_lined" "_law_lined" (defArgs s_Llined) (defBody s_Llined) (defScope s_Llined) [] [] (a_Llined K) fd
def a_Lline (K : PySem.W.Frag) : Addr := (fun K => He.ga K "_law_line") K
def dA_Lline : DefA := ⟨a_Lline, "_law_line", "_law_line", defArgs s_Lline, defBody s_Lline, defScope s_Lline, [], []⟩
abbrev FnP_Lline (K : PySem.W.Frag) : Prop := ∃ fd, FunD K "_law_line" "_law_line" (defArgs s_Lline) (defBody s_Lline) (defScope s_Lline) [] [] (a_Lline K) fd
def a_Lfence_text (K : PySem.W.Frag) : Addr := (fun K => He.ga K "_law_fence_text") K
def dA_Lfence_text : DefA := ⟨a_Lfence_text, "_law_fence_text", "_law_fence_text", defArgs s_Lfence_text, defBody s_Lfence_text, defScope s_Lfence_text, [], []⟩
abbrev FnP_Lfence_text (K : PySem.W.Frag) : Prop := ∃ fd, FunD K "_law_fence_text" "_law_fence_text" (defArgs s_Lfence_text) (defBody s_Lfence_text) (defScope s_Lfence_text) [] [] (a_Lfence_text K) fd
def a_Lodd (K : PySem.W.Frag) : Addr := (fun K => He.ga K "_law_odd") K
def dA_Lodd : DefA := ⟨a_Lodd, "_law_odd", "_law_odd", defArgs s_Lodd, defBody s_Lodd, defScope s_Lodd, [], []⟩
abbrev FnP_Lodd (K : PySem.W.Frag) : Prop := ∃ fd, FunD K "_law_odd" "_law_odd" (defArgs s_Lodd) (defBody s_Lodd) (defScope s_Lodd) [] [] (a_Lodd K) fd
def a_Lis_name (K : PySem.W.Frag) : Addr := (fun K => He.ga K "_law_is_name") K
def dA_Lis_name : DefA := ⟨a_Lis_name, "_law_is_name", "_law_is_name", defArgs s_Lis_name, defBody s_Lis_name, defScope s_Lis_name, [], []⟩
abbrev FnP_Lis_name (K : PySem.W.Frag) : Prop := ∃ fd, FunD K "_law_is_name" "_law_is_name" (defArgs s_Lis_name) (defBody s_Lis_name) (defScope s_Lis_name) [] [] (a_Lis_name K) fd
def a_Lpainters (K : PySem.W.Frag) : Addr := (fun K => He.ga K "_law_painters") K
def dA_Lpainters : DefA := ⟨a_Lpainters, "_law_painters", "_law_painters", defArgs s_Lpainters, defBody s_Lpainters, defScope s_Lpainters, [], []⟩
abbrev FnP_Lpainters (K : PySem.W.Frag) : Prop := ∃ fd, FunD K "_law_painters" "_law_painters" (defArgs s_Lpainters) (defBody s_Lpainters) (defScope s_Lpainters) [] [] (a_Lpainters K) fd
def a_Linteger_in (K : PySem.W.Frag) : Addr := (fun K => He.ga K "_law_integer_in") K
def dA_Linteger_in : DefA := ⟨a_Linteger_in, "_law_integer_in", "_law_integer_in", defArgs s_Linteger_in, defBody s_Linteger_in, defScope s_Linteger_in, [], []⟩
abbrev FnP_Linteger_in (K : PySem.W.Frag) : Prop := ∃ fd, FunD K "_law_integer_in" "_law_integer_in" (defArgs s_Linteger_in) (defBody s_Linteger_in) (defScope s_Linteger_in) [] [] (a_Linteger_in K) fd
def a_Lsigns (K : PySem.W.Frag) : Addr := (fun K => He.ga K "_law_signs") K
def dA_Lsigns : DefA := ⟨a_Lsigns, "_law_signs", "_law_signs", defArgs s_Lsigns, defBody s_Lsigns, defScope s_Lsigns, [], []⟩
abbrev FnP_Lsigns (K : PySem.W.Frag) : Prop := ∃ fd, FunD K "_law_signs" "_law_signs" (defArgs s_Lsigns) (defBody s_Lsigns) (defScope s_Lsigns) [] [] (a_Lsigns K) fd
def a_Lbent_text (K : PySem.W.Frag) : Addr := (fun K => He.ga K "_law_bent_text") K
def dA_Lbent_text : DefA := ⟨a_Lbent_text, "_law_bent_text", "_law_bent_text", defArgs s_Lbent_text, defBody s_Lbent_text, defScope s_Lbent_text, [], []⟩
abbrev FnP_Lbent_text (K : PySem.W.Frag) : Prop := ∃ fd, FunD K "_law_bent_text" "_law_bent_text" (defArgs s_Lbent_text) (defBody s_Lbent_text) (defScope s_Lbent_text) [] [] (a_Lbent_text K) fd
def a_Lbent_lines (K : PySem.W.Frag) : Addr := (fun K => He.ga K "_law_bent_lines") K
def dA_Lbent_lines : DefA := ⟨a_Lbent_lines, "_law_bent_lines", "_law_bent_lines", defArgs s_Lbent_lines, defBody s_Lbent_lines, defScope s_Lbent_lines, [], []⟩
abbrev FnP_Lbent_lines (K : PySem.W.Frag) : Prop := ∃ fd, FunD K "_law_bent_lines" "_law_bent_lines" (defArgs s_Lbent_lines) (defBody s_Lbent_lines) (defScope s_Lbent_lines) [] [] (a_Lbent_lines K) fd
def a_Lis_painter (K : PySem.W.Frag) : Addr := (fun K => He.ga K "_law_is_painter") K
def dA_Lis_painter : DefA := ⟨a_Lis_painter, "_law_is_painter", "_law_is_painter", defArgs s_Lis_painter, defBody s_Lis_painter, defScope s_Lis_painter, [], []⟩
abbrev FnP_Lis_painter (K : PySem.W.Frag) : Prop := ∃ fd, FunD K "_law_is_painter" "_law_is_painter" (defArgs s_Lis_painter) (defBody s_Lis_painter) (defScope s_Lis_painter) [] [] (a_Lis_painter K) fd
def a_Ldue (K : PySem.W.Frag) : Addr := (fun K => He.ga K "_law_due") K
def dA_Ldue : DefA := ⟨a_Ldue, "_law_due", "_law_due", defArgs s_Ldue, defBody s_Ldue, defScope s_Ldue, [], []⟩
abbrev FnP_Ldue (K : PySem.W.Frag) : Prop := ∃ fd, FunD K "_law_due" "_law_due" (defArgs s_Ldue) (defBody s_Ldue) (defScope s_Ldue) [] [] (a_Ldue K) fd
def a_Ltold (K : PySem.W.Frag) : Addr := (fun K => He.ga K "_law_told") K
def dA_Ltold : DefA := ⟨a_Ltold, "_law_told", "_law_told", defArgs s_Ltold, defBody s_Ltold, defScope s_Ltold, [], []⟩
abbrev FnP_Ltold (K : PySem.W.Frag) : Prop := ∃ fd, FunD K "_law_told" "_law_told" (defArgs s_Ltold) (defBody s_Ltold) (defScope s_Ltold) [] [] (a_Ltold K) fd
def a_law (K : PySem.W.Frag) : Addr := (fun K => He.ga K "law") K
def dA_law : DefA := ⟨a_law, "law", "law", defArgs s_law, defBody s_law, defScope s_law, [], []⟩
abbrev FnP_law (K : PySem.W.Frag) : Prop := ∃ fd, FunD K "law" "law" (defArgs s_law) (defBody s_law) (defScope s_law) [] [] (a_law K) fd
def fnL : List DefA := [dA_is_integer, dA_is_between, dA_is_name, dA_integer_in, dA_painter_line, dA_painter_parts, dA_Painter_init, dA_Painter_read, dA_Painter_name, dA_Painter_day, dA_Painter_post, dA_Painter_stride, dA_Painter_text, dA_Fence_init, dA_Fence_read, dA_Fence_text, dA_Lpen, dA_Ldraw, dA_Lpick, dA_Laround, dA_Lpower, dA_Lgreat, dA_Lnames, dA_Lsmall, dA_Laimed, dA_Llined, dA_Lline, dA_Lfence_text, dA_Lodd, dA_Lis_name, dA_Lpainters, dA_Linteger_in, dA_Lsigns, dA_Lbent_text, dA_Lbent_lines, dA_Lis_painter, dA_Ldue, dA_Ltold, dA_law]
abbrev PP : Program := PySem.Challenge.pw_paintposts_k84_texts_that_are_no_fence
def mainFile : Str := (PP.main.file : Str)
abbrev sE_InvalidPainter : Stmt := inClass (topS 2) 0
def dE_InvalidPainter : Hk.DefE := ⟨"InvalidPainter", "reason", "reason", sE_InvalidPainter, "ValueError.__new__", "ValueError.__init__", "ValueError", [.type "ValueError", .type "Exception", .type "BaseException", .type "object"]⟩
theorem it_InvalidPainter : Ox.IText (L2.defArgs sE_InvalidPainter) (L2.defBody sE_InvalidPainter) (L2.defScope sE_InvalidPainter) "reason" "reason" := ⟨⟨_, _, rfl⟩, ⟨_, _, _, _, _, _, _, _, _, _, rfl, rfl⟩, rfl, rfl, rfl, rfl, by decide +kernel, rfl, rfl, rfl, by decide, by decide⟩
abbrev sE_DuplicateName : Stmt := inClass (topS 4) 0
def dE_DuplicateName : Hk.DefE := ⟨"DuplicateName", "value", "value", sE_DuplicateName, "ValueError.__new__", "ValueError.__init__", "ValueError", [.type "ValueError", .type "Exception", .type "BaseException", .type "object"]⟩
theorem it_DuplicateName : Ox.IText (L2.defArgs sE_DuplicateName) (L2.defBody sE_DuplicateName) (L2.defScope sE_DuplicateName) "value" "value" := ⟨⟨_, _, rfl⟩, ⟨_, _, _, _, _, _, _, _, _, _, rfl, rfl⟩, rfl, rfl, rfl, rfl, by decide +kernel, rfl, rfl, rfl, by decide, by decide⟩
abbrev sE_ParseError : Stmt := inClass (topS 5) 0
def dE_ParseError : Hk.DefE := ⟨"ParseError", "line", "line", sE_ParseError, "ValueError.__new__", "ValueError.__init__", "ValueError", [.type "ValueError", .type "Exception", .type "BaseException", .type "object"]⟩
theorem it_ParseError : Ox.IText (L2.defArgs sE_ParseError) (L2.defBody sE_ParseError) (L2.defScope sE_ParseError) "line" "line" := ⟨⟨_, _, rfl⟩, ⟨_, _, _, _, _, _, _, _, _, _, rfl, rfl⟩, rfl, rfl, rfl, rfl, by decide +kernel, rfl, rfl, rfl, by decide, by decide⟩
abbrev sE_TooMany : Stmt := inClass (topS 7) 0
def dE_TooMany : Hk.DefE := ⟨"TooMany", "limit", "limit", sE_TooMany, "OverflowError.__new__", "OverflowError.__init__", "OverflowError", [.type "OverflowError", .type "ArithmeticError", .type "Exception", .type "BaseException", .type "object"]⟩
theorem it_TooMany : Ox.IText (L2.defArgs sE_TooMany) (L2.defBody sE_TooMany) (L2.defScope sE_TooMany) "limit" "limit" := ⟨⟨_, _, rfl⟩, ⟨_, _, _, _, _, _, _, _, _, _, rfl, rfl⟩, rfl, rfl, rfl, rfl, by decide +kernel, rfl, rfl, rfl, by decide, by decide⟩
def esL : List Hk.DefE := [dE_InvalidPainter, dE_DuplicateName, dE_ParseError, dE_TooMany]
def tfL : List (PySem.W.Frag → Addr) := [a_law]
structure Tx (K : PySem.W.Frag) (mg : Str → Option Value) : Prop where
  g_is_integer : mg "is_integer" = some (.ref (a_is_integer K))
  g_is_between : mg "is_between" = some (.ref (a_is_between K))
  g_is_name : mg "is_name" = some (.ref (a_is_name K))
  g_integer_in : mg "integer_in" = some (.ref (a_integer_in K))
  g_painter_line : mg "painter_line" = some (.ref (a_painter_line K))
  g_painter_parts : mg "painter_parts" = some (.ref (a_painter_parts K))
  g__law_pen : mg "_law_pen" = some (.ref (a_Lpen K))
  g__law_draw : mg "_law_draw" = some (.ref (a_Ldraw K))
  g__law_pick : mg "_law_pick" = some (.ref (a_Lpick K))
  g__law_around : mg "_law_around" = some (.ref (a_Laround K))
  g__law_power : mg "_law_power" = some (.ref (a_Lpower K))
  g__law_great : mg "_law_great" = some (.ref (a_Lgreat K))
  g__law_names : mg "_law_names" = some (.ref (a_Lnames K))
  g__law_small : mg "_law_small" = some (.ref (a_Lsmall K))
  g__law_aimed : mg "_law_aimed" = some (.ref (a_Laimed K))
  g__law_lined : mg "_law_lined" = some (.ref (a_Llined K))
  g__law_line : mg "_law_line" = some (.ref (a_Lline K))
  g__law_fence_text : mg "_law_fence_text" = some (.ref (a_Lfence_text K))
  g__law_odd : mg "_law_odd" = some (.ref (a_Lodd K))
  g__law_is_name : mg "_law_is_name" = some (.ref (a_Lis_name K))
  g__law_painters : mg "_law_painters" = some (.ref (a_Lpainters K))
  g__law_integer_in : mg "_law_integer_in" = some (.ref (a_Linteger_in K))
  g__law_signs : mg "_law_signs" = some (.ref (a_Lsigns K))
  g__law_bent_text : mg "_law_bent_text" = some (.ref (a_Lbent_text K))
  g__law_bent_lines : mg "_law_bent_lines" = some (.ref (a_Lbent_lines K))
  g__law_is_painter : mg "_law_is_painter" = some (.ref (a_Lis_painter K))
  g__law_due : mg "_law_due" = some (.ref (a_Ldue K))
  g__law_told : mg "_law_told" = some (.ref (a_Ltold K))
  g_law : mg "law" = some (.ref (a_law K))
  g_is_name_names : mg "is_name_names" = some (.ref (a_is_name K))
  g_Painter : mg "Painter" = some (.ref (He.ga K "Painter"))
  cl_Painter : Cls K (He.ga K "Painter")
  m_Painter : Mk K (He.ga K "Painter") (a_Painter_init K)
  ii_Painter : C8.InsC K (He.ga K "Painter")
  g_Fence : mg "Fence" = some (.ref (He.ga K "Fence"))
  cl_Fence : Cls K (He.ga K "Fence")
  m_Fence : Mk K (He.ga K "Fence") (a_Fence_init K)
  ii_Fence : C8.InsC K (He.ga K "Fence")
  no_Painter_parts : NoAttr K (He.ga K "Painter") "parts"
  no_Fence_listed : NoAttr K (He.ga K "Fence") "listed"
  no_Fence_places : NoAttr K (He.ga K "Fence") "places"
  co_Painter_MAX_DAY : ∃ u, Con K (He.ga K "Painter") "MAX_DAY" (.int 1000000000000000000000000000000) u
  co_Painter_MAX_POST : ∃ u, Con K (He.ga K "Painter") "MAX_POST" (.int 1000000000000000000000000000000) u
  co_Painter_MAX_STRIDE : ∃ u, Con K (He.ga K "Painter") "MAX_STRIDE" (.int 1000000000000000000) u
  pr_Painter_name : PropOf K (He.ga K "Painter") "name" (He.ma K (He.ga K "Painter") "name") (a_Painter_name K)
  pr_Painter_day : PropOf K (He.ga K "Painter") "day" (He.ma K (He.ga K "Painter") "day") (a_Painter_day K)
  pr_Painter_post : PropOf K (He.ga K "Painter") "post" (He.ma K (He.ga K "Painter") "post") (a_Painter_post K)
  pr_Painter_stride : PropOf K (He.ga K "Painter") "stride" (He.ma K (He.ga K "Painter") "stride") (a_Painter_stride K)
  pr_Painter_text : PropOf K (He.ga K "Painter") "text" (He.ma K (He.ga K "Painter") "text") (a_Painter_text K)
  pr_Fence_text : PropOf K (He.ga K "Fence") "text" (He.ma K (He.ga K "Fence") "text") (a_Fence_text K)
  cm_Painter_read : ClX.CMet K (He.ga K "Painter") (.type "type") "read" (He.ma K (He.ga K "Painter") "read") (a_Painter_read K)
  cm_Fence_read : ClX.CMet K (He.ga K "Fence") (.type "type") "read" (He.ma K (He.ga K "Fence") "read") (a_Fence_read K)
  r_Fence : ClX.CRead K (He.ga K "Fence") (.type "type")
  r_Painter : ClX.CRead K (He.ga K "Painter") (.type "type")
  n_isinstance : mg "isinstance" = none
  n_int : mg "int" = none
  n_bool : mg "bool" = none
  n_str : mg "str" = none
  n_len : mg "len" = none
  n_all : mg "all" = none
  n_enumerate : mg "enumerate" = none
  n_tuple : mg "tuple" = none
  n_range : mg "range" = none
  n_list : mg "list" = none
  n_abs : mg "abs" = none
  n_min : mg "min" = none
  n_max : mg "max" = none
  n_repr : mg "repr" = none
  n_ValueError : mg "ValueError" = none
  n_OverflowError : mg "OverflowError" = none
  c_MAX_PAINTERS : ∃ u, mg "MAX_PAINTERS" = some u ∧ RelV (.int 40) u
  c_MAX_NAME : ∃ u, mg "MAX_NAME" = some u ∧ RelV (.int 8) u
  c_MAX_DIGITS : ∃ u, mg "MAX_DIGITS" = some u ∧ RelV (.int 80) u
  c_LETTERS : ∃ u, mg "LETTERS" = some u ∧ RelV (.str "abcdefghijklmnopqrstuvwxyz") u
  c_DIGITS : ∃ u, mg "DIGITS" = some u ∧ RelV (.str "0123456789") u
  x_InvalidPainter : Ox.XTxt PP K (He.ga K "InvalidPainter") "reason" "ValueError.__new__" "ValueError.__init__" "ValueError" [.type "ValueError", .type "Exception", .type "BaseException", .type "object"]
  ec_InvalidPainter : ExcC K (He.ga K "InvalidPainter")
  g_InvalidPainter : mg "InvalidPainter" = some (.ref (He.ga K "InvalidPainter"))
  x_DuplicateName : Ox.XTxt PP K (He.ga K "DuplicateName") "value" "ValueError.__new__" "ValueError.__init__" "ValueError" [.type "ValueError", .type "Exception", .type "BaseException", .type "object"]
  ec_DuplicateName : ExcC K (He.ga K "DuplicateName")
  g_DuplicateName : mg "DuplicateName" = some (.ref (He.ga K "DuplicateName"))
  x_ParseError : Ox.XTxt PP K (He.ga K "ParseError") "line" "ValueError.__new__" "ValueError.__init__" "ValueError" [.type "ValueError", .type "Exception", .type "BaseException", .type "object"]
  ec_ParseError : ExcC K (He.ga K "ParseError")
  g_ParseError : mg "ParseError" = some (.ref (He.ga K "ParseError"))
  x_TooMany : Ox.XTxt PP K (He.ga K "TooMany") "limit" "OverflowError.__new__" "OverflowError.__init__" "OverflowError" [.type "OverflowError", .type "ArithmeticError", .type "Exception", .type "BaseException", .type "object"]
  ec_TooMany : ExcC K (He.ga K "TooMany")
  g_TooMany : mg "TooMany" = some (.ref (He.ga K "TooMany"))
  xm_InvalidPainter_InvalidPainter : PySem.W.exmOne K (.ref (He.ga K "InvalidPainter")) (.ref (He.ga K "InvalidPainter")) = some true
  xm_ParseError_ParseError : PySem.W.exmOne K (.ref (He.ga K "ParseError")) (.ref (He.ga K "ParseError")) = some true
  xm_DuplicateName_ParseError : PySem.W.exmOne K (.ref (He.ga K "DuplicateName")) (.ref (He.ga K "ParseError")) = some false
  xm_DuplicateName_DuplicateName : PySem.W.exmOne K (.ref (He.ga K "DuplicateName")) (.ref (He.ga K "DuplicateName")) = some true
  xm_TooMany_ParseError : PySem.W.exmOne K (.ref (He.ga K "TooMany")) (.ref (He.ga K "ParseError")) = some false
  xm_TooMany_DuplicateName : PySem.W.exmOne K (.ref (He.ga K "TooMany")) (.ref (He.ga K "DuplicateName")) = some false
  xm_TooMany_TooMany : PySem.W.exmOne K (.ref (He.ga K "TooMany")) (.ref (He.ga K "TooMany")) = some true
  kt_ParseError_ValueError : PySem.W.kitOne K (.ref (He.ga K "ParseError")) (.type "ValueError") = some true
  kt_DuplicateName_ValueError : PySem.W.kitOne K (.ref (He.ga K "DuplicateName")) (.type "ValueError") = some true
  kt_TooMany_OverflowError : PySem.W.kitOne K (.ref (He.ga K "TooMany")) (.type "OverflowError") = some true
  f_is_integer : FnP_is_integer K
  k_is_integer : PySem.W.keepIn K (.ref (a_is_integer K)) = true
  f_is_between : FnP_is_between K
  k_is_between : PySem.W.keepIn K (.ref (a_is_between K)) = true
  f_is_name : FnP_is_name K
  k_is_name : PySem.W.keepIn K (.ref (a_is_name K)) = true
  f_integer_in : FnP_integer_in K
  k_integer_in : PySem.W.keepIn K (.ref (a_integer_in K)) = true
  f_painter_line : FnP_painter_line K
  k_painter_line : PySem.W.keepIn K (.ref (a_painter_line K)) = true
  f_painter_parts : FnP_painter_parts K
  k_painter_parts : PySem.W.keepIn K (.ref (a_painter_parts K)) = true
  f_Painter_init : FnP_Painter_init K
  k_Painter_init : PySem.W.keepIn K (.ref (a_Painter_init K)) = true
  f_Painter_read : FnP_Painter_read K
  k_Painter_read : PySem.W.keepIn K (.ref (a_Painter_read K)) = true
  f_Painter_name : FnP_Painter_name K
  k_Painter_name : PySem.W.keepIn K (.ref (a_Painter_name K)) = true
  f_Painter_day : FnP_Painter_day K
  k_Painter_day : PySem.W.keepIn K (.ref (a_Painter_day K)) = true
  f_Painter_post : FnP_Painter_post K
  k_Painter_post : PySem.W.keepIn K (.ref (a_Painter_post K)) = true
  f_Painter_stride : FnP_Painter_stride K
  k_Painter_stride : PySem.W.keepIn K (.ref (a_Painter_stride K)) = true
  f_Painter_text : FnP_Painter_text K
  k_Painter_text : PySem.W.keepIn K (.ref (a_Painter_text K)) = true
  f_Fence_init : FnP_Fence_init K
  k_Fence_init : PySem.W.keepIn K (.ref (a_Fence_init K)) = true
  f_Fence_read : FnP_Fence_read K
  k_Fence_read : PySem.W.keepIn K (.ref (a_Fence_read K)) = true
  f_Fence_text : FnP_Fence_text K
  k_Fence_text : PySem.W.keepIn K (.ref (a_Fence_text K)) = true
  f_Lpen : FnP_Lpen K
  k_Lpen : PySem.W.keepIn K (.ref (a_Lpen K)) = true
  f_Ldraw : FnP_Ldraw K
  k_Ldraw : PySem.W.keepIn K (.ref (a_Ldraw K)) = true
  f_Lpick : FnP_Lpick K
  k_Lpick : PySem.W.keepIn K (.ref (a_Lpick K)) = true
  f_Laround : FnP_Laround K
  k_Laround : PySem.W.keepIn K (.ref (a_Laround K)) = true
  f_Lpower : FnP_Lpower K
  k_Lpower : PySem.W.keepIn K (.ref (a_Lpower K)) = true
  f_Lgreat : FnP_Lgreat K
  k_Lgreat : PySem.W.keepIn K (.ref (a_Lgreat K)) = true
  f_Lnames : FnP_Lnames K
  k_Lnames : PySem.W.keepIn K (.ref (a_Lnames K)) = true
  f_Lsmall : FnP_Lsmall K
  k_Lsmall : PySem.W.keepIn K (.ref (a_Lsmall K)) = true
  f_Laimed : FnP_Laimed K
  k_Laimed : PySem.W.keepIn K (.ref (a_Laimed K)) = true
  f_Llined : FnP_Llined K
  k_Llined : PySem.W.keepIn K (.ref (a_Llined K)) = true
  f_Lline : FnP_Lline K
  k_Lline : PySem.W.keepIn K (.ref (a_Lline K)) = true
  f_Lfence_text : FnP_Lfence_text K
  k_Lfence_text : PySem.W.keepIn K (.ref (a_Lfence_text K)) = true
  f_Lodd : FnP_Lodd K
  k_Lodd : PySem.W.keepIn K (.ref (a_Lodd K)) = true
  f_Lis_name : FnP_Lis_name K
  k_Lis_name : PySem.W.keepIn K (.ref (a_Lis_name K)) = true
  f_Lpainters : FnP_Lpainters K
  k_Lpainters : PySem.W.keepIn K (.ref (a_Lpainters K)) = true
  f_Linteger_in : FnP_Linteger_in K
  k_Linteger_in : PySem.W.keepIn K (.ref (a_Linteger_in K)) = true
  f_Lsigns : FnP_Lsigns K
  k_Lsigns : PySem.W.keepIn K (.ref (a_Lsigns K)) = true
  f_Lbent_text : FnP_Lbent_text K
  k_Lbent_text : PySem.W.keepIn K (.ref (a_Lbent_text K)) = true
  f_Lbent_lines : FnP_Lbent_lines K
  k_Lbent_lines : PySem.W.keepIn K (.ref (a_Lbent_lines K)) = true
  f_Lis_painter : FnP_Lis_painter K
  k_Lis_painter : PySem.W.keepIn K (.ref (a_Lis_painter K)) = true
  f_Ldue : FnP_Ldue K
  k_Ldue : PySem.W.keepIn K (.ref (a_Ldue K)) = true
  f_Ltold : FnP_Ltold K
  k_Ltold : PySem.W.keepIn K (.ref (a_Ltold K)) = true
  f_law : FnP_law K
  k_law : PySem.W.keepIn K (.ref (a_law K)) = true
def ckL : List (PySem.W.Frag → Bool) := [
  fun K => Hk.gloB K "is_integer",
  fun K => Hk.gloB K "is_between",
  fun K => Hk.gloB K "is_name",
  fun K => Hk.gloB K "integer_in",
  fun K => Hk.gloB K "painter_line",
  fun K => Hk.gloB K "painter_parts",
  fun K => Hk.gloB K "_law_pen",
  fun K => Hk.gloB K "_law_draw",
  fun K => Hk.gloB K "_law_pick",
  fun K => Hk.gloB K "_law_around",
  fun K => Hk.gloB K "_law_power",
  fun K => Hk.gloB K "_law_great",
  fun K => Hk.gloB K "_law_names",
  fun K => Hk.gloB K "_law_small",
  fun K => Hk.gloB K "_law_aimed",
  fun K => Hk.gloB K "_law_lined",
  fun K => Hk.gloB K "_law_line",
  fun K => Hk.gloB K "_law_fence_text",
  fun K => Hk.gloB K "_law_odd",
  fun K => Hk.gloB K "_law_is_name",
  fun K => Hk.gloB K "_law_painters",
  fun K => Hk.gloB K "_law_integer_in",
  fun K => Hk.gloB K "_law_signs",
  fun K => Hk.gloB K "_law_bent_text",
  fun K => Hk.gloB K "_law_bent_lines",
  fun K => Hk.gloB K "_law_is_painter",
  fun K => Hk.gloB K "_law_due",
  fun K => Hk.gloB K "_law_told",
  fun K => Hk.gloB K "law",
  fun K => Hk.aliB K "is_name_names" "is_name",
  fun K => Hk.gloB K "Painter",
  fun K => Hk.clsB K "Painter",
  fun K => Hk.mkrB K "Painter",
  fun K => Hk.insB K "Painter",
  fun K => Hk.gloB K "Fence",
  fun K => Hk.clsB K "Fence",
  fun K => Hk.mkrB K "Fence",
  fun K => Hk.insB K "Fence",
  fun K => Hk.noatB K "Painter" "parts",
  fun K => Hk.noatB K "Fence" "listed",
  fun K => Hk.noatB K "Fence" "places",
  fun K => Hk.conB K (He.ga K "Painter") "MAX_DAY" 1000000000000000000000000000000,
  fun K => Hk.conB K (He.ga K "Painter") "MAX_POST" 1000000000000000000000000000000,
  fun K => Hk.conB K (He.ga K "Painter") "MAX_STRIDE" 1000000000000000000,
  fun K => Hk.propB K (He.ga K "Painter") "name",
  fun K => Hk.propB K (He.ga K "Painter") "day",
  fun K => Hk.propB K (He.ga K "Painter") "post",
  fun K => Hk.propB K (He.ga K "Painter") "stride",
  fun K => Hk.propB K (He.ga K "Painter") "text",
  fun K => Hk.propB K (He.ga K "Fence") "text",
  fun K => Hk.cmetB K (He.ga K "Painter") "read",
  fun K => Hk.cmetB K (He.ga K "Fence") "read",
  fun K => Hk.creadB K (He.ga K "Fence"),
  fun K => Hk.creadB K (He.ga K "Painter"),
  fun K => Hk.freeB K "isinstance",
  fun K => Hk.freeB K "int",
  fun K => Hk.freeB K "bool",
  fun K => Hk.freeB K "str",
  fun K => Hk.freeB K "len",
  fun K => Hk.freeB K "all",
  fun K => Hk.freeB K "enumerate",
  fun K => Hk.freeB K "tuple",
  fun K => Hk.freeB K "range",
  fun K => Hk.freeB K "list",
  fun K => Hk.freeB K "abs",
  fun K => Hk.freeB K "min",
  fun K => Hk.freeB K "max",
  fun K => Hk.freeB K "repr",
  fun K => Hk.freeB K "ValueError",
  fun K => Hk.freeB K "OverflowError",
  fun K => Hk.intB K "MAX_PAINTERS" 40,
  fun K => Hk.intB K "MAX_NAME" 8,
  fun K => Hk.intB K "MAX_DIGITS" 80,
  fun K => Hk.strB K "LETTERS" "abcdefghijklmnopqrstuvwxyz",
  fun K => Hk.strB K "DIGITS" "0123456789",
  fun K => Hk.oxB mainFile dE_InvalidPainter K,
  fun K => Hk.excCB "InvalidPainter" K,
  fun K => Hk.gloB K "InvalidPainter",
  fun K => Hk.oxB mainFile dE_DuplicateName K,
  fun K => Hk.excCB "DuplicateName" K,
  fun K => Hk.gloB K "DuplicateName",
  fun K => Hk.oxB mainFile dE_ParseError K,
  fun K => Hk.excCB "ParseError" K,
  fun K => Hk.gloB K "ParseError",
  fun K => Hk.oxB mainFile dE_TooMany K,
  fun K => Hk.excCB "TooMany" K,
  fun K => Hk.gloB K "TooMany",
  fun K => Hk.exmB "InvalidPainter" "InvalidPainter" true K,
  fun K => Hk.exmB "ParseError" "ParseError" true K,
  fun K => Hk.exmB "DuplicateName" "ParseError" false K,
  fun K => Hk.exmB "DuplicateName" "DuplicateName" true K,
  fun K => Hk.exmB "TooMany" "ParseError" false K,
  fun K => Hk.exmB "TooMany" "DuplicateName" false K,
  fun K => Hk.exmB "TooMany" "TooMany" true K,
  fun K => Hk.kitB "ParseError" "ValueError" true K,
  fun K => Hk.kitB "DuplicateName" "ValueError" true K,
  fun K => Hk.kitB "TooMany" "OverflowError" true K]
def ck (K : PySem.W.Frag) : Bool := ckL.all fun f => f K
theorem ck_at {K : PySem.W.Frag} (h : ck K = true) (i : Nat) {f : PySem.W.Frag → Bool} (e : ckL[i]? = some f := by rfl) : f K = true := List.all_eq_true.mp h f (List.mem_of_getElem? e)
theorem tx_of {K : PySem.W.Frag} {h : Heap} {mg : Str → Option Value} (X : K.In h) (G : h.Ns mainGlobals mg) (c : Hk.SaysT ck fnL esL tfL K h) : Tx K mg where
  g_is_integer := Hk.glo_of X G (ck_at c.1.ck_ 0)
  g_is_between := Hk.glo_of X G (ck_at c.1.ck_ 1)
  g_is_name := Hk.glo_of X G (ck_at c.1.ck_ 2)
  g_integer_in := Hk.glo_of X G (ck_at c.1.ck_ 3)
  g_painter_line := Hk.glo_of X G (ck_at c.1.ck_ 4)
  g_painter_parts := Hk.glo_of X G (ck_at c.1.ck_ 5)
  g__law_pen := Hk.glo_of X G (ck_at c.1.ck_ 6)
  g__law_draw := Hk.glo_of X G (ck_at c.1.ck_ 7)
  g__law_pick := Hk.glo_of X G (ck_at c.1.ck_ 8)
  g__law_around := Hk.glo_of X G (ck_at c.1.ck_ 9)
  g__law_power := Hk.glo_of X G (ck_at c.1.ck_ 10)
  g__law_great := Hk.glo_of X G (ck_at c.1.ck_ 11)
  g__law_names := Hk.glo_of X G (ck_at c.1.ck_ 12)
  g__law_small := Hk.glo_of X G (ck_at c.1.ck_ 13)
  g__law_aimed := Hk.glo_of X G (ck_at c.1.ck_ 14)
  g__law_lined := Hk.glo_of X G (ck_at c.1.ck_ 15)
  g__law_line := Hk.glo_of X G (ck_at c.1.ck_ 16)
  g__law_fence_text := Hk.glo_of X G (ck_at c.1.ck_ 17)
  g__law_odd := Hk.glo_of X G (ck_at c.1.ck_ 18)
  g__law_is_name := Hk.glo_of X G (ck_at c.1.ck_ 19)
  g__law_painters := Hk.glo_of X G (ck_at c.1.ck_ 20)
  g__law_integer_in := Hk.glo_of X G (ck_at c.1.ck_ 21)
  g__law_signs := Hk.glo_of X G (ck_at c.1.ck_ 22)
  g__law_bent_text := Hk.glo_of X G (ck_at c.1.ck_ 23)
  g__law_bent_lines := Hk.glo_of X G (ck_at c.1.ck_ 24)
  g__law_is_painter := Hk.glo_of X G (ck_at c.1.ck_ 25)
  g__law_due := Hk.glo_of X G (ck_at c.1.ck_ 26)
  g__law_told := Hk.glo_of X G (ck_at c.1.ck_ 27)
  g_law := Hk.glo_of X G (ck_at c.1.ck_ 28)
  g_is_name_names := Hk.ali_of X G (ck_at c.1.ck_ 29)
  g_Painter := Hk.glo_of X G (ck_at c.1.ck_ 30)
  cl_Painter := He.cls_ok (ck_at c.1.ck_ 31)
  m_Painter := He.mkr_ok (ck_at c.1.ck_ 32)
  ii_Painter := Hk.ins_of (ck_at c.1.ck_ 33)
  g_Fence := Hk.glo_of X G (ck_at c.1.ck_ 34)
  cl_Fence := He.cls_ok (ck_at c.1.ck_ 35)
  m_Fence := He.mkr_ok (ck_at c.1.ck_ 36)
  ii_Fence := Hk.ins_of (ck_at c.1.ck_ 37)
  no_Painter_parts := He.noat_ok (ck_at c.1.ck_ 38)
  no_Fence_listed := He.noat_ok (ck_at c.1.ck_ 39)
  no_Fence_places := He.noat_ok (ck_at c.1.ck_ 40)
  co_Painter_MAX_DAY := Hk.con_of (ck_at c.1.ck_ 41)
  co_Painter_MAX_POST := Hk.con_of (ck_at c.1.ck_ 42)
  co_Painter_MAX_STRIDE := Hk.con_of (ck_at c.1.ck_ 43)
  pr_Painter_name := Hk.prop_of (ck_at c.1.ck_ 44)
  pr_Painter_day := Hk.prop_of (ck_at c.1.ck_ 45)
  pr_Painter_post := Hk.prop_of (ck_at c.1.ck_ 46)
  pr_Painter_stride := Hk.prop_of (ck_at c.1.ck_ 47)
  pr_Painter_text := Hk.prop_of (ck_at c.1.ck_ 48)
  pr_Fence_text := Hk.prop_of (ck_at c.1.ck_ 49)
  cm_Painter_read := Hk.cmet_of' (ck_at c.1.ck_ 50)
  cm_Fence_read := Hk.cmet_of' (ck_at c.1.ck_ 51)
  r_Fence := Hk.cread_of (ck_at c.1.ck_ 52)
  r_Painter := Hk.cread_of (ck_at c.1.ck_ 53)
  n_isinstance := Hk.free_of X G (ck_at c.1.ck_ 54)
  n_int := Hk.free_of X G (ck_at c.1.ck_ 55)
  n_bool := Hk.free_of X G (ck_at c.1.ck_ 56)
  n_str := Hk.free_of X G (ck_at c.1.ck_ 57)
  n_len := Hk.free_of X G (ck_at c.1.ck_ 58)
  n_all := Hk.free_of X G (ck_at c.1.ck_ 59)
  n_enumerate := Hk.free_of X G (ck_at c.1.ck_ 60)
  n_tuple := Hk.free_of X G (ck_at c.1.ck_ 61)
  n_range := Hk.free_of X G (ck_at c.1.ck_ 62)
  n_list := Hk.free_of X G (ck_at c.1.ck_ 63)
  n_abs := Hk.free_of X G (ck_at c.1.ck_ 64)
  n_min := Hk.free_of X G (ck_at c.1.ck_ 65)
  n_max := Hk.free_of X G (ck_at c.1.ck_ 66)
  n_repr := Hk.free_of X G (ck_at c.1.ck_ 67)
  n_ValueError := Hk.free_of X G (ck_at c.1.ck_ 68)
  n_OverflowError := Hk.free_of X G (ck_at c.1.ck_ 69)
  c_MAX_PAINTERS := Hk.int_of X G (ck_at c.1.ck_ 70)
  c_MAX_NAME := Hk.int_of X G (ck_at c.1.ck_ 71)
  c_MAX_DIGITS := Hk.int_of X G (ck_at c.1.ck_ 72)
  c_LETTERS := Hk.str_of X G (ck_at c.1.ck_ 73)
  c_DIGITS := Hk.str_of X G (ck_at c.1.ck_ 74)
  x_InvalidPainter := Hk.ox_of (P := PP) (mf := mainFile) (d := dE_InvalidPainter) (ck_at c.1.ck_ 75) (c.err 0) it_InvalidPainter (fun _ _ _ _ _ _ _ _ _ => rfl) rfl (by decide +kernel)
  ec_InvalidPainter := Hk.excC_of (ck_at c.1.ck_ 76)
  g_InvalidPainter := Hk.glo_of X G (ck_at c.1.ck_ 77)
  x_DuplicateName := Hk.ox_of (P := PP) (mf := mainFile) (d := dE_DuplicateName) (ck_at c.1.ck_ 78) (c.err 1) it_DuplicateName (fun _ _ _ _ _ _ _ _ _ => rfl) rfl (by decide +kernel)
  ec_DuplicateName := Hk.excC_of (ck_at c.1.ck_ 79)
  g_DuplicateName := Hk.glo_of X G (ck_at c.1.ck_ 80)
  x_ParseError := Hk.ox_of (P := PP) (mf := mainFile) (d := dE_ParseError) (ck_at c.1.ck_ 81) (c.err 2) it_ParseError (fun _ _ _ _ _ _ _ _ _ => rfl) rfl (by decide +kernel)
  ec_ParseError := Hk.excC_of (ck_at c.1.ck_ 82)
  g_ParseError := Hk.glo_of X G (ck_at c.1.ck_ 83)
  x_TooMany := Hk.ox_of (P := PP) (mf := mainFile) (d := dE_TooMany) (ck_at c.1.ck_ 84) (c.err 3) it_TooMany (fun _ _ _ _ _ _ _ _ _ => rfl) rfl (by decide +kernel)
  ec_TooMany := Hk.excC_of (ck_at c.1.ck_ 85)
  g_TooMany := Hk.glo_of X G (ck_at c.1.ck_ 86)
  xm_InvalidPainter_InvalidPainter := Hk.exm_of (ck_at c.1.ck_ 87)
  xm_ParseError_ParseError := Hk.exm_of (ck_at c.1.ck_ 88)
  xm_DuplicateName_ParseError := Hk.exm_of (ck_at c.1.ck_ 89)
  xm_DuplicateName_DuplicateName := Hk.exm_of (ck_at c.1.ck_ 90)
  xm_TooMany_ParseError := Hk.exm_of (ck_at c.1.ck_ 91)
  xm_TooMany_DuplicateName := Hk.exm_of (ck_at c.1.ck_ 92)
  xm_TooMany_TooMany := Hk.exm_of (ck_at c.1.ck_ 93)
  kt_ParseError_ValueError := Hk.kit_of' (ck_at c.1.ck_ 94)
  kt_DuplicateName_ValueError := Hk.kit_of' (ck_at c.1.ck_ 95)
  kt_TooMany_OverflowError := Hk.kit_of' (ck_at c.1.ck_ 96)
  f_is_integer := c.1.def_ 0
  k_is_integer := (c.1.def_ 0).elim fun _ F => F.kp
  f_is_between := c.1.def_ 1
  k_is_between := (c.1.def_ 1).elim fun _ F => F.kp
  f_is_name := c.1.def_ 2
  k_is_name := (c.1.def_ 2).elim fun _ F => F.kp
  f_integer_in := c.1.def_ 3
  k_integer_in := (c.1.def_ 3).elim fun _ F => F.kp
  f_painter_line := c.1.def_ 4
  k_painter_line := (c.1.def_ 4).elim fun _ F => F.kp
  f_painter_parts := c.1.def_ 5
  k_painter_parts := (c.1.def_ 5).elim fun _ F => F.kp
  f_Painter_init := c.1.def_ 6
  k_Painter_init := (c.1.def_ 6).elim fun _ F => F.kp
  f_Painter_read := c.1.def_ 7
  k_Painter_read := (c.1.def_ 7).elim fun _ F => F.kp
  f_Painter_name := c.1.def_ 8
  k_Painter_name := (c.1.def_ 8).elim fun _ F => F.kp
  f_Painter_day := c.1.def_ 9
  k_Painter_day := (c.1.def_ 9).elim fun _ F => F.kp
  f_Painter_post := c.1.def_ 10
  k_Painter_post := (c.1.def_ 10).elim fun _ F => F.kp
  f_Painter_stride := c.1.def_ 11
  k_Painter_stride := (c.1.def_ 11).elim fun _ F => F.kp
  f_Painter_text := c.1.def_ 12
  k_Painter_text := (c.1.def_ 12).elim fun _ F => F.kp
  f_Fence_init := c.1.def_ 13
  k_Fence_init := (c.1.def_ 13).elim fun _ F => F.kp
  f_Fence_read := c.1.def_ 14
  k_Fence_read := (c.1.def_ 14).elim fun _ F => F.kp
  f_Fence_text := c.1.def_ 15
  k_Fence_text := (c.1.def_ 15).elim fun _ F => F.kp
  f_Lpen := c.1.def_ 16
  k_Lpen := (c.1.def_ 16).elim fun _ F => F.kp
  f_Ldraw := c.1.def_ 17
  k_Ldraw := (c.1.def_ 17).elim fun _ F => F.kp
  f_Lpick := c.1.def_ 18
  k_Lpick := (c.1.def_ 18).elim fun _ F => F.kp
  f_Laround := c.1.def_ 19
  k_Laround := (c.1.def_ 19).elim fun _ F => F.kp
  f_Lpower := c.1.def_ 20
  k_Lpower := (c.1.def_ 20).elim fun _ F => F.kp
  f_Lgreat := c.1.def_ 21
  k_Lgreat := (c.1.def_ 21).elim fun _ F => F.kp
  f_Lnames := c.1.def_ 22
  k_Lnames := (c.1.def_ 22).elim fun _ F => F.kp
  f_Lsmall := c.1.def_ 23
  k_Lsmall := (c.1.def_ 23).elim fun _ F => F.kp
  f_Laimed := c.1.def_ 24
  k_Laimed := (c.1.def_ 24).elim fun _ F => F.kp
  f_Llined := c.1.def_ 25
  k_Llined := (c.1.def_ 25).elim fun _ F => F.kp
  f_Lline := c.1.def_ 26
  k_Lline := (c.1.def_ 26).elim fun _ F => F.kp
  f_Lfence_text := c.1.def_ 27
  k_Lfence_text := (c.1.def_ 27).elim fun _ F => F.kp
  f_Lodd := c.1.def_ 28
  k_Lodd := (c.1.def_ 28).elim fun _ F => F.kp
  f_Lis_name := c.1.def_ 29
  k_Lis_name := (c.1.def_ 29).elim fun _ F => F.kp
  f_Lpainters := c.1.def_ 30
  k_Lpainters := (c.1.def_ 30).elim fun _ F => F.kp
  f_Linteger_in := c.1.def_ 31
  k_Linteger_in := (c.1.def_ 31).elim fun _ F => F.kp
  f_Lsigns := c.1.def_ 32
  k_Lsigns := (c.1.def_ 32).elim fun _ F => F.kp
  f_Lbent_text := c.1.def_ 33
  k_Lbent_text := (c.1.def_ 33).elim fun _ F => F.kp
  f_Lbent_lines := c.1.def_ 34
  k_Lbent_lines := (c.1.def_ 34).elim fun _ F => F.kp
  f_Lis_painter := c.1.def_ 35
  k_Lis_painter := (c.1.def_ 35).elim fun _ F => F.kp
  f_Ldue := c.1.def_ 36
  k_Ldue := (c.1.def_ 36).elim fun _ F => F.kp
  f_Ltold := c.1.def_ 37
  k_Ltold := (c.1.def_ 37).elim fun _ F => F.kp
  f_law := c.1.def_ 38
  k_law := (c.1.def_ 38).elim fun _ F => F.kp
def loose0 : List PySem.Str := ["_wall", "InvalidPainter", "InvalidFence", "DuplicateName", "ParseError", "UnknownName", "TooMany", "MAX_PAINTERS", "MAX_NAME", "MAX_DIGITS", "is_integer", "is_between", "LETTERS", "is_name", "is_name_names", "DIGITS", "integer_in", "painter_line", "painter_parts", "Painter", "Fence", "_law_pen", "_law_draw", "_law_pick", "_law_around", "_law_power", "_law_great", "_law_names", "_law_small", "_law_aimed"]
def loose1 : List PySem.Str := ["_law_lined", "_law_line", "_law_fence_text", "_law_odd", "_law_is_name", "_law_painters", "_law_integer_in", "_law_signs", "_law_bent_text", "_law_bent_lines", "_law_is_painter", "_law_due", "_law_told"]
def loose2 : List PySem.Str := []
def loose3 : List PySem.Str := []
def looseL : List PySem.Str := loose0 ++ (loose1 ++ (loose2 ++ loose3))
abbrev R : PySem.W.OpenRow := PySem.W.OpenLaw.row PySem.Challenge.rw_paintposts_k84_texts_that_are_no_fence
abbrev hk : PySem.W.Hook := Hk.hookT 6 ck fnL esL tfL
def ob (s : PySem.W.SharedT) : Hk.AlT := Hk.obsTG 6 ck fnL esL tfL (HandSHeadRun.getT s)
theorem ob_eq (s : PySem.W.SharedT) : ob s = hk.obs s.abs := Hk.obsTG_eq (HandSHeadRun.getT_eq s)
def lawIx : Nat := 50
theorem run (w : World) : HandSHeadRun.RunEq R (PySem.W.view R.prog [50]) hk ob 20000 looseL w := by
  intro os
  kernel_rfl
end Tx

section
set_option maxRecDepth 100000
set_option maxHeartbeats 4000000
open PySem L2 My
local macro_rules | `(tactic| walk_at "go1") => `(tactic| first
  | with_reducible refine r_seq ?_
  | with_reducible refine r_asg ?_
  | with_reducible refine r_gname ?_
  | with_reducible refine r_ifS ?_
  | with_reducible refine r_next ?_
  | with_reducible refine r_ret ?_
  | with_reducible refine r_drop ?_
  | with_reducible refine r_par ?_
  | ((with_reducible show tVar _ _ _ _); refine r_var rfl ?_)
  | with_reducible refine r_c ?_
  | with_reducible refine r_op ?_
  | with_reducible refine r_un ?_
  | with_reducible refine r_cb ?_
  | with_reducible refine r_callR ?_
  | with_reducible refine r_nil ?_
  | with_reducible refine r_cons ?_
  | with_reducible refine r_tup ?_
  | with_reducible refine r_lst ?_
  | with_reducible refine r_dget ?_
  | with_reducible refine r_test ?_
  | with_reducible refine r_tB ?_
  | with_reducible refine r_not ?_
  | with_reducible refine r_notV ?_
  | with_reducible refine r_and ?_
  | with_reducible refine r_or ?_
  | with_reducible refine r_andV ?_
  | with_reducible refine r_orV ?_
  | with_reducible refine r_if ?_
  | with_reducible refine r_sl ?_
  | with_reducible refine r_part ?_
  | with_reducible refine r_nopart ?_
  | with_reducible refine r_bm ?_
  | with_reducible refine r_bm0 ?_
  | with_reducible refine r_m0 ?_
  | with_reducible refine r_m1 ?_
  | with_reducible refine r_fld ?_
  | with_reducible refine r_propR ?_
  | with_reducible refine r_methR ?_
  | with_reducible refine r_makeR ?_
  | with_reducible refine r_cmeth ?_
  | with_reducible refine r_star ?_
  | with_reducible refine r_cmethW ?_
  | with_reducible refine r_revS ?_
  | with_reducible refine r_nsgn ?_
  | ((with_reducible show rMulT _ _ _ _); refine r_mulT (by decide) (by decide) (by decide) (by decide) ?_)
  | with_reducible refine Ow.r_tryB ?_
  | with_reducible refine Ow.r_tryL ?_
  | with_reducible refine r_callRW ?_
  | with_reducible refine r_makeS1W ?_
  | with_reducible refine r_mkOx ?_
  | with_reducible refine r_mk1 ?_
  | with_reducible refine r_chain ?_
  | with_reducible refine r_fldS ?_
  | with_reducible refine r_dput ?_
  | with_reducible refine r_gsub ?_
  | ((with_reducible show ∃ _ _, V.ref _ = V.ref _ ∧ DGet _ _ _ _ ∧ _); refine r_dgetV (v := ?_) ?_ ?_; rotate_left; focus (first | exact PenD.rest ‹PenD _ _ _ _ _ _› | exact PenD.begun ‹PenD _ _ _ _ _ _› | exact PenD.cells ‹PenD _ _ _ _ _ _›))
  | with_reducible refine r_for ?_
  | with_reducible refine r_lc ?_
  | with_reducible refine r_rng1 ?_
  | with_reducible refine r_rng2 ?_
  | with_reducible refine r_enumA ?_
  | with_reducible refine r_yes ?_
  | with_reducible refine r_pp0 ?_
  | with_reducible refine r_ppC ?_
  | with_reducible refine r_dc ?_
  | with_reducible refine r_con ?_
  | with_reducible refine r_js0 ?_
  | with_reducible refine r_jsT ?_
  | with_reducible refine r_fmt ?_
  | with_reducible refine r_sgn ?_
  | with_reducible refine r_callS ?_
  | with_reducible refine r_makeS1 ?_
  | with_reducible refine r_gnil ?_
  | with_reducible refine r_gcons ?_
  | with_reducible refine r_I0 ?_
  | with_reducible refine r_U ?_
  | with_reducible refine r_addI ?_
  | with_reducible refine r_eqI ?_
  | with_reducible refine r_neI ?_
  | with_reducible refine r_eqS ?_
  | with_reducible refine r_neS ?_
  | with_reducible refine r_intI ?_
  | with_reducible refine r_strS ?_
  | with_reducible refine r_bl ?_
  | with_reducible refine r_int1 ?_
  | with_reducible refine r_two ?_
  | with_reducible refine r_ints1 ?_
  | with_reducible refine r_ints2 ?_
  | with_reducible refine r_str1 ?_
  | with_reducible refine r_iteT ?_
  | with_reducible refine r_iteF ?_
  | with_reducible refine r_iteNT ?_
  | with_reducible refine r_iteNF ?_
  | ((with_reducible show rI _ _ _ _ _ _); refine r_I ?_ ?_; focus (first | (show (0 : Int) < _; omega) | (show CPow _ _; exact ⟨by decide, by decide, by decide⟩) | (refine (Or.inl ⟨?_, ?_⟩ : CMul _ _) <;> omega) | (refine (Or.inr ⟨?_, ?_⟩ : CMul _ _) <;> omega) | (show CDivW _ _; exact wide_div (b := 64) (by decide) (by decide) (by decide) (by decide))))
  | ((with_reducible show rMulU (V.int _) (V.int _) _ _); refine r_mulI ?_ ?_; focus (first | (refine Or.inl ⟨?_, ?_⟩ <;> omega) | (refine Or.inr ⟨?_, ?_⟩ <;> omega)))
  | ((with_reducible show rLenU _ [V.ref _] _ _); refine r_lenL (ys := ?_) ?_ ?_; rotate_left; focus (first | assumption | exact SqL.of ‹_›))
  | ((with_reducible show rLenU _ [V.ref _] _ _); refine r_lenT (ys := ?_) ?_ ?_; rotate_left; focus (first | assumption | exact SqT.of ‹_›)))
local macro_rules | `(tactic| walk_at "go") => `(tactic| repeat walk_at "go1")

set_option maxRecDepth 100000
set_option maxHeartbeats 4000000
namespace Tx
open PySem PySem.Spec PyProof.Rows L2 My
section
variable {P : Program} {w : World} {K : PySem.W.Frag} {mg : Str → Option Value} {base : Heap}
/-! ### _law_draw -/
def Bd (j : Nat) : Int := 60000000 * 10000000 ^ j
theorem Bd_s (j : Nat) : Bd (j + 1) = 10000000 * Bd j := by
  unfold Bd
  rw [Int.pow_succ]
  omega
theorem Bd_1 (j : Nat) : 60000000 ≤ Bd j := by
  induction j with
  | zero => decide
  | succ j ih =>
    rw [Bd_s]
    omega
/-- behind it: at most c more cells are begun -/
def Drawn (z : PenI) (H : Hp) (n c : Nat) (many : Int) (Q : VK) : Prop := ∀ v n' H', 0 ≤ v → v < many → n' ≤ n + c → Kp H H' → Pen H' z n' → Q (.int v) H'
def spDrawN : Nat → Sp
  | 0 => fun _ _ _ _ => False
  | j + 1 => fun vs H Q _ => ∃ z many n, vs = [.ref (PenI.a z), .int many] ∧ Pen H z n ∧ 1 ≤ many ∧ many ≤ Bd j ∧ many ≤ 10 ^ 60 ∧ n + (j + 1) ≤ 10 ^ 17 + 5 ∧ Drawn z H n (j + 1) many Q
theorem dbound {m : Int} (h : m ≤ 10 ^ 60) (h0 : 1 ≤ m) : m.natAbs < 2 ^ 200 := by
  have h2 : (10 : Int) ^ 60 < 2 ^ 200 := by decide
  omega
theorem ok_drawN (T : Tx K mg) : ∀ j : Nat, FnR P w K mg base (L2.CX P w) j (a_Ldraw K) (spDrawN j)
  | 0 => fun _ _ _ _ _ _ _ _ _ _ _ h => h.elim
  | j + 1 => by
    have F_Ldraw : FnR P w K mg base (L2.CX P w) j (a_Ldraw K) (spDrawN j) := ok_drawN T j
    refine fnR_of T.f_Ldraw sc_Ldraw (fun _ _ _ _ _ _ us hl => match us, hl with | [_, _], _ => rfl) (fun vs H Q E h => ?_) fun A outer s H vs Q E cdv hr h => ?_
    · obtain ⟨z, many, n, rfl, _⟩ := h
      rfl
    · obtain ⟨⟨a, c, ns⟩, many, n, rfl, ⟨b, r, hp, hb0, hbn, hr0⟩, hm1, hm2, hm3, hn, k⟩ := h
      dsimp only at hp
      refine ⟨_, (pss_cons (ps_if (pt_cmpR op_gt (pe_dget (hu_of hr) (pv 0) pe_str (fun _ _ => rfl)) pe_int (nomark _))
 (pss_cons (ps_set (i := 2) sc_Ldraw.nd rfl (by first | exact Or.inl rfl | exact Or.inr rfl) (pe_op op_mod (pe_callTy call_intU rfl T.n_int (by decide +kernel) (pa_cons (pe_dget (hu_of hr) (pv 0) pe_str (fun _ _ => rfl)) pa_nil)) (pv 1)))
 (pss_cons (ps_dput (hu_of hr) (pv 0) pe_str (pe_op op_fdivW (pe_dget (hu_of hr) (pv 0) pe_str (fun _ _ => rfl)) (pv 1)) rfl)
 (pss_one (ps_ret (pv 2)))))
 pss_nil)
 (pss_cons (ps_set (i := 3) sc_Ldraw.nd rfl (by first | exact Or.inl rfl | exact Or.inr rfl) (pe_dget (hu_of hr) (pv 0) pe_str (fun _ _ => rfl)))
 (pss_cons (ps_dput (hu_of hr) (pv 0) pe_str (pe_op (op_addUK (K := K) rfl) (pv 3) pe_int) rfl)
 (pss_cons (ps_set (i := 4) sc_Ldraw.nd rfl (by first | exact Or.inl rfl | exact Or.inr rfl) (pe_op (op_addUK (K := K) rfl) (pe_op op_mulU pe_int (pv 3)) pe_int))
 (C8.pss_cut (ps_if (pt_cmpR (op_neUK (K := K) rfl hr.units) (pe_dget (hu_of hr) (pv 0) pe_str (fun _ _ => rfl)) (pe_lst pa_nil) (nomark _))
 (pss_one (ps_set (i := 4) sc_Ldraw.nd rfl (by first | exact Or.inl rfl | exact Or.inr rfl) (pe_ix (ix_seqK (K := K) rfl) (pe_dget (hu_of hr) (pv 0) pe_str (fun _ _ => rfl)) (pe_op op_mod (pe_callTy call_intU rfl T.n_int (by decide +kernel) (pa_cons (pv 3) pa_nil)) (pe_callB (call_lenUK (K := K) rfl) rfl T.n_len (by decide +kernel) (pa_cons (pe_dget (hu_of hr) (pv 0) pe_str (fun _ _ => rfl)) pa_nil))) (fun _ _ => rfl))))
 pss_nil)
 (C8.pss_cut (ps_if (PW.pt (pw_and (pt_cmpR op_lt (pv 3) (pe_callB (call_lenUK (K := K) rfl) rfl T.n_len (by decide +kernel) (pa_cons (pe_dget (hu_of hr) (pv 0) pe_str (fun _ _ => rfl)) pa_nil)) (nomark _)) (pw_and1 (pt_cmpR op_ge (pe_callB call_abs rfl T.n_abs (by decide +kernel) (pa_cons (pv 4) pa_nil)) (pe_op op_pow pe_int pe_int) (nomark _)))))
 (pss_cons (ps_dput (hu_of hr) (pv 0) pe_str (pe_op op_fdivW (pe_op op_sub (pe_callB call_abs rfl T.n_abs (by decide +kernel) (pa_cons (pv 4) pa_nil)) (pe_op op_pow pe_int pe_int)) (pv 1)) rfl)
 (pss_one (ps_ret (pe_op op_mod (pe_op op_sub (pe_callB call_abs rfl T.n_abs (by decide +kernel) (pa_cons (pv 4) pa_nil)) (pe_op op_pow pe_int pe_int)) (pv 1)))))
 pss_nil)
 (pss_cons (ps_set (i := 5) sc_Ldraw.nd rfl (by first | exact Or.inl rfl | exact Or.inr rfl) (pe_op op_mod (pe_callTy call_intU rfl T.n_int (by decide +kernel) (pa_cons (pe_op (op_addUK (K := K) rfl) (pe_op (op_addUK (K := K) rfl) (pe_op op_mulU (pe_op op_mod (pe_callTy call_intU rfl T.n_int (by decide +kernel) (pa_cons (pv 4) pa_nil)) pe_int) pe_int) (pe_op op_mulU (pe_op op_mulU pe_int (pv 3)) (pv 3))) pe_int) pa_nil)) pe_int))
 (pss_cons (ps_set (i := 5) sc_Ldraw.nd rfl (by first | exact Or.inl rfl | exact Or.inr rfl) (pe_op op_mod (pe_callTy call_intU rfl T.n_int (by decide +kernel) (pa_cons (pe_op (op_addUK (K := K) rfl) (pe_op (op_addUK (K := K) rfl) (pe_op (op_addUK (K := K) rfl) (pe_op op_mulU (pv 5) (pv 5)) (pe_op op_mulU pe_int (pv 5))) (pe_op op_mulU pe_int (pv 3))) pe_int) pa_nil)) pe_int))
 (pss_cons (ps_set (i := 5) sc_Ldraw.nd rfl (by first | exact Or.inl rfl | exact Or.inr rfl) (pe_op op_fdivW (pe_op op_mod (pe_callTy call_intU rfl T.n_int (by decide +kernel) (pa_cons (pe_op op_mulU (pv 5) (pe_op (op_addUK (K := K) rfl) (pv 5) pe_int)) pa_nil)) pe_int) pe_int))
 (C8.pss_cut (ps_if (pt_cmpR op_gt (pv 1) pe_int (nomark _))
 (pss_one (ps_set (i := 5) sc_Ldraw.nd rfl (by first | exact Or.inl rfl | exact Or.inr rfl) (pe_op (op_addUK (K := K) rfl) (pe_op op_mod (pe_callTy call_intU rfl T.n_int (by decide +kernel) (pa_cons (pv 5) pa_nil)) pe_int) (pe_op op_mulU pe_int (pe_callR F_Ldraw (hr.mono (by first | decide | omega)) T.k_Ldraw rfl T.g__law_draw passL (pa_cons (pv 0) (pa_cons (pe_op (op_addUK (K := K) rfl) (pe_op op_fdivW (pv 1) pe_int) pe_int) pa_nil)))))))
 pss_nil)
 (pss_one (ps_ret (pe_op op_mod (pe_callTy call_intU rfl T.n_int (by decide +kernel) (pa_cons (pv 5) pa_nil)) (pv 1)))))))))))))), ?_⟩
      try dsimp only [cxOf]
      walk_at "go"
      refine r_iteD (fun hr1 => ?_) fun hr1 => ?_
      · walk_at "go"
        refine r_I (wide_div (b := 200) (by omega) (dbound hm3 hm1) (by decide) (by decide)) ?_
        walk_at "go"
        refine r_dputV (hp.putRest _) ?_
        walk_at "go"
        exact k _ n _ (Int.emod_nonneg _ (by omega)) (Int.emod_lt_of_pos _ (by omega)) (by omega) (hp.kp _ _) ⟨b, _, hp.upd _ _, hb0, hbn, Int.ediv_nonneg hr0 (by omega)⟩
      · walk_at "go"
        refine r_dputV (hp.putBegun _) ?_
        have hp1 := hp.upd (b + 1) r
        have kp1 := hp.kp (b + 1) r
        generalize upd H a (HO.dK (penKV c (b + 1) r)) = H1 at hp1 kp1
        walk_at "go"
        refine r_cut (fun σ' H' => ∃ cell : Int, σ' = [some (.ref a), some (.int many), none, some (.int b), some (.int cell), none] ∧ Kp H H' ∧ PenD H' a c ns (b + 1) r) ?_ ?_
        · walk_at "go"
          refine ⟨by decide, fun q hq => ?_⟩
          have hp2 : PenD (upd H1 q (.lst [])) a c ns (b + 1) r := Kp.penD hp1 hq
          have kp2 := kp1.then (o := .lst []) hq
          have hq2 : (upd H1 q (.lst [])) q = some (.lst []) := upd_same
          generalize upd H1 q (.lst []) = H2 at hp2 kp2 hq2
          refine r_neL0 (SqL.of hp2.c) (SqL.of hq2) ?_
          walk_at "go"
          refine r_iteD (fun hne => ?_) fun hne => ?_
          · walk_at "go"
            refine r_lenL (SqL.of hp2.c) ?_
            have hl : 0 < (((ns.map V.int).length : Nat) : Int) := by
              rw [List.length_map]
              have := List.length_pos_iff.mpr hne
              omega
            walk_at "go"
            obtain ⟨v, hv, hm⟩ := atI_mod (xs := ns.map V.int) (i := b) (by simpa using hne)
            obtain ⟨cell, _, rfl⟩ := List.mem_map.mp hm
            refine r_ixL (SqL.of hp2.c) hv ?_
            walk_at "go"
            exact ⟨_, rfl, kp2, hp2⟩
          · walk_at "go"
            exact ⟨_, rfl, kp2, hp2⟩
        · rintro σ' H' ⟨cell, rfl, kp2, hp2⟩
          have fin : ∀ mixed : Int, ∀ n' : Nat, ∀ H'' : Hp, n' ≤ n + (j + 1) → Kp H H'' → Pen H'' ⟨a, c, ns⟩ n' → Q (.int (mixed % many)) H'' := fun mixed n' H'' h1 h2 h3 =>
            k _ n' _ (Int.emod_nonneg _ (by omega)) (Int.emod_lt_of_pos _ (by omega)) h1 h2 h3
          refine r_cut (fun σ' H3 => σ' = [some (.ref a), some (.int many), none, some (.int b), some (.int cell), none] ∧ H3 = H') ?_ ?_
          · walk_at "go"
            refine r_lenL (SqL.of hp2.c) ?_
            walk_at "go"
            refine r_iteD (fun h1 => ?_) fun h1 => ?_
            · walk_at "go"
              refine r_iteD (fun h2 => ?_) fun h2 => ?_
              · walk_at "go"
                refine r_I (wide_div (b := 200) (by omega) (dbound hm3 hm1) (by decide) (by decide)) ?_
                walk_at "go"
                refine r_dputV (hp2.putRest _) ?_
                walk_at "go"
                refine k _ (n + 1) _ (Int.emod_nonneg _ (by omega)) (Int.emod_lt_of_pos _ (by omega)) (by omega) (kp2.trans (hp2.kp _ _)) ⟨_, _, hp2.upd _ _, by omega, by omega, Int.ediv_nonneg ?_ (by omega)⟩
                generalize (if cell < 0 then -cell else cell) = cc at h2 ⊢
                omega
              · walk_at "go"
                exact ⟨rfl, rfl⟩
            · walk_at "go"
              exact ⟨rfl, rfl⟩
          · rintro _ _ ⟨rfl, rfl⟩
            walk_at "go"
            refine r_cut (fun σ' H3 => ∃ mixed n', σ' = [some (.ref a), some (.int many), none, some (.int b), some (.int cell), some (.int mixed)] ∧ Kp H H3 ∧ Pen H3 ⟨a, c, ns⟩ n' ∧ n' ≤ n + (j + 1)) ?_ ?_
            · walk_at "go"
              refine r_iteD (fun h1 => ?_) fun h1 => ?_
              · walk_at "go"
                cases j with
                | zero => exact absurd hm2 (by unfold Bd; omega)
                | succ j =>
                  have hb := Bd_s j
                  have hb1 := Bd_1 j
                  refine ⟨⟨a, c, ns⟩, _, n + 1, rfl, ⟨_, _, hp2, by omega, by omega, by omega⟩, by omega, by omega, by omega, by omega, fun v n' H4 h0 h1 h2 h3 h4 => ?_⟩
                  walk_at "go"
                  exact ⟨_, n', rfl, kp2.trans h3, h4, by omega⟩
              · walk_at "go"
                exact ⟨_, n + 1, rfl, kp2, ⟨_, _, hp2, by omega, by omega, by omega⟩, by omega⟩
            · rintro σ' H3 ⟨mixed, n', rfl, k3, p3, hn'⟩
              walk_at "go"
              exact fin _ n' _ hn' k3 p3
/-- _law_draw(pen, many): any number from 0 on below many -/
def spDraw : Sp := fun vs H Q _ => ∃ z many n, vs = [.ref (PenI.a z), .int many] ∧ Pen H z n ∧ 1 ≤ many ∧ many ≤ 10 ^ 34 ∧ n ≤ 10 ^ 17 ∧ Drawn z H n 5 many Q
theorem ok_draw (T : Tx K mg) : FnR P w K mg base (L2.CX P w) 5 (a_Ldraw K) spDraw := (ok_drawN T 5).imp fun vs H Q E h => by
  obtain ⟨z, many, n, e, hp, h1, h2, h3, k⟩ := h
  have hb : Bd 4 = 600000000000000000000000000000000000 := by decide
  exact ⟨z, many, n, e, hp, h1, by rw [hb]; omega, by omega, by show n + 5 ≤ _; omega, k⟩
end
end Tx

set_option maxRecDepth 100000
set_option maxHeartbeats 4000000
namespace Tx
open PySem PySem.Spec PyProof.Rows L2 My
section
variable {P : Program} {w : World} {K : PySem.W.Frag} {mg : Str → Option Value} {base : Heap}
theorem r_draw {z : PenI} {H : Hp} {n : Nat} {many : Int} {Q : VK} {E : XK} (hp : Pen H z n) (h1 : 1 ≤ many) (h2 : many ≤ 10 ^ 34) (h3 : n ≤ 10 ^ 17) (k : ∀ v n' H', 0 ≤ v → v < many → n' ≤ n + 5 → Kp H H' → Pen H' z n' → Q (.int v) H') :
    spDraw [.ref z.a, .int many] H Q E := ⟨z, many, n, rfl, hp, h1, h2, h3, k⟩
def spPick (K : PySem.W.Frag) : Sp := fun vs H Q _ => ∃ z n x, vs = [.ref (PenI.a z), x] ∧ Pen H z n ∧ n ≤ 10 ^ 17 ∧
  ((∃ p xs, x = .ref p ∧ SqL K H p xs ∧ xs ≠ [] ∧ xs.length ≤ 1000 ∧ Aft z H n 5 (fun v _ => v ∈ xs) Q) ∨ ∃ s : Str, x = .str s ∧ 0 < s.length ∧ s.length ≤ 1000 ∧ Aft z H n 5 (fun v _ => ∃ c, c ∈ s.cps.toList ∧ v = .str ⟨#[c]⟩) Q)
theorem ok_pick (T : Tx K mg) : FnR P w K mg base (L2.CX P w) 6 (a_Lpick K) (spPick K) := by
  have F_Ldraw := ok_draw (P := P) (w := w) (base := base) T
  refine fnR_of T.f_Lpick sc_Lpick (fun _ _ _ _ _ _ us hl => match us, hl with | [_, _], _ => rfl) (fun vs H Q E h => ?_) fun A outer s H vs Q E cdv hr h => ?_
  · obtain ⟨z, n, x, rfl, _⟩ := h
    rfl
  · obtain ⟨z, n, x, rfl, hp, hn, h⟩ := h
    refine ⟨_, (pss_one (ps_ret (pe_ix (ix_seqK (K := K) rfl) (pv 1) (pe_callR F_Ldraw (hr.mono (by first | decide | omega)) T.k_Ldraw rfl T.g__law_draw passL (pa_cons (pv 0) (pa_cons (pe_callB (call_lenUK (K := K) rfl) rfl T.n_len (by decide +kernel) (pa_cons (pv 1) pa_nil)) pa_nil))) (fun _ _ => rfl)))), ?_⟩
    try dsimp only [cxOf]
    walk_at "go"
    rcases h with ⟨p, xs, rfl, hl, h0, h1, k⟩ | ⟨s, rfl, h0, h1, k⟩
    · refine r_lenL hl ?_
      walk_at "go"
      have := List.length_pos_iff.mpr h0
      refine r_draw hp (by omega) (by omega) hn fun v n' H' v0 v1 hn' kp hp' => ?_
      obtain ⟨u, hu, _, hm⟩ := atI_in (xs := xs) v0 v1
      walk_at "go"
      exact r_ixL (kp.rdL hl) hu (k _ _ _ hm hn' kp hp')
    · refine r_lenS (by show _ ≤ 16777216; omega) ?_
      walk_at "go"
      refine r_draw hp (by omega) (by omega) hn fun v n' H' v0 v1 hn' kp hp' => ?_
      obtain ⟨u, hu, _, hm⟩ := atI_in (xs := s.cps.toList) v0 v1
      walk_at "go"
      exact r_ixS (by show _ ≤ 16777216; omega) hu (k _ _ _ ⟨u, hm, rfl⟩ hn' kp hp')
theorem r_pickL {z : PenI} {H : Hp} {n : Nat} {p : Addr} {xs : List V} {Q : VK} {E : XK} (hp : Pen H z n) (hl : SqL K H p xs) (h0 : xs ≠ []) (h1 : xs.length ≤ 1000) (hn : n ≤ 10 ^ 17) (k : ∀ v n' H', v ∈ xs → n' ≤ n + 5 → Kp H H' → Pen H' z n' → Q v H') :
    spPick K [.ref z.a, .ref p] H Q E := ⟨z, n, _, rfl, hp, hn, .inl ⟨p, xs, rfl, hl, h0, h1, k⟩⟩
theorem r_pickS {z : PenI} {H : Hp} {n : Nat} {s : Str} {Q : VK} {E : XK} (hp : Pen H z n) (h0 : 0 < s.length) (h1 : s.length ≤ 1000) (hn : n ≤ 10 ^ 17) (k : ∀ c n' H', c ∈ s.cps.toList → n' ≤ n + 5 → Kp H H' → Pen H' z n' → Q (.str ⟨#[c]⟩) H') :
    spPick K [.ref z.a, .str s] H Q E := ⟨z, n, _, rfl, hp, hn, .inr ⟨s, rfl, h0, h1, fun v n' H' ⟨c, hc, e⟩ h2 h3 h4 => by
      subst e
      exact k c n' H' hc h2 h3 h4⟩⟩
/-! ### _law_around -/
def spAround : Sp := fun vs H Q _ => ∃ z n most, vs = [.ref (PenI.a z), .int most] ∧ Pen H z n ∧ n ≤ 10 ^ 17 ∧ 0 ≤ most ∧ most ≤ 10 ^ 33 ∧ Aft z H n 5 (fun v _ => ∃ i, v = .int i ∧ -most ≤ i ∧ i ≤ most) Q
theorem ok_around (T : Tx K mg) : FnR P w K mg base (L2.CX P w) 6 (a_Laround K) spAround := by
  have F_Ldraw := ok_draw (P := P) (w := w) (base := base) T
  refine fnR_of T.f_Laround sc_Laround (fun _ _ _ _ _ _ us hl => match us, hl with | [_, _], _ => rfl) (fun vs H Q E h => ?_) fun A outer s H vs Q E cdv hr h => ?_
  · obtain ⟨z, n, x, rfl, _⟩ := h
    rfl
  · obtain ⟨z, n, most, rfl, hp, hn, m0, m1, k⟩ := h
    refine ⟨_, (pss_one (ps_ret (pe_op op_sub (pe_callR F_Ldraw (hr.mono (by first | decide | omega)) T.k_Ldraw rfl T.g__law_draw passL (pa_cons (pv 0) (pa_cons (pe_op (op_addUK (K := K) rfl) (pe_op op_mulU pe_int (pv 1)) pe_int) pa_nil))) (pv 1)))), ?_⟩
    try dsimp only [cxOf]
    walk_at "go"
    refine r_draw hp (by omega) (by omega) hn fun v n' H' v0 v1 hn' kp hp' => ?_
    walk_at "go"
    exact k _ _ _ ⟨_, rfl, by omega, by omega⟩ hn' kp hp'
theorem r_around {z : PenI} {H : Hp} {n : Nat} {most : Int} {Q : VK} {E : XK} (hp : Pen H z n) (h1 : 0 ≤ most) (h2 : most ≤ 10 ^ 33) (h3 : n ≤ 10 ^ 17) (k : ∀ i n' H', -most ≤ i → i ≤ most → n' ≤ n + 5 → Kp H H' → Pen H' z n' → Q (.int i) H') :
    spAround [.ref z.a, .int most] H Q E := ⟨z, n, most, rfl, hp, h3, h1, h2, fun v n' H' ⟨i, e, a, b⟩ c d f => by
      subst e
      exact k i n' H' a b c d f⟩
/-! ### _law_power -/
def spPower : Sp := fun vs H Q _ => ∃ f : Nat, vs = [.int f] ∧ f ≤ 100 ∧ Q (.int (10 ^ f)) H
theorem ok_power (T : Tx K mg) : FnR P w K mg base (L2.CX P w) 1 (a_Lpower K) spPower := by
  refine fnR_of T.f_Lpower sc_Lpower (fun _ _ _ _ _ _ us hl => match us, hl with | [_], _ => rfl) (fun vs H Q E h => ?_) fun A outer s H vs Q E cdv hr h => ?_
  · obtain ⟨f, rfl, _⟩ := h
    rfl
  · obtain ⟨f, rfl, h1, k⟩ := h
    refine ⟨_, (pss_cons (ps_set (i := 1) sc_Lpower.nd rfl (by first | exact Or.inl rfl | exact Or.inr rfl) pe_int)
 (pss_cons (ps_for (passes_of rfl) rfl (pi_range1 rfl T.n_range (pa_cons (pv 0) pa_nil)) (pg_name (i := 2) sc_Lpower.nd rfl (by first | exact Or.inl rfl | exact Or.inr rfl))
 (pss_one (ps_set (i := 1) sc_Lpower.nd rfl (by first | exact Or.inl rfl | exact Or.inr rfl) (pe_op op_mulU (pv 1) pe_int))))
 (pss_one (ps_ret (pv 1))))), ?_⟩
    try dsimp only [cxOf]
    walk_at "go"
    refine ⟨by omega, by omega, ?_⟩
    refine for_rng (n := f) (by simp) (fun i σ' H' => ∃ o, σ' = [some (.int f), some (.int (10 ^ i)), o] ∧ H' = H) ⟨_, rfl, rfl⟩ (fun i σ' H' hi ⟨o, e1, e2⟩ => ?_) fun σ' H' ⟨o, e1, e2⟩ => ?_
    · subst e1 e2
      walk_at "go"
      exact ⟨_, by rw [Int.pow_succ]; rfl, rfl⟩
    · subst e1 e2
      walk_at "go"
      exact k
/-! ### _law_great -/
theorem p10 {f : Nat} (h1 : 2 ≤ f) (h2 : f ≤ 30) : (100 : Int) ≤ 10 ^ f ∧ (10 : Int) ^ f ≤ 10 ^ 30 := by
  have a := Nat.pow_le_pow_right (n := 10) (by decide) h1
  have b := Nat.pow_le_pow_right (n := 10) (by decide) h2
  have e : ((10 ^ f : Nat) : Int) = 10 ^ f := by simp
  have e2 : ((10 ^ 30 : Nat) : Int) = 10 ^ 30 := by decide
  generalize 10 ^ f = x at *
  omega
def spGreat : Sp := fun vs H Q _ => ∃ z n, ∃ f : Nat, vs = [.ref (PenI.a z), .int f] ∧ Pen H z n ∧ n + 100 ≤ 10 ^ 17 ∧ 2 ≤ f ∧ f ≤ 30 ∧ Aft z H n 30 (fun v _ => ∃ i, v = .int i ∧ 0 ≤ i ∧ i < 10 ^ f) Q
theorem ok_great (T : Tx K mg) : FnR P w K mg base (L2.CX P w) 7 (a_Lgreat K) spGreat := by
  have F_Ldraw := ok_draw (P := P) (w := w) (base := base) T
  have F_Lpick := ok_pick (P := P) (w := w) (base := base) T
  have F_Lpower := ok_power (P := P) (w := w) (base := base) T
  refine fnR_of T.f_Lgreat sc_Lgreat (fun _ _ _ _ _ _ us hl => match us, hl with | [_, _], _ => rfl) (fun vs H Q E h => ?_) fun A outer s H vs Q E cdv hr h => ?_
  · obtain ⟨z, n, f, rfl, _⟩ := h
    rfl
  · obtain ⟨z, n, f, rfl, hp, hn, f0, f1, k⟩ := h
    refine ⟨_, (pss_cons (ps_set (i := 2) sc_Lgreat.nd rfl (by first | exact Or.inl rfl | exact Or.inr rfl) (pe_callR F_Lpower (hr.mono (by first | decide | omega)) T.k_Lpower rfl T.g__law_power passL (pa_cons (pv 1) pa_nil)))
 (pss_cons (ps_set (i := 3) sc_Lgreat.nd rfl (by first | exact Or.inl rfl | exact Or.inr rfl) (pe_lst (pa_cons (pe_callR F_Ldraw (hr.mono (by first | decide | omega)) T.k_Ldraw rfl T.g__law_draw passL (pa_cons (pv 0) (pa_cons pe_int pa_nil))) (pa_cons (pe_callR F_Ldraw (hr.mono (by first | decide | omega)) T.k_Ldraw rfl T.g__law_draw passL (pa_cons (pv 0) (pa_cons (pv 2) pa_nil))) (pa_cons (pe_callR F_Ldraw (hr.mono (by first | decide | omega)) T.k_Ldraw rfl T.g__law_draw passL (pa_cons (pv 0) (pa_cons (pv 2) pa_nil))) pa_nil)))))
 (pss_one (ps_ret (pe_callR F_Lpick (hr.mono (by first | decide | omega)) T.k_Lpick rfl T.g__law_pick passL (pa_cons (pv 0) (pa_cons (pe_op (op_addUK (K := K) rfl) (pv 3) (pe_lst (pa_cons (pe_op (op_addUK (K := K) rfl) (pe_op op_fdivW (pv 2) pe_int) (pe_callR F_Ldraw (hr.mono (by first | decide | omega)) T.k_Ldraw rfl T.g__law_draw passL (pa_cons (pv 0) (pa_cons pe_int pa_nil)))) (pa_cons (pe_op op_sub (pe_op op_sub (pv 2) pe_int) (pe_callR F_Ldraw (hr.mono (by first | decide | omega)) T.k_Ldraw rfl T.g__law_draw passL (pa_cons (pv 0) (pa_cons pe_int pa_nil)))) pa_nil)))) pa_nil))))))), ?_⟩
    try dsimp only [cxOf]
    walk_at "go"
    obtain ⟨q0, q1⟩ := p10 f0 f1
    refine ⟨f, rfl, by omega, ?_⟩
    generalize hm : (10 : Int) ^ f = most at *
    walk_at "go"
    refine r_draw hp (by omega) (by omega) (by omega) fun v1 n1 H1 v10 v11 hn1 kp1 hp1 => ?_
    walk_at "go"
    refine r_draw hp1 (by omega) (by omega) (by omega) fun v2 n2 H2 v20 v21 hn2 kp2 hp2 => ?_
    walk_at "go"
    refine r_draw hp2 (by omega) (by omega) (by omega) fun v3 n3 H3 v30 v31 hn3 kp3 hp3 => ?_
    walk_at "go"
    refine ⟨by show 3 ≤ 16777216; decide, fun p hq => ?_⟩
    have hp4 := hp3.new (o := .lst [.int v1, .int v2, .int v3]) hq
    have kp4 : Kp H _ := ((kp1.trans kp2).trans kp3).then (o := .lst [.int v1, .int v2, .int v3]) hq
    have hl4 : (upd H3 p (.lst [.int v1, .int v2, .int v3])) p = some (.lst [.int v1, .int v2, .int v3]) := upd_same
    generalize upd H3 p (.lst [.int v1, .int v2, .int v3]) = H4 at *
    walk_at "go"
    refine r_draw hp4 (by omega) (by omega) (by omega) fun v5 n5 H5 v50 v51 hn5 kp5 hp5 => ?_
    walk_at "go"
    refine r_draw hp5 (by omega) (by omega) (by omega) fun v6 n6 H6 v60 v61 hn6 kp6 hp6 => ?_
    walk_at "go"
    refine ⟨by show 2 ≤ 16777216; decide, fun p2 hq2 => ?_⟩
    have hp7 := hp6.new (o := .lst [.int (most / 10 + v5), .int (most - 1 - v6)]) hq2
    have kp7 : Kp H _ := ((kp4.trans kp5).trans kp6).then (o := .lst [.int (most / 10 + v5), .int (most - 1 - v6)]) hq2
    have hl7 : (upd H6 p2 (.lst [.int (most / 10 + v5), .int (most - 1 - v6)])) p2 = some (.lst [.int (most / 10 + v5), .int (most - 1 - v6)]) := upd_same
    have hm7 : (upd H6 p2 (.lst [.int (most / 10 + v5), .int (most - 1 - v6)])) p = some (.lst [.int v1, .int v2, .int v3]) := (Kp.new hq2).l (kp6.l (kp5.l hl4))
    generalize upd H6 p2 (.lst [.int (most / 10 + v5), .int (most - 1 - v6)]) = H7 at *
    refine r_catL hm7 hl7 (by show 5 ≤ 16777216; decide) fun p3 hq3 => ?_
    have hp8 := hp7.new (o := .lst ([.int v1, .int v2, .int v3] ++ [.int (most / 10 + v5), .int (most - 1 - v6)])) hq3
    walk_at "go"
    refine r_pickL hp8 (SqL.of upd_same) (by simp) (by simp) (by omega) fun v n9 H9 hv hn9 kp9 hp9 => ?_
    refine k _ _ _ ?_ (by omega) ((kp7.then hq3).trans kp9) hp9
    simp only [List.cons_append, List.nil_append, List.mem_cons, List.not_mem_nil, or_false] at hv
    rcases hv with rfl | rfl | rfl | rfl | rfl <;> exact ⟨_, rfl, by omega, by omega⟩
theorem r_great {z : PenI} {H : Hp} {n f : Nat} {i : Int} {Q : VK} {E : XK} (hi : i = f) (hp : Pen H z n) (h1 : 2 ≤ f) (h2 : f ≤ 30) (h3 : n + 100 ≤ 10 ^ 17) (k : ∀ i n' H', 0 ≤ i → i < 10 ^ f → n' ≤ n + 30 → Kp H H' → Pen H' z n' → Q (.int i) H') :
    spGreat [.ref z.a, .int i] H Q E := ⟨z, n, f, by rw [hi], hp, h3, h1, h2, fun v n' H' ⟨i, e, a, b⟩ c d f => by
      subst e
      exact k i n' H' a b c d f⟩
end
end Tx

set_option maxRecDepth 100000
set_option maxHeartbeats 4000000
namespace Tx
open PySem PySem.Spec PyProof.Rows L2 My
section
variable {P : Program} {w : World} {K : PySem.W.Frag} {mg : Str → Option Value} {base : Heap}
def NamesR (H0 : Hp) (many : Nat) (v : V) (H : Hp) : Prop := ∃ p names, v = .ref p ∧ H0 p = none ∧ H p = some (.lst (names.map V.str)) ∧ NamesOk names many
def spNames : Sp := fun vs H Q _ => ∃ z n, ∃ many : Nat, vs = [.ref (PenI.a z), .int many] ∧ Pen H z n ∧ n + 1000 ≤ 10 ^ 17 ∧ many ≤ 52 ∧ Aft z H n 400 (NamesR H many) Q
theorem stepsV : ∀ {v : V}, v ∈ stepsL.map V.int → ∃ i, v = .int i ∧ i ∈ stepsL := fun h => by
  obtain ⟨i, hi, rfl⟩ := List.mem_map.mp h
  exact ⟨i, rfl, hi⟩
theorem ok_names (T : Tx K mg) : FnR P w K mg base (L2.CX P w) 7 (a_Lnames K) spNames := by
  have F_Ldraw := ok_draw (P := P) (w := w) (base := base) T
  have F_Lpick := ok_pick (P := P) (w := w) (base := base) T
  refine fnR_of T.f_Lnames sc_Lnames (fun _ _ _ _ _ _ us hl => match us, hl with | [_, _], _ => rfl) (fun vs H Q E h => ?_) fun A outer s H vs Q E cdv hr h => ?_
  · obtain ⟨z, n, f, rfl, _⟩ := h
    rfl
  · obtain ⟨z, n, many, rfl, hp, hn, hm, k⟩ := h
    refine ⟨_, (pss_cons (ps_set (i := 2) sc_Lnames.nd rfl (by first | exact Or.inl rfl | exact Or.inr rfl) pe_str)
 (pss_cons (ps_set (i := 3) sc_Lnames.nd rfl (by first | exact Or.inl rfl | exact Or.inr rfl) (pe_join pe_str (pe_lc (own := [("_law_k", 4)]) rfl sc_Lnames.nd (pi_range1 rfl T.n_range (pa_cons (pe_callR F_Ldraw (hr.mono (by first | decide | omega)) T.k_Ldraw rfl T.g__law_draw passL (pa_cons (pv 0) (pa_cons pe_int pa_nil))) pa_nil)) (blkOk_by (own := [("_law_k", 4)]) (N := N_Lnames) (sc := defScope s_Lnames) (by decide +kernel)) (fun _ _ _ _ _ => (pg_name (i := 4) sc_Lnames.nd rfl (by first | exact Or.inl rfl | exact Or.inr rfl))) (fun _ _ _ _ _ => pts_nil) (fun _ _ _ _ _ => (pe_callR F_Lpick (hr.mono (by first | decide | omega)) T.k_Lpick rfl T.g__law_pick passL (pa_cons (pv 0) (pa_cons (pv 2) pa_nil)))))))
 (pss_cons (ps_par (i := 5) (j := 6) (by rfl) sc_Lnames.nd rfl rfl (by decide) rfl rfl (pa_cons (pe_callR F_Ldraw (hr.mono (by first | decide | omega)) T.k_Ldraw rfl T.g__law_draw passL (pa_cons (pv 0) (pa_cons pe_int pa_nil))) (pa_cons (pe_lst pa_nil) pa_nil)) (by rfl))
 (pss_cons (ps_set (i := 7) sc_Lnames.nd rfl (by first | exact Or.inl rfl | exact Or.inr rfl) (pe_callR F_Lpick (hr.mono (by first | decide | omega)) T.k_Lpick rfl T.g__law_pick passL (pa_cons (pv 0) (pa_cons (pe_lst (pa_cons pe_int (pa_cons pe_int (pa_cons pe_int (pa_cons pe_int (pa_cons pe_int (pa_cons pe_int (pa_cons pe_int (pa_cons pe_int (pa_cons pe_int (pa_cons pe_int (pa_cons pe_int (pa_cons pe_int pa_nil))))))))))))) pa_nil))))
 (pss_cons (ps_for (passes_of rfl) rfl (pi_range1 rfl T.n_range (pa_cons (pv 1) pa_nil)) (pg_name (i := 4) sc_Lnames.nd rfl (by first | exact Or.inl rfl | exact Or.inr rfl))
 (pss_cons (ps_set (i := 8) sc_Lnames.nd rfl (by first | exact Or.inl rfl | exact Or.inr rfl) (pe_ix (ix_seqK (K := K) rfl) (pv 2) (pe_op op_mod (pe_callTy call_intU rfl T.n_int (by decide +kernel) (pa_cons (pe_op (op_addUK (K := K) rfl) (pv 5) (pe_op op_mulU (pv 7) (pv 4))) pa_nil)) pe_int) (fun _ _ => rfl)))
 (C8.pss_cut (ps_set (i := 9) sc_Lnames.nd rfl (by first | exact Or.inl rfl | exact Or.inr rfl) (pe_ifExp (pt_cmpR op_lt (pv 4) pe_int (nomark _)) pe_str (pe_callR F_Lpick (hr.mono (by first | decide | omega)) T.k_Lpick rfl T.g__law_pick passL (pa_cons (pv 0) (pa_cons (pv 2) pa_nil)))))
 (pss_one (ps_expr (pe_bm PySem.F.plainAttrs_list PySem.F.slot_list_append PySem.F.type_list_append mt_append (pv 6) (pa_cons (pe_op (op_addUK (K := K) rfl) (pe_ix (ix_seqK (K := K) rfl) (pe_lst (pa_cons (pe_op (op_addUK (K := K) rfl) (pv 3) (pv 8)) (pa_cons (pe_op (op_addUK (K := K) rfl) (pv 8) (pv 3)) pa_nil))) (pe_op op_mod (pe_callB (call_lenUK (K := K) rfl) rfl T.n_len (by decide +kernel) (pa_cons (pv 3) pa_nil)) pe_int) (fun _ _ => rfl)) (pv 9)) pa_nil)))))))
 (pss_one (ps_ret (pv 6)))))))), ?_⟩
    try dsimp only [cxOf]
    walk_at "go"
    refine r_draw hp (by decide) (by decide) (by omega) fun v1 n1 H1 v10 v11 hn1 kp1 hp1 => ?_
    walk_at "go"
    refine ⟨by omega, by omega, ?_⟩
    intro D hD
    refine lc_rng (n := v1.toNat) rfl (fun i H' => ∃ ss : List Str, ss.length = i ∧ (∀ x ∈ ss, ∃ c, Lt c ∧ x = ⟨#[c]⟩) ∧ Acc z H H' (n1 + 5 * i) D (ss.map V.str)) ⟨[], rfl, fun x hx => (List.not_mem_nil hx).elim, Acc.start kp1 hp1 hD⟩ (fun i H' hi ⟨ss, hl, hss, acc⟩ => ?_) fun H' ⟨ss, hl, hss, acc⟩ => ?_
    · walk_at "go"
      refine ⟨rfl, ?_⟩
      walk_at "go"
      refine r_pickS (s := lettersS) acc.pen (by decide +kernel) (by decide +kernel) (by omega) fun c n2 H2 hc hn2 kp2 hp2 => ?_
      have acc2 := acc.go kp2 hp2
      refine ⟨_, acc2.l, by rw [List.length_map]; show _ < 16777216; omega, ss ++ [⟨#[c]⟩], by simp [hl], fun x hx => ?_, ?_⟩
      · rcases List.mem_append.mp hx with y | y
        · exact hss x y
        · exact ⟨c, letters_mem hc, by simpa using y⟩
      · rw [List.map_append]
        exact (acc2.put _).mono (by omega)
    · walk_at "go"
      refine ⟨_, D, ss, rfl, rfl, .inl (SqL.of acc.l), ?_, ?_⟩
      · rw [ones_sum hss]
        show _ + _ * 0 ≤ 16777216
        omega
      · have hstem : ∃ stem : Str, Txt.join "" ss = stem ∧ stem.length ≤ 6 ∧ ∀ c ∈ cl stem, Lt c := ⟨_, rfl, by rw [(join_ones hss).1]; omega, (join_ones hss).2⟩
        obtain ⟨stem, es, hs1, hs2⟩ := hstem
        rw [es]
        walk_at "go"
        refine r_draw acc.pen (by decide) (by decide) (by omega) fun v3 n3 H3 v30 v31 hn3 kp3 hp3 => ?_
        have kp3' := acc.kp.trans kp3
        walk_at "go"
        refine ⟨by decide, fun p hq => ?_⟩
        have acc4 := Acc.start (xs := []) kp3' hp3 hq
        generalize upd H3 p (.lst []) = H4 at *
        walk_at "go"
        refine ⟨by decide, fun p2 hq2 => ?_⟩
        have acc5 := acc4.newO (o := .lst (stepsL.map V.int)) hq2
        have hl5 : (upd H4 p2 (.lst (stepsL.map V.int))) p2 = some (.lst (stepsL.map V.int)) := upd_same
        have e5 : HO.lst [.int 1, .int 3, .int 5, .int 7, .int 9, .int 11, .int 15, .int 17, .int 19, .int 21, .int 23, .int 25] = .lst (stepsL.map V.int) := rfl
        rw [e5]
        generalize upd H4 p2 (.lst (stepsL.map V.int)) = H5 at *
        walk_at "go"
        refine r_pickL acc5.pen (SqL.of hl5) (by decide) (by decide) (by omega) fun v6 n6 H6 hv6 hn6 kp6 hp6 => ?_
        have acc6 := acc5.go kp6 hp6
        obtain ⟨step, rfl, hstep⟩ := stepsV hv6
        walk_at "go"
        refine ⟨by omega, by omega, ?_⟩
        refine for_rng (n := many) (by simp) (fun i σ' H' => ∃ o4 o8 o9, ∃ names : List Str, σ' = [some (.ref z.a), some (.int many), some (.str lettersS), some (.str stem), o4, some (.int v3), some (.ref p), some (.int step), o8, o9] ∧
          names.length = i ∧ NmRow stem v3 step names ∧ Acc z H H' (n6 + 5 * i) p (names.map V.str)) ⟨_, _, _, [], rfl, rfl, fun j x hj => by simp at hj, acc6⟩ (fun i σ' H' hi ⟨o4, o8, o9, names, e, hl, hrow, acc⟩ => ?_) fun σ' H' ⟨o4, o8, o9, names, e, hl, hrow, acc⟩ => ?_
        · subst e
          walk_at "go"
          have hm0 := Int.emod_nonneg (v3 + step * i) (show (26 : Int) ≠ 0 by decide)
          have hm1 := Int.emod_lt_of_pos (v3 + step * i) (show (0 : Int) < 26 by decide)
          refine r_ixS (by decide +kernel) (letters_at hm0 hm1) ?_
          have hownlt := ownAt_lt v3 step i
          have eown : 97 + ((v3 + step * i) % 26).toNat = ownAt v3 step i := rfl
          rw [eown]
          walk_at "go"
          refine r_cut (fun σ' H7 => ∃ (tail : Str) (n7 : Nat), σ' = [some (.ref z.a), some (.int many), some (.str lettersS), some (.str stem), some (.int i), some (.int v3), some (.ref p), some (.int step), some (.str ⟨#[ownAt v3 step i]⟩), some (.str tail)] ∧
            TailOk i (cl tail) ∧ tail.length ≤ 1 ∧ n7 ≤ n6 + 5 * i + 5 ∧ Acc z H H7 n7 p (names.map V.str)) ?_ ?_
          · walk_at "go"
            refine r_iteD (fun h1 => ?_) fun h1 => ?_
            · walk_at "go"
              exact ⟨_, _, rfl, ⟨fun _ => rfl, fun h => absurd h (by omega)⟩, by decide, by omega, acc⟩
            · walk_at "go"
              refine r_pickS (s := lettersS) acc.pen (by decide +kernel) (by decide +kernel) (by omega) fun c n2 H2 hc hn2 kp2 hp2 => ?_
              walk_at "go"
              exact ⟨_, _, rfl, ⟨fun h => absurd h (by omega), fun _ => ⟨c, letters_mem hc, rfl⟩⟩, Nat.le_refl 1, by omega, acc.go kp2 hp2⟩
          · rintro σ' H7 ⟨tail, n7, rfl, ht, ht1, hn7, acc7⟩
            walk_at "go"
            refine ⟨ty_list acc7.l, ?_⟩
            walk_at "go"
            refine r_addS (by show _ + 1 ≤ 16777216; omega) ?_
            walk_at "go"
            refine r_addS (by show 1 + _ ≤ 16777216; omega) ?_
            walk_at "go"
            refine ⟨by show 2 ≤ 16777216; decide, fun p2 hq2 => ?_⟩
            walk_at "go"
            refine r_lenS (by show _ ≤ 16777216; omega) ?_
            walk_at "go"
            have acc8 := acc7.newO (o := .lst [.str (stem ++ ⟨#[ownAt v3 step i]⟩), .str (⟨#[ownAt v3 step i]⟩ ++ stem)]) hq2
            have hx : ∃ y : Str, atI [V.str (stem ++ ⟨#[ownAt v3 step i]⟩), V.str (⟨#[ownAt v3 step i]⟩ ++ stem)] ((stem.length : Int) % 2) = some (.str y) ∧ cl y = nmL (cl stem) (ownAt v3 step i) := by
              unfold nmL
              rw [cl_len]
              rcases Nat.mod_two_eq_zero_or_one stem.length with h | h
              · refine ⟨stem ++ ⟨#[ownAt v3 step i]⟩, ?_, by rw [if_pos h, cl_app, cl_one]⟩
                have e : (stem.length : Int) % 2 = ((0 : Nat) : Int) := by omega
                rw [e]
                exact atI_nat rfl
              · refine ⟨⟨#[ownAt v3 step i]⟩ ++ stem, ?_, by rw [if_neg (by omega), cl_app, cl_one]; rfl⟩
                have e : (stem.length : Int) % 2 = ((1 : Nat) : Int) := by omega
                rw [e]
                exact atI_nat rfl
            obtain ⟨y, hy1, hy2⟩ := hx
            have hyl : y.length ≤ 7 := by
              rw [← cl_len, hy2, nmL_len, cl_len]
              omega
            refine r_ixL (SqL.of upd_same) hy1 ?_
            walk_at "go"
            refine r_addS (by show _ ≤ 16777216; omega) ?_
            walk_at "go"
            refine r_append acc8.l (by rw [List.length_map]; show _ < 16777216; omega) ?_
            have acc9 := acc8.put (names.map V.str ++ [.str (y ++ tail)])
            generalize upd (upd H7 p2 _) p _ = H9 at *
            walk_at "go"
            refine ⟨_, _, _, names ++ [y ++ tail], rfl, by simp [hl], hrow.snoc (t := cl tail) (by rw [cl_app, hl, hy2]) (by rw [hl]; exact ht), ?_⟩
            rw [List.map_append]
            exact acc9.mono (by omega)
        · subst e
          walk_at "go"
          exact k _ _ _ ⟨p, names, rfl, acc.new, acc.l, by rw [← hl]; exact names_ok (by omega) hs1 hs2 hstep hrow⟩ (by omega) acc.kp acc.pen
theorem r_names {z : PenI} {H : Hp} {n many : Nat} {i : Int} {Q : VK} {E : XK} (hi : i = many) (hp : Pen H z n) (h1 : n + 1000 ≤ 10 ^ 17) (h2 : many ≤ 52) (k : ∀ p names n' H', H p = none → H' p = some (.lst (names.map V.str)) → NamesOk names many → n' ≤ n + 400 → Kp H H' → Pen H' z n' → Q (.ref p) H') :
    spNames [.ref z.a, .int i] H Q E := ⟨z, n, many, by rw [hi], hp, h1, h2, fun v n' H' ⟨p, names, e, a, b, c⟩ d f g => by
      subst e
      exact k p names n' H' a b c d f g⟩
end
end Tx

set_option maxRecDepth 100000
set_option maxHeartbeats 4000000
namespace Tx
open PySem PySem.Spec PyProof.Rows L2 My
section
variable {P : Program} {w : World} {K : PySem.W.Frag} {mg : Str → Option Value} {base : Heap}
def spRows (N : Nat) : Sp := fun vs H Q _ => ∃ z n, ∃ most : Nat, vs = [.ref (PenI.a z), .int most] ∧ Pen H z n ∧ n + 20000 ≤ 10 ^ 17 ∧ 1 ≤ most ∧ most ≤ 40 ∧ Aft z H n 10000 (RowsR H) Q
theorem v2 {a b v : V} (h : v ∈ [a, b]) : v = a ∨ v = b := by simpa using h
theorem v3 {a b c v : V} (h : v ∈ [a, b, c]) : v = a ∨ v = b ∨ v = c := by simpa using h
section
variable {z : PenI} {H0 H : Hp} {n : Nat} {p : Addr} {vs : List V} {Q : VK} {E : XK}
theorem accPick {q : Addr} {xs : List V} (a : Acc z H0 H n p vs) (hq : H q = none) (h0 : xs ≠ []) (h1 : xs.length ≤ 1000) (hn : n ≤ 10 ^ 17) (k : ∀ v n' H', v ∈ xs → n' ≤ n + 5 → Kp H H' → Acc z H0 H' n' p vs → Q v H') :
    spPick K [.ref z.a, .ref q] (upd H q (.lst xs)) Q E :=
  r_pickL (a.newO hq).pen (SqL.of upd_same) h0 h1 hn fun v n' H' h2 h3 h4 h5 => k v n' H' h2 h3 ((Kp.new hq).trans h4) ((a.newO hq).go h4 h5)
theorem accDraw {many : Int} (a : Acc z H0 H n p vs) (h1 : 1 ≤ many) (h2 : many ≤ 10 ^ 34) (h3 : n ≤ 10 ^ 17) (k : ∀ v n' H', 0 ≤ v → v < many → n' ≤ n + 5 → Kp H H' → Acc z H0 H' n' p vs → Q (.int v) H') :
    spDraw [.ref z.a, .int many] H Q E := r_draw a.pen h1 h2 h3 fun v n' H' h4 h5 h6 h7 h8 => k v n' H' h4 h5 h6 h7 (a.go h7 h8)
theorem accAround {most : Int} (a : Acc z H0 H n p vs) (h1 : 0 ≤ most) (h2 : most ≤ 10 ^ 33) (h3 : n ≤ 10 ^ 17) (k : ∀ v n' H', -most ≤ v → v ≤ most → n' ≤ n + 5 → Kp H H' → Acc z H0 H' n' p vs → Q (.int v) H') :
    spAround [.ref z.a, .int most] H Q E := r_around a.pen h1 h2 h3 fun v n' H' h4 h5 h6 h7 h8 => k v n' H' h4 h5 h6 h7 (a.go h7 h8)
theorem accGreat {f : Nat} {i : Int} (hi : i = f) (a : Acc z H0 H n p vs) (h1 : 2 ≤ f) (h2 : f ≤ 30) (h3 : n + 100 ≤ 10 ^ 17) (k : ∀ v n' H', 0 ≤ v → v < 10 ^ f → n' ≤ n + 30 → Kp H H' → Acc z H0 H' n' p vs → Q (.int v) H') :
    spGreat [.ref z.a, .int i] H Q E := r_great hi a.pen h1 h2 h3 fun v n' H' h4 h5 h6 h7 h8 => k v n' H' h4 h5 h6 h7 (a.go h7 h8)
end
/-- one of two signs -/
theorem sign_of {v : V} (h : v ∈ [V.int 1, V.int (-1)]) : ∃ s : Int, v = .int s ∧ (s = 1 ∨ s = -1) := by
  rcases v2 h with rfl | rfl
  · exact ⟨1, rfl, .inl rfl⟩
  · exact ⟨-1, rfl, .inr rfl⟩
theorem label_at {names : List Str} {i : Nat} {x : V} (hx : (names.map V.str)[i]? = some x) : ∃ label, names[i]? = some label ∧ x = .str label ∧ i < names.length := by
  rw [List.getElem?_map] at hx
  obtain ⟨l, h, e⟩ := Option.map_eq_some_iff.mp hx
  exact ⟨l, h, e.symm, (List.getElem?_eq_some_iff.mp h).1⟩
theorem ok_small (T : Tx K mg) : FnR P w K mg base (L2.CX P w) 8 (a_Lsmall K) (spRows 0) := by
  have F_Ldraw := ok_draw (P := P) (w := w) (base := base) T
  have F_Lpick := ok_pick (P := P) (w := w) (base := base) T
  have F_Laround := ok_around (P := P) (w := w) (base := base) T
  have F_Lnames := ok_names (P := P) (w := w) (base := base) T
  refine fnR_of T.f_Lsmall sc_Lsmall (fun _ _ _ _ _ _ us hl => match us, hl with | [_, _], _ => rfl) (fun vs H Q E h => ?_) fun A outer s H vs Q E cdv hr h => ?_
  · obtain ⟨z, n, f, rfl, _⟩ := h
    rfl
  · obtain ⟨z, n, most, rfl, hp, hn, m0, m1, k⟩ := h
    refine ⟨_, (pss_cons (ps_par (i := 2) (j := 3) (by rfl) sc_Lsmall.nd rfl rfl (by decide) rfl rfl (pa_cons (pe_lst pa_nil) (pa_cons (pe_op (op_addUK (K := K) rfl) pe_int (pe_callR F_Ldraw (hr.mono (by first | decide | omega)) T.k_Ldraw rfl T.g__law_draw passL (pa_cons (pv 0) (pa_cons (pv 1) pa_nil)))) pa_nil)) (by rfl))
 (pss_cons (ps_for (passes_of rfl) rfl (pi_anyK (K := K) rfl (pe_callR F_Lnames (hr.mono (by first | decide | omega)) T.k_Lnames rfl T.g__law_names passL (pa_cons (pv 0) (pa_cons (pv 3) pa_nil)))) (pg_name (i := 4) sc_Lsmall.nd rfl (by first | exact Or.inl rfl | exact Or.inr rfl))
 (pss_cons (ps_set (i := 5) sc_Lsmall.nd rfl (by first | exact Or.inl rfl | exact Or.inr rfl) (pe_op (op_addUK (K := K) rfl) pe_int (pe_callR F_Lpick (hr.mono (by first | decide | omega)) T.k_Lpick rfl T.g__law_pick passL (pa_cons (pv 0) (pa_cons (pe_lst (pa_cons (pe_callR F_Ldraw (hr.mono (by first | decide | omega)) T.k_Ldraw rfl T.g__law_draw passL (pa_cons (pv 0) (pa_cons pe_int pa_nil))) (pa_cons (pe_callR F_Ldraw (hr.mono (by first | decide | omega)) T.k_Ldraw rfl T.g__law_draw passL (pa_cons (pv 0) (pa_cons pe_int pa_nil))) pa_nil))) pa_nil)))))
 (pss_cons (ps_set (i := 5) sc_Lsmall.nd rfl (by first | exact Or.inl rfl | exact Or.inr rfl) (pe_op op_mulU (pv 5) (pe_callR F_Lpick (hr.mono (by first | decide | omega)) T.k_Lpick rfl T.g__law_pick passL (pa_cons (pv 0) (pa_cons (pe_lst (pa_cons pe_int (pa_cons (pe_un un_neg pe_int) pa_nil))) pa_nil)))))
 (pss_cons (ps_set (i := 6) sc_Lsmall.nd rfl (by first | exact Or.inl rfl | exact Or.inr rfl) (pe_callR F_Lpick (hr.mono (by first | decide | omega)) T.k_Lpick rfl T.g__law_pick passL (pa_cons (pv 0) (pa_cons (pe_lst (pa_cons pe_int (pa_cons pe_int (pa_cons (pe_callR F_Ldraw (hr.mono (by first | decide | omega)) T.k_Ldraw rfl T.g__law_draw passL (pa_cons (pv 0) (pa_cons pe_int pa_nil))) pa_nil)))) pa_nil))))
 (pss_cons (ps_expr (pe_bm PySem.F.plainAttrs_list PySem.F.slot_list_append PySem.F.type_list_append mt_append (pv 2) (pa_cons (pe_tup (pa_cons (pv 4) (pa_cons (pv 6) (pa_cons (pe_callR F_Laround (hr.mono (by first | decide | omega)) T.k_Laround rfl T.g__law_around passL (pa_cons (pv 0) (pa_cons pe_int pa_nil))) (pa_cons (pv 5) pa_nil))))) pa_nil)))
 (pss_one (ps_if (PW.pt (pw_and (pt_cmpR op_gt (pe_callB (call_lenUK (K := K) rfl) rfl T.n_len (by decide +kernel) (pa_cons (pv 2) pa_nil)) pe_int (nomark _)) (pw_and1 (pt_cmpR (op_eqUK (K := K) rfl hr.units) (pe_callR F_Ldraw (hr.mono (by first | decide | omega)) T.k_Ldraw rfl T.g__law_draw passL (pa_cons (pv 0) (pa_cons pe_int pa_nil))) pe_int (nomark _)))))
 (pss_one (ps_asg (pe_op (op_addUK (K := K) rfl) (pe_tup (pa_cons (pv 4) pa_nil)) (pe_slice (sl_anyK (K := K) rfl) (pe_callR F_Lpick (hr.mono (by first | decide | omega)) T.k_Lpick rfl T.g__law_pick passL (pa_cons (pv 0) (pa_cons (pe_slice (sl_anyK (K := K) rfl) (pv 2) po_none (po_some (pe_un un_neg pe_int))) pa_nil))) (po_some pe_int) po_none)) (pg_sub (pv 2) (pe_un un_neg pe_int) set_list)))
 pss_nil)))))))
 (pss_one (ps_ret (pv 2))))), ?_⟩
    try dsimp only [cxOf]
    walk_at "go"
    refine ⟨by decide, fun p hq => ?_⟩
    have acc := Acc.start (xs := []) (Kp.refl H) hp hq
    generalize upd H p (.lst []) = H1 at acc
    walk_at "go"
    refine accDraw acc (by omega) (by omega) (by omega) fun v2 n2 H2 v20 v21 hn2 kp2 acc2 => ?_
    walk_at "go"
    obtain ⟨many, hm⟩ : ∃ m : Nat, 1 + v2 = m := ⟨(1 + v2).toNat, by omega⟩
    rw [hm]
    refine r_iL ?_
    walk_at "go"
    refine r_names rfl acc2.pen (by omega) (by omega) fun q names n3 H3 hq0 hq1 hok hn3 kp3 hp3 => ?_
    have acc3 := acc2.go kp3 hp3
    refine ⟨_, rfl, ⟨_, SqL.of hq1⟩, ?_⟩
    have hne : q ≠ p := fun e => by
      rw [e, acc2.l] at hq0
      cases hq0
    refine for_list (fun i σ' H' => ∃ n', ∃ o4 o5 o6 : Option V, ∃ vs rs, σ' = [some (.ref z.a), some (.int most), some (.ref p), some (.int many), o4, o5, o6] ∧ n' ≤ n3 + 50 * i ∧ RI z H H' n' p q names i vs rs)
      ⟨n3, _, _, _, [], [], rfl, by omega, .start acc3 hq1 hne⟩ (fun i σ' H' _ ⟨n', o4, o5, o6, vs, rs, e, h1, h2⟩ => SqL.of h2.src) (fun i x σ' H' hx ⟨n', o4, o5, o6, vs, rs, e, h1, h2⟩ => ?_)
      fun σ' H' ⟨n', o4, o5, o6, vs, rs, e, h1, h2⟩ => ?_
    · subst e
      have hlen : names.length ≤ 40 := by have := hok.1; omega
      obtain ⟨label, hlab, rfl, hi⟩ := label_at hx
      walk_at "go"
      refine accDraw h2.acc (by decide) (by decide) (by omega) fun v4 n4 H4 v40 v41 hn4 kp4 acc4 => ?_
      walk_at "go"
      refine accDraw acc4 (by decide) (by decide) (by omega) fun v5 n5 H5 v50 v51 hn5 kp5 acc5 => ?_
      walk_at "go"
      refine ⟨by show 2 ≤ 16777216; decide, fun q6 hq6 => ?_⟩
      walk_at "go"
      refine accPick acc5 hq6 (by simp) (by simp) (by omega) fun v6 n6 H6 v60 hn6 kp6 acc6 => ?_
      obtain ⟨pace0, rfl, hpace0⟩ : ∃ i, v6 = .int i ∧ 0 ≤ i ∧ i < 6 := by
        rcases Tx.v2 v60 with rfl | rfl
        · exact ⟨_, rfl, v40, v41⟩
        · exact ⟨_, rfl, v50, by omega⟩
      walk_at "go"
      refine ⟨by show 2 ≤ 16777216; decide, fun q7 hq7 => ?_⟩
      walk_at "go"
      refine accPick acc6 hq7 (by simp) (by simp) (by omega) fun v7 n7 H7 v70 hn7 kp7 acc7 => ?_
      obtain ⟨sg, rfl, hsg⟩ := sign_of v70
      walk_at "go"
      refine accDraw acc7 (by decide) (by decide) (by omega) fun v8 n8 H8 v80 v81 hn8 kp8 acc8 => ?_
      walk_at "go"
      refine ⟨by show 3 ≤ 16777216; decide, fun q9 hq9 => ?_⟩
      walk_at "go"
      refine accPick acc8 hq9 (by simp) (by simp) (by omega) fun v9 n9 H9 v90 hn9 kp9 acc9 => ?_
      obtain ⟨date, rfl, hdate⟩ : ∃ i, v9 = .int i ∧ 0 ≤ i ∧ i < 7 := by
        rcases Tx.v3 v90 with rfl | rfl | rfl
        · exact ⟨_, rfl, by decide, by decide⟩
        · exact ⟨_, rfl, by decide, by decide⟩
        · exact ⟨_, rfl, v80, by omega⟩
      walk_at "go"
      refine ⟨ty_list acc9.l, ?_⟩
      walk_at "go"
      refine accAround acc9 (by decide) (by decide) (by omega) fun v10 n10 H10 v100 v101 hn10 kp10 acc10 => ?_
      walk_at "go"
      refine ⟨by show 4 ≤ 16777216; decide, fun q11 hq11 => ?_⟩
      walk_at "go"
      have hpg : (1 + pace0) * sg = 1 + pace0 ∨ (1 + pace0) * sg = -(1 + pace0) := by
        rcases hsg with rfl | rfl
        · exact .inl (by omega)
        · exact .inr (by omega)
      have hrow : NumOk ⟨label, date, v10, (1 + pace0) * sg⟩ := ⟨hdate.1, by show date ≤ _; omega, by show _ ≤ v10; omega, by show v10 ≤ _; omega, by show _ ≤ (1 + pace0) * sg; omega, by show (1 + pace0) * sg ≤ _; omega, by show (1 + pace0) * sg ≠ 0; omega⟩
      have kpA : Kp H' H10 := kp4.trans (kp5.trans (kp6.trans (kp7.trans (kp8.trans (kp9.trans kp10)))))
      have ri := (h2.go kpA acc10).new (o := .tup [.str label, .int date, .int v10, .int ((1 + pace0) * sg)]) hq11
      have hvl := ri.len
      refine r_append ri.acc.l (by show vs.length < 16777216; omega) ?_
      have ri := ri.app (t := q11) (row := ⟨label, date, v10, (1 + pace0) * sg⟩) upd_same hlab hrow
      generalize rs ++ [_] = rs2 at ri
      generalize hvs : vs ++ [V.ref q11] = vs2 at ri ⊢
      generalize upd (upd H10 q11 _) p _ = H12 at ri ⊢
      have hvl2 := ri.eqlen (by omega)
      walk_at "go"
      refine r_lenL (SqL.of ri.acc.l) ?_
      walk_at "go"
      refine r_iteD (fun hl2 => ?_) fun hl2 => ?_
      · walk_at "go"
        refine accDraw ri.acc (by decide) (by decide) (by omega) fun v13 n13 H13 v130 v131 hn13 kp13 acc13 => ?_
        have ri := ri.go kp13 acc13
        walk_at "go"
        refine r_iteD (fun hz => ?_) fun hz => ?_
        · walk_at "go"
          refine ⟨by show 1 ≤ 16777216; decide, fun q14 hq14 => ?_⟩
          have ri14 := ri.new (o := .tup [.str label]) hq14
          have hq14' : (upd H13 q14 (.tup [.str label])) q14 = some (.tup [.str label]) := upd_same
          generalize upd H13 q14 (.tup [.str label]) = H14 at ri14 hq14' ⊢
          walk_at "go"
          refine r_slL (SqL.of ri14.acc.l) fun q15 hq15 => ?_
          rw [cut_last (by omega)]
          walk_at "go"
          refine accPick ri14.acc hq15 (fun e => ?_) (by rw [List.length_take]; omega) (by omega) fun v16 n16 H16 v160 hn16 kp16 acc16 => ?_
          · have := congrArg List.length e
            rw [List.length_take] at this
            have e0 : ([] : List V).length = 0 := rfl
            omega
          have ri16 := ri14.go kp16 acc16
          obtain ⟨q17, row, hrm, rfl, hq17⟩ := ri16.rows.mem (List.mem_of_mem_take v160)
          walk_at "go"
          refine r_slA hq17 (fun h => (show ¬ (HT.sIx 4 0 (some 1) = 0) by decide) h.1) fun q18 hq18 => ?_
          have ri18 := ri16.new (o := .tup [.int row.day, .int row.post, .int row.pace]) hq18
          have hq18' : (upd H16 q18 (.tup [.int row.day, .int row.post, .int row.pace])) q18 = some (.tup [.int row.day, .int row.post, .int row.pace]) := upd_same
          have hq14'' : (upd H16 q18 (.tup [.int row.day, .int row.post, .int row.pace])) q14 = some (.tup [.str label]) := (Kp.new hq18).t (kp16.t hq14')
          have e18 : HO.tup (cutV (rowV row) (some 1) none) = .tup [.int row.day, .int row.post, .int row.pace] := rfl
          rw [e18]
          generalize upd H16 q18 _ = H18 at ri18 hq18' hq14'' ⊢
          walk_at "go"
          refine r_catA hq14'' hq18' (by simp) (by simp) (by show 4 ≤ 16777216; decide) fun q19 hq19 => ?_
          have ri19 := ri18.new (o := .tup [.str label, .int row.day, .int row.post, .int row.pace]) hq19
          have hq19' : (upd H18 q19 (.tup [.str label, .int row.day, .int row.post, .int row.pace])) q19 = some (.tup (rowV ⟨label, row.day, row.post, row.pace⟩)) := upd_same
          have e19 : HO.tup ([.str label] ++ [.int row.day, .int row.post, .int row.pace]) = .tup [.str label, .int row.day, .int row.post, .int row.pace] := rfl
          rw [e19]
          generalize upd H18 q19 _ = H19 at ri19 hq19' ⊢
          walk_at "go"
          refine r_setL ri19.acc.l (ixN_last (by omega)) ?_
          have ri20 := ri19.set (j := vs2.length - 1) hq19' (by rw [hvl2]; exact hlab) (by omega) (show NumOk ⟨label, row.day, row.post, row.pace⟩ from (ri16.nums row hrm : NumOk row))
          walk_at "go"
          exact ⟨n3 + 50 * (i + 1), _, _, _, _, _, rfl, Nat.le_refl _, ri20.mono (by omega)⟩
        · walk_at "go"
          exact ⟨n3 + 50 * (i + 1), _, _, _, _, _, rfl, Nat.le_refl _, ri.mono (by omega)⟩
      · walk_at "go"
        exact ⟨n3 + 50 * (i + 1), _, _, _, _, _, rfl, Nat.le_refl _, ri.mono (by omega)⟩
    · subst e
      walk_at "go"
      rw [List.length_map, hok.1] at h1 h2
      exact k _ _ _ (h2.done hok (Nat.le_refl _) (by omega)) (by omega) h2.acc.kp h2.acc.pen
end
end Tx

set_option maxRecDepth 100000
set_option maxHeartbeats 4000000
namespace Tx
open PySem PySem.Spec PyProof.Rows L2 My
section
variable {P : Program} {w : World} {K : PySem.W.Frag} {mg : Str → Option Value} {base : Heap}
def HubsAt (H : Hp) (hvs : List V) : Prop := ∀ v ∈ hvs, ∃ t, ∃ d s : Int, v = .ref t ∧ H t = some (.tup [.int d, .int s]) ∧ 10 ^ 12 ≤ d ∧ d < 10 ^ 12 + 10 ^ 29 ∧ -(10 ^ 28) < s ∧ s < 10 ^ 28
theorem HubsAt.kp {H H' : Hp} {hvs : List V} (h : HubsAt H hvs) (k : Kp H H') : HubsAt H' hvs := fun v hv => by
  obtain ⟨t, d, s, e, ht, b⟩ := h v hv
  exact ⟨t, d, s, e, k.t ht, b⟩
theorem HubsAt.put {H : Hp} {p : Addr} {hvs xs ys : List V} (h : HubsAt H hvs) (e : H p = some (.lst xs)) : HubsAt (upd H p (.lst ys)) hvs := fun v hv => by
  obtain ⟨t, d, s, e1, ht, b⟩ := h v hv
  exact ⟨t, d, s, e1, by rw [upd_ne (ne_of ht e (by intro z; cases z))]; exact ht, b⟩
theorem HubsAt.snoc {H : Hp} {hvs : List V} {t : Addr} {d s : Int} (h : HubsAt H hvs) (ht : H t = some (.tup [.int d, .int s])) (h1 : 10 ^ 12 ≤ d) (h2 : d < 10 ^ 12 + 10 ^ 29) (h3 : -(10 ^ 28) < s) (h4 : s < 10 ^ 28) : HubsAt H (hvs ++ [.ref t]) := fun v hv => by
  rcases List.mem_append.mp hv with y | y
  · exact h v y
  · have : v = .ref t := by simpa using y
    exact ⟨t, d, s, this, ht, h1, h2, h3, h4⟩
theorem sg_mul {a s b : Int} (hs : s = 1 ∨ s = -1) (h0 : 0 ≤ a) (h1 : a < b) : -b < a * s ∧ a * s < b := by
  rcases hs with rfl | rfl
  · omega
  · omega
theorem mulB {a b A B : Int} (a0 : 0 ≤ a) (a1 : a ≤ A) (b0 : 0 ≤ b) (b1 : b ≤ B) : 0 ≤ a * b ∧ a * b ≤ A * B := ⟨Int.mul_nonneg a0 b0, Int.mul_le_mul a1 b1 b0 (by omega)⟩
theorem mulS {a b A B : Int} (a0 : 0 ≤ a) (a1 : a ≤ A) (b0 : -B ≤ b) (b1 : b ≤ B) : -(A * B) ≤ a * b ∧ a * b ≤ A * B := by
  rcases Int.le_total 0 b with h | h
  · have := mulB a0 a1 h b1
    omega
  · have := mulB a0 a1 (show 0 ≤ -b by omega) (show -b ≤ B by omega)
    rw [Int.mul_neg] at this
    omega
theorem ok_aimed (T : Tx K mg) : FnR P w K mg base (L2.CX P w) 8 (a_Laimed K) (spRows 0) := by
  have F_Ldraw := ok_draw (P := P) (w := w) (base := base) T
  have F_Lpick := ok_pick (P := P) (w := w) (base := base) T
  have F_Lgreat := ok_great (P := P) (w := w) (base := base) T
  have F_Lnames := ok_names (P := P) (w := w) (base := base) T
  refine fnR_of T.f_Laimed sc_Laimed (fun _ _ _ _ _ _ us hl => match us, hl with | [_, _], _ => rfl) (fun vs H Q E h => ?_) fun A outer s H vs Q E cdv hr h => ?_
  · obtain ⟨z, n, f, rfl, _⟩ := h
    rfl
  · obtain ⟨z, n, most, rfl, hp, hn, m0, m1, k⟩ := h
    refine ⟨_, (pss_cons (ps_par (i := 2) (j := 3) (by rfl) sc_Laimed.nd rfl rfl (by decide) rfl rfl (pa_cons (pe_lst pa_nil) (pa_cons (pe_op (op_addUK (K := K) rfl) pe_int (pe_callR F_Ldraw (hr.mono (by first | decide | omega)) T.k_Ldraw rfl T.g__law_draw passL (pa_cons (pv 0) (pa_cons (pv 1) pa_nil)))) pa_nil)) (by rfl))
 (pss_cons (ps_set (i := 4) sc_Laimed.nd rfl (by first | exact Or.inl rfl | exact Or.inr rfl) (pe_lst pa_nil))
 (pss_cons (ps_for (passes_of rfl) rfl (pi_range1 rfl T.n_range (pa_cons pe_int pa_nil)) (pg_name (i := 5) sc_Laimed.nd rfl (by first | exact Or.inl rfl | exact Or.inr rfl))
 (pss_cons (ps_set (i := 6) sc_Laimed.nd rfl (by first | exact Or.inl rfl | exact Or.inr rfl) (pe_op op_mulU (pe_callR F_Lgreat (hr.mono (by first | decide | omega)) T.k_Lgreat rfl T.g__law_great passL (pa_cons (pv 0) (pa_cons pe_int pa_nil))) (pe_callR F_Lpick (hr.mono (by first | decide | omega)) T.k_Lpick rfl T.g__law_pick passL (pa_cons (pv 0) (pa_cons (pe_lst (pa_cons pe_int (pa_cons (pe_un un_neg pe_int) pa_nil))) pa_nil)))))
 (pss_one (ps_expr (pe_bm PySem.F.plainAttrs_list PySem.F.slot_list_append PySem.F.type_list_append mt_append (pv 4) (pa_cons (pe_tup (pa_cons (pe_op (op_addUK (K := K) rfl) (pe_op op_pow pe_int pe_int) (pe_callR F_Lgreat (hr.mono (by first | decide | omega)) T.k_Lgreat rfl T.g__law_great passL (pa_cons (pv 0) (pa_cons pe_int pa_nil)))) (pa_cons (pv 6) pa_nil))) pa_nil))))))
 (pss_cons (ps_set (i := 7) sc_Laimed.nd rfl (by first | exact Or.inl rfl | exact Or.inr rfl) (pe_op (op_addUK (K := K) rfl) pe_int (pe_callR F_Lgreat (hr.mono (by first | decide | omega)) T.k_Lgreat rfl T.g__law_great passL (pa_cons (pv 0) (pa_cons pe_int pa_nil)))))
 (pss_cons (ps_for (passes_of rfl) rfl (pi_anyK (K := K) rfl (pe_callR F_Lnames (hr.mono (by first | decide | omega)) T.k_Lnames rfl T.g__law_names passL (pa_cons (pv 0) (pa_cons (pv 3) pa_nil)))) (pg_name (i := 8) sc_Laimed.nd rfl (by first | exact Or.inl rfl | exact Or.inr rfl))
 (pss_cons (ps_asg (pe_callR F_Lpick (hr.mono (by first | decide | omega)) T.k_Lpick rfl T.g__law_pick passL (pa_cons (pv 0) (pa_cons (pv 4) pa_nil))) (pg_tupK (K := K) (n := 2) rfl rfl (pgs_cons (pg_name (i := 9) sc_Laimed.nd rfl (by first | exact Or.inl rfl | exact Or.inr rfl)) (pgs_cons (pg_name (i := 6) sc_Laimed.nd rfl (by first | exact Or.inl rfl | exact Or.inr rfl)) pgs_nil))))
 (pss_cons (ps_set (i := 10) sc_Laimed.nd rfl (by first | exact Or.inl rfl | exact Or.inr rfl) (pe_lst (pa_cons (pe_callR F_Lgreat (hr.mono (by first | decide | omega)) T.k_Lgreat rfl T.g__law_great passL (pa_cons (pv 0) (pa_cons pe_int pa_nil))) (pa_cons (pe_op op_mulU (pv 7) (pe_op (op_addUK (K := K) rfl) pe_int (pe_callR F_Ldraw (hr.mono (by first | decide | omega)) T.k_Ldraw rfl T.g__law_draw passL (pa_cons (pv 0) (pa_cons pe_int pa_nil))))) (pa_cons (pe_callR F_Ldraw (hr.mono (by first | decide | omega)) T.k_Ldraw rfl T.g__law_draw passL (pa_cons (pv 0) (pa_cons pe_int pa_nil))) pa_nil)))))
 (pss_cons (ps_set (i := 11) sc_Laimed.nd rfl (by first | exact Or.inl rfl | exact Or.inr rfl) (pe_op op_mulU (pe_op (op_addUK (K := K) rfl) pe_int (pe_callR F_Lpick (hr.mono (by first | decide | omega)) T.k_Lpick rfl T.g__law_pick passL (pa_cons (pv 0) (pa_cons (pv 10) pa_nil)))) (pe_callR F_Lpick (hr.mono (by first | decide | omega)) T.k_Lpick rfl T.g__law_pick passL (pa_cons (pv 0) (pa_cons (pe_lst (pa_cons pe_int (pa_cons (pe_un un_neg pe_int) pa_nil))) pa_nil)))))
 (pss_cons (ps_set (i := 12) sc_Laimed.nd rfl (by first | exact Or.inl rfl | exact Or.inr rfl) (pe_callR F_Lpick (hr.mono (by first | decide | omega)) T.k_Lpick rfl T.g__law_pick passL (pa_cons (pv 0) (pa_cons (pe_lst (pa_cons (pe_callR F_Ldraw (hr.mono (by first | decide | omega)) T.k_Ldraw rfl T.g__law_draw passL (pa_cons (pv 0) (pa_cons pe_int pa_nil))) (pa_cons (pe_callR F_Lgreat (hr.mono (by first | decide | omega)) T.k_Lgreat rfl T.g__law_great passL (pa_cons (pv 0) (pa_cons pe_int pa_nil))) (pa_cons (pe_callR F_Lgreat (hr.mono (by first | decide | omega)) T.k_Lgreat rfl T.g__law_great passL (pa_cons (pv 0) (pa_cons pe_int pa_nil))) pa_nil)))) pa_nil))))
 (pss_cons (ps_set (i := 9) sc_Laimed.nd rfl (by first | exact Or.inl rfl | exact Or.inr rfl) (pe_op op_sub (pe_op (op_addUK (K := K) rfl) (pv 9) (pe_callR F_Lpick (hr.mono (by first | decide | omega)) T.k_Lpick rfl T.g__law_pick passL (pa_cons (pv 0) (pa_cons (pe_lst (pa_cons pe_int (pa_cons pe_int (pa_cons (pe_callR F_Ldraw (hr.mono (by first | decide | omega)) T.k_Ldraw rfl T.g__law_draw passL (pa_cons (pv 0) (pa_cons pe_int pa_nil))) pa_nil)))) pa_nil)))) (pv 12)))
 (pss_cons (ps_expr (pe_bm PySem.F.plainAttrs_list PySem.F.slot_list_append PySem.F.type_list_append mt_append (pv 2) (pa_cons (pe_tup (pa_cons (pv 8) (pa_cons (pv 9) (pa_cons (pe_op op_sub (pv 6) (pe_op op_mulU (pv 12) (pv 11))) (pa_cons (pv 11) pa_nil))))) pa_nil)))
 (pss_one (ps_if (PW.pt (pw_and (pt_cmpR op_gt (pe_callB (call_lenUK (K := K) rfl) rfl T.n_len (by decide +kernel) (pa_cons (pv 2) pa_nil)) pe_int (nomark _)) (pw_and1 (pt_cmpR (op_eqUK (K := K) rfl hr.units) (pe_callR F_Ldraw (hr.mono (by first | decide | omega)) T.k_Ldraw rfl T.g__law_draw passL (pa_cons (pv 0) (pa_cons pe_int pa_nil))) pe_int (nomark _)))))
 (pss_one (ps_asg (pe_op (op_addUK (K := K) rfl) (pe_tup (pa_cons (pv 8) pa_nil)) (pe_slice (sl_anyK (K := K) rfl) (pe_callR F_Lpick (hr.mono (by first | decide | omega)) T.k_Lpick rfl T.g__law_pick passL (pa_cons (pv 0) (pa_cons (pe_slice (sl_anyK (K := K) rfl) (pv 2) po_none (po_some (pe_un un_neg pe_int))) pa_nil))) (po_some pe_int) po_none)) (pg_sub (pv 2) (pe_un un_neg pe_int) set_list)))
 pss_nil)))))))))
 (pss_one (ps_ret (pv 2)))))))), ?_⟩
    try dsimp only [cxOf]
    walk_at "go"
    refine ⟨by decide, fun p hq => ?_⟩
    have acc := Acc.start (xs := []) (Kp.refl H) hp hq
    generalize upd H p (.lst []) = H1 at acc
    walk_at "go"
    refine accDraw acc (by omega) (by omega) (by omega) fun v2 n2 H2 v20 v21 hn2 kp2 acc2 => ?_
    walk_at "go"
    obtain ⟨many, hm⟩ : ∃ m : Nat, 1 + v2 = m := ⟨(1 + v2).toNat, by omega⟩
    rw [hm]
    refine ⟨by decide, fun hb hhb => ?_⟩
    have acb := Acc.start (xs := []) (Kp.refl H2) acc2.pen hhb
    generalize upd H2 hb (.lst []) = H3 at acb
    walk_at "go"
    refine ⟨by decide, by decide, ?_⟩
    refine for_rng (n := 3) rfl (fun i σ' H' => ∃ n', ∃ o5 o6 : Option V, ∃ hvs, σ' = [some (.ref z.a), some (.int most), some (.ref p), some (.int many), some (.ref hb), o5, o6, none, none, none, none, none, none] ∧ n' ≤ n2 + 100 * i ∧ hvs.length = i ∧ Acc z H2 H' n' hb hvs ∧ HubsAt H' hvs)
      ⟨n2, _, _, [], rfl, by omega, rfl, acb, fun v hv => (List.not_mem_nil hv).elim⟩ (fun i σ' H' hi ⟨n', o5, o6, hvs, e, h1, h2, h3, h4⟩ => ?_)
      fun σ' H' ⟨n', o5, o6, hvs, e, h1, h2, h3, h4⟩ => ?_
    · subst e
      walk_at "go"
      refine accGreat (f := 28) rfl h3 (by decide) (by decide) (by omega) fun v4 n4 H4 v40 v41 hn4 kp4 acc4 => ?_
      walk_at "go"
      refine ⟨by show 2 ≤ 16777216; decide, fun q5 hq5 => ?_⟩
      walk_at "go"
      refine accPick acc4 hq5 (by simp) (by simp) (by omega) fun v5 n5 H5 v50 hn5 kp5 acc5 => ?_
      obtain ⟨sg, rfl, hsg⟩ := sign_of v50
      walk_at "go"
      obtain ⟨b1, b2⟩ := sg_mul hsg v40 v41
      walk_at "go"
      refine ⟨ty_list acc5.l, ?_⟩
      walk_at "go"
      refine accGreat (f := 29) rfl acc5 (by decide) (by decide) (by omega) fun v6 n6 H6 v60 v61 hn6 kp6 acc6 => ?_
      walk_at "go"
      refine ⟨by show 2 ≤ 16777216; decide, fun q7 hq7 => ?_⟩
      have acc7 := acc6.newO (o := .tup [.int (10 ^ 12 + v6), .int (v4 * sg)]) hq7
      have hub7 := (h4.kp (kp4.trans (kp5.trans (kp6.then (o := .tup [.int (10 ^ 12 + v6), .int (v4 * sg)]) hq7)))).snoc (t := q7) (d := 10 ^ 12 + v6) (s := v4 * sg) upd_same (by omega) (by omega) b1 b2
      walk_at "go"
      refine r_append acc7.l (by show _ < 16777216; omega) ?_
      walk_at "go"
      exact ⟨_, _, _, _, rfl, (show n6 ≤ n2 + 100 * (i + 1) by omega), by simp [h2], acc7.put _, hub7.put acc7.l⟩
    · subst e
      walk_at "go"
      have acc3 := acc2.go h3.kp h3.pen
      have hhl := h3.l
      refine accGreat (f := 9) rfl acc3 (by decide) (by decide) (by omega) fun v4 n4 H4 v40 v41 hn4 kp4 acc4 => ?_
      have hub4 := h4.kp kp4
      have hhl4 := kp4.l hhl
      walk_at "go"
      refine r_iL ?_
      walk_at "go"
      refine r_names rfl acc4.pen (by omega) (by omega) fun q names n5 H5 hq0 hq1 hok hn5 kp5 hp5 => ?_
      have acc5 := acc4.go kp5 hp5
      have hub5 := hub4.kp kp5
      have hhl5 := kp5.l hhl4
      have hne : q ≠ p := fun e => by
        rw [e, acc4.l] at hq0
        cases hq0
      have hne2 : hb ≠ p := fun e => by
        have := acc2.l
        rw [e] at hhb
        rw [hhb] at this
        cases this
      have hvne : hvs ≠ [] := fun e => by rw [e] at h2; exact absurd h2 (by decide)
      refine ⟨_, rfl, ⟨_, SqL.of hq1⟩, ?_⟩
      refine for_list (fun i σ' H' => ∃ n', ∃ o6 o8 o9 o10 o11 o12 : Option V, ∃ vs rs, σ' = [some (.ref z.a), some (.int most), some (.ref p), some (.int many), some (.ref hb), o5, o6, some (.int (1 + v4)), o8, o9, o10, o11, o12] ∧ n' ≤ n5 + 200 * i ∧ RI z H H' n' p q names i vs rs ∧ HubsAt H' hvs ∧ H' hb = some (.lst hvs))
        ⟨n5, _, _, _, _, _, _, [], [], rfl, by omega, .start acc5 hq1 hne, hub5, hhl5⟩ (fun i σ' H' _ ⟨n', o6, o8, o9, o10, o11, o12, vs, rs, e, h1, h2, _⟩ => SqL.of h2.src) (fun i x σ' H' hx ⟨n', o6, o8, o9, o10, o11, o12, vs, rs, e, h1, h2, hub, hhl⟩ => ?_)
        fun σ' H' ⟨n', o6, o8, o9, o10, o11, o12, vs, rs, e, h1, h2, _⟩ => ?_
      · subst e
        have hlen : names.length ≤ 40 := by have := hok.1; omega
        obtain ⟨label, hlab, rfl, hi⟩ := label_at hx
        walk_at "go"
        refine r_pickL h2.acc.pen (SqL.of hhl) hvne (by omega) (by omega) fun v6 n6 H6 v60 hn6 kp6 hp6 => ?_
        obtain ⟨t6, d6, s6, rfl, ht6, b1, b2, b3, b4⟩ := (hub.kp kp6) v6 v60
        have acc6 := h2.acc.go kp6 hp6
        walk_at "go"
        refine r_gtup ht6 rfl ?_
        walk_at "go"
        have ri6 := h2.go kp6 acc6
        have hub6 := hub.kp kp6
        have hhl6 := kp6.l hhl
        refine accGreat (f := 17) rfl acc6 (by decide) (by decide) (by omega) fun v7 n7 H7 v70 v71 hn7 kp7 acc7 => ?_
        walk_at "go"
        refine accDraw acc7 (by decide) (by decide) (by omega) fun v8 n8 H8 v80 v81 hn8 kp8 acc8 => ?_
        walk_at "go"
        obtain ⟨m80, m81⟩ := mulB (a := 1 + v4) (b := 1 + v8) (A := 10 ^ 9) (B := 6) (by omega) (by omega) (by omega) (by omega)
        generalize (1 + v4) * (1 + v8) = m8 at *
        refine accDraw acc8 (by decide) (by decide) (by omega) fun v9 n9 H9 v90 v91 hn9 kp9 acc9 => ?_
        walk_at "go"
        refine ⟨by show 3 ≤ 16777216; decide, fun q10 hq10 => ?_⟩
        have acc10 := acc9.newO (o := .lst [.int v7, .int m8, .int v9]) hq10
        have hq10' : (upd H9 q10 (.lst [.int v7, .int m8, .int v9])) q10 = some (.lst [.int v7, .int m8, .int v9]) := upd_same
        have kp10 : Kp H6 _ := (kp7.trans (kp8.trans kp9)).then (o := .lst [.int v7, .int m8, .int v9]) hq10
        generalize upd H9 q10 (.lst [.int v7, .int m8, .int v9]) = H10 at acc10 hq10' kp10 ⊢
        walk_at "go"
        refine r_pickL acc10.pen (SqL.of hq10') (by simp) (by simp) (by omega) fun v11 n11 H11 v110 hn11 kp11 hp11 => ?_
        have acc11 := acc10.go kp11 hp11
        obtain ⟨pace0, rfl, hpa0, hpa1⟩ : ∃ i, v11 = .int i ∧ 0 ≤ i ∧ i < 10 ^ 17 := by
          rcases Tx.v3 v110 with rfl | rfl | rfl
          · exact ⟨_, rfl, v70, v71⟩
          · exact ⟨_, rfl, m80, by omega⟩
          · exact ⟨_, rfl, v90, by omega⟩
        walk_at "go"
        refine ⟨by show 2 ≤ 16777216; decide, fun q12 hq12 => ?_⟩
        walk_at "go"
        refine accPick acc11 hq12 (by simp) (by simp) (by omega) fun v12 n12 H12 v120 hn12 kp12 acc12 => ?_
        obtain ⟨sg, rfl, hsg⟩ := sign_of v120
        walk_at "go"
        have hpg : (1 + pace0) * sg = 1 + pace0 ∨ (1 + pace0) * sg = -(1 + pace0) := by
          rcases hsg with rfl | rfl
          · exact .inl (by omega)
          · exact .inr (by omega)
        generalize (1 + pace0) * sg = pace at hpg ⊢
        refine accDraw acc12 (by decide) (by decide) (by omega) fun v13 n13 H13 v130 v131 hn13 kp13 acc13 => ?_
        walk_at "go"
        refine accGreat (f := 11) rfl acc13 (by decide) (by decide) (by omega) fun v14 n14 H14 v140 v141 hn14 kp14 acc14 => ?_
        walk_at "go"
        refine accGreat (f := 11) rfl acc14 (by decide) (by decide) (by omega) fun v15 n15 H15 v150 v151 hn15 kp15 acc15 => ?_
        walk_at "go"
        refine ⟨by show 3 ≤ 16777216; decide, fun q16 hq16 => ?_⟩
        walk_at "go"
        refine accPick acc15 hq16 (by simp) (by simp) (by omega) fun v16 n16 H16 v160 hn16 kp16 acc16 => ?_
        obtain ⟨steps, rfl, hst0, hst1⟩ : ∃ i, v16 = .int i ∧ 0 ≤ i ∧ i < 10 ^ 11 := by
          rcases Tx.v3 v160 with rfl | rfl | rfl
          · exact ⟨_, rfl, v130, by omega⟩
          · exact ⟨_, rfl, v140, v141⟩
          · exact ⟨_, rfl, v150, v151⟩
        walk_at "go"
        refine accDraw acc16 (by decide) (by decide) (by omega) fun v17 n17 H17 v170 v171 hn17 kp17 acc17 => ?_
        walk_at "go"
        refine ⟨by show 3 ≤ 16777216; decide, fun q18 hq18 => ?_⟩
        walk_at "go"
        refine accPick acc17 hq18 (by simp) (by simp) (by omega) fun v19 n19 H19 v190 hn19 kp19 acc19 => ?_
        obtain ⟨off, rfl, hof0, hof1⟩ : ∃ i, v19 = .int i ∧ 0 ≤ i ∧ i < 4 := by
          rcases Tx.v3 v190 with rfl | rfl | rfl
          · exact ⟨_, rfl, by decide, by decide⟩
          · exact ⟨_, rfl, by decide, by decide⟩
          · exact ⟨_, rfl, v170, by omega⟩
        walk_at "go"
        refine ⟨ty_list acc19.l, ?_⟩
        walk_at "go"
        obtain ⟨sp0, sp1⟩ := mulS (a := steps) (b := pace) (A := 10 ^ 11) (B := 10 ^ 17) hst0 (by omega) (by omega) (by omega)
        have hspot : ∃ spot, s6 - steps * pace = spot ∧ -(10 ^ 30) ≤ spot ∧ spot ≤ 10 ^ 30 := ⟨_, rfl, by omega, by omega⟩
        have hdate : ∃ date, d6 + off - steps = date ∧ 0 ≤ date ∧ date ≤ 10 ^ 30 := ⟨_, rfl, by omega, by omega⟩
        obtain ⟨spot, es, hs0, hs1⟩ := hspot
        obtain ⟨date, ed, hd0, hd1⟩ := hdate
        rw [es, ed]
        refine ⟨by show 4 ≤ 16777216; decide, fun q20 hq20 => ?_⟩
        walk_at "go"
        have hrow : NumOk ⟨label, date, spot, pace⟩ := ⟨hd0, hd1, hs0, hs1, by show _ ≤ pace; omega, by show pace ≤ _; omega, by show pace ≠ 0; omega⟩
        have kpA : Kp H6 H19 := kp10.trans (kp11.trans (kp12.trans (kp13.trans (kp14.trans (kp15.trans (kp16.trans (kp17.trans kp19)))))))
        have ri := (ri6.go kpA acc19).new (o := .tup [.str label, .int date, .int spot, .int pace]) hq20
        have hub12 := (hub6.kp (kpA.then (o := .tup [.str label, .int date, .int spot, .int pace]) hq20)).put (ys := vs ++ [.ref q20]) ri.acc.l
        have hhl12 : (upd (upd H19 q20 (.tup [.str label, .int date, .int spot, .int pace])) p (.lst (vs ++ [.ref q20]))) hb = some (.lst hvs) := by
          rw [upd_ne hne2]
          exact (kpA.then hq20).l hhl6
        have hvl := ri.len
        refine r_append ri.acc.l (by show vs.length < 16777216; omega) ?_
        have ri := ri.app (t := q20) (row := ⟨label, date, spot, pace⟩) upd_same hlab hrow
        generalize rs ++ [_] = rs2 at ri
        generalize hvv : vs ++ [V.ref q20] = vs2 at ri hub12 hhl12 ⊢
        generalize upd (upd H19 q20 _) p _ = H12 at ri hub12 hhl12 ⊢
        have hvl2 := ri.eqlen (by omega)
        walk_at "go"
        refine r_lenL (SqL.of ri.acc.l) ?_
        walk_at "go"
        refine r_iteD (fun hl2 => ?_) fun hl2 => ?_
        · walk_at "go"
          refine accDraw ri.acc (by decide) (by decide) (by omega) fun v13 n13 H13 v130 v131 hn13 kp13 acc13 => ?_
          have ri := ri.go kp13 acc13
          have hub13 := hub12.kp kp13
          have hhl13 := kp13.l hhl12
          walk_at "go"
          refine r_iteD (fun hz => ?_) fun hz => ?_
          · walk_at "go"
            refine ⟨by show 1 ≤ 16777216; decide, fun q14 hq14 => ?_⟩
            have ri14 := ri.new (o := .tup [.str label]) hq14
            have hq14' : (upd H13 q14 (.tup [.str label])) q14 = some (.tup [.str label]) := upd_same
            have hub14 := hub13.kp (Kp.new (o := .tup [.str label]) hq14)
            have hhl14 := (Kp.new (o := .tup [.str label]) hq14).l hhl13
            generalize upd H13 q14 (.tup [.str label]) = H14 at ri14 hq14' hub14 hhl14 ⊢
            walk_at "go"
            refine r_slL (SqL.of ri14.acc.l) fun q15 hq15 => ?_
            rw [cut_last (by omega)]
            walk_at "go"
            refine accPick ri14.acc hq15 (fun e => ?_) (by rw [List.length_take]; omega) (by omega) fun v16 n16 H16 v160 hn16 kp16 acc16 => ?_
            · have := congrArg List.length e
              rw [List.length_take] at this
              have e0 : ([] : List V).length = 0 := rfl
              omega
            have ri16 := ri14.go kp16 acc16
            obtain ⟨q17, row, hrm, rfl, hq17⟩ := ri16.rows.mem (List.mem_of_mem_take v160)
            walk_at "go"
            refine r_slA hq17 (fun h => (show ¬ (HT.sIx 4 0 (some 1) = 0) by decide) h.1) fun q18 hq18 => ?_
            have ri18 := ri16.new (o := .tup [.int row.day, .int row.post, .int row.pace]) hq18
            have hq18' : (upd H16 q18 (.tup [.int row.day, .int row.post, .int row.pace])) q18 = some (.tup [.int row.day, .int row.post, .int row.pace]) := upd_same
            have hq14'' : (upd H16 q18 (.tup [.int row.day, .int row.post, .int row.pace])) q14 = some (.tup [.str label]) := (Kp.new hq18).t (kp16.t hq14')
            have e18 : HO.tup (cutV (rowV row) (some 1) none) = .tup [.int row.day, .int row.post, .int row.pace] := rfl
            rw [e18]
            have hub18 := (hub14.kp kp16).kp (Kp.new (o := .tup [.int row.day, .int row.post, .int row.pace]) hq18)
            have hhl18 := (Kp.new (o := .tup [.int row.day, .int row.post, .int row.pace]) hq18).l (kp16.l hhl14)
            generalize upd H16 q18 _ = H18 at ri18 hq18' hq14'' hub18 hhl18 ⊢
            walk_at "go"
            refine r_catA hq14'' hq18' (by simp) (by simp) (by show 4 ≤ 16777216; decide) fun q19 hq19 => ?_
            have ri19 := ri18.new (o := .tup [.str label, .int row.day, .int row.post, .int row.pace]) hq19
            have hq19' : (upd H18 q19 (.tup [.str label, .int row.day, .int row.post, .int row.pace])) q19 = some (.tup (rowV ⟨label, row.day, row.post, row.pace⟩)) := upd_same
            have e19 : HO.tup ([.str label] ++ [.int row.day, .int row.post, .int row.pace]) = .tup [.str label, .int row.day, .int row.post, .int row.pace] := rfl
            rw [e19]
            have hub19 := hub18.kp (Kp.new (o := .tup [.str label, .int row.day, .int row.post, .int row.pace]) hq19)
            have hhl19 := (Kp.new (o := .tup [.str label, .int row.day, .int row.post, .int row.pace]) hq19).l hhl18
            generalize upd H18 q19 _ = H20 at ri19 hq19' hub19 hhl19 ⊢
            walk_at "go"
            refine r_setL ri19.acc.l (ixN_last (by omega)) ?_
            have ri20 := ri19.set (j := vs2.length - 1) hq19' (by rw [hvl2]; exact hlab) (by omega) (show NumOk ⟨label, row.day, row.post, row.pace⟩ from (ri16.nums row hrm : NumOk row))
            walk_at "go"
            exact ⟨n5 + 200 * (i + 1), _, _, _, _, _, _, _, _, rfl, Nat.le_refl _, ri20.mono (by omega), hub19.put ri19.acc.l, by rw [upd_ne hne2]; exact hhl19⟩
          · walk_at "go"
            exact ⟨n5 + 200 * (i + 1), _, _, _, _, _, _, _, _, rfl, Nat.le_refl _, ri.mono (by omega), hub13, hhl13⟩
        · walk_at "go"
          exact ⟨n5 + 200 * (i + 1), _, _, _, _, _, _, _, _, rfl, Nat.le_refl _, ri.mono (by omega), hub12, hhl12⟩
      · subst e
        walk_at "go"
        rw [List.length_map, hok.1] at h1 h2
        exact k _ _ _ (h2.done hok (Nat.le_refl _) (by omega)) (by omega) h2.acc.kp h2.acc.pen
end
end Tx

set_option maxRecDepth 100000
set_option maxHeartbeats 4000000
namespace Tx
open PySem PySem.Spec PyProof.Rows L2 My
section
variable {P : Program} {w : World} {K : PySem.W.Frag} {mg : Str → Option Value} {base : Heap}
theorem ok_lined (T : Tx K mg) : FnR P w K mg base (L2.CX P w) 8 (a_Llined K) (spRows 0) := by
  have F_Ldraw := ok_draw (P := P) (w := w) (base := base) T
  have F_Lpick := ok_pick (P := P) (w := w) (base := base) T
  have F_Lgreat := ok_great (P := P) (w := w) (base := base) T
  have F_Laround := ok_around (P := P) (w := w) (base := base) T
  have F_Lnames := ok_names (P := P) (w := w) (base := base) T
  refine fnR_of T.f_Llined sc_Llined (fun _ _ _ _ _ _ us hl => match us, hl with | [_, _], _ => rfl) (fun vs H Q E h => ?_) fun A outer s H vs Q E cdv hr h => ?_
  · obtain ⟨z, n, f, rfl, _⟩ := h
    rfl
  · obtain ⟨z, n, most, rfl, hp, hn, m0, m1, k⟩ := h
    refine ⟨_, (pss_cons (ps_par (i := 2) (j := 3) (by rfl) sc_Llined.nd rfl rfl (by decide) rfl rfl (pa_cons (pe_lst pa_nil) (pa_cons (pe_op (op_addUK (K := K) rfl) pe_int (pe_callR F_Ldraw (hr.mono (by first | decide | omega)) T.k_Ldraw rfl T.g__law_draw passL (pa_cons (pv 0) (pa_cons (pv 1) pa_nil)))) pa_nil)) (by rfl))
 (pss_cons (ps_par (i := 4) (j := 5) (by rfl) sc_Llined.nd rfl rfl (by decide) rfl rfl (pa_cons (pe_op (op_addUK (K := K) rfl) pe_int (pe_callR F_Lgreat (hr.mono (by first | decide | omega)) T.k_Lgreat rfl T.g__law_great passL (pa_cons (pv 0) (pa_cons pe_int pa_nil)))) (pa_cons (pe_op op_mulU (pe_callR F_Lgreat (hr.mono (by first | decide | omega)) T.k_Lgreat rfl T.g__law_great passL (pa_cons (pv 0) (pa_cons pe_int pa_nil))) (pe_callR F_Lpick (hr.mono (by first | decide | omega)) T.k_Lpick rfl T.g__law_pick passL (pa_cons (pv 0) (pa_cons (pe_lst (pa_cons pe_int (pa_cons (pe_un un_neg pe_int) pa_nil))) pa_nil)))) pa_nil)) (by rfl))
 (pss_cons (ps_for (passes_of rfl) rfl (pi_anyK (K := K) rfl (pe_callR F_Lnames (hr.mono (by first | decide | omega)) T.k_Lnames rfl T.g__law_names passL (pa_cons (pv 0) (pa_cons (pv 3) pa_nil)))) (pg_name (i := 6) sc_Llined.nd rfl (by first | exact Or.inl rfl | exact Or.inr rfl))
 (pss_cons (ps_set (i := 7) sc_Llined.nd rfl (by first | exact Or.inl rfl | exact Or.inr rfl) (pe_op op_mulU (pe_op op_mulU (pv 4) (pe_op (op_addUK (K := K) rfl) pe_int (pe_callR F_Ldraw (hr.mono (by first | decide | omega)) T.k_Ldraw rfl T.g__law_draw passL (pa_cons (pv 0) (pa_cons pe_int pa_nil))))) (pe_callR F_Lpick (hr.mono (by first | decide | omega)) T.k_Lpick rfl T.g__law_pick passL (pa_cons (pv 0) (pa_cons (pe_lst (pa_cons pe_int (pa_cons pe_int (pa_cons (pe_un un_neg pe_int) pa_nil)))) pa_nil)))))
 (pss_cons (ps_set (i := 8) sc_Llined.nd rfl (by first | exact Or.inl rfl | exact Or.inr rfl) (pe_op (op_addUK (K := K) rfl) (pv 5) (pe_callR F_Ldraw (hr.mono (by first | decide | omega)) T.k_Ldraw rfl T.g__law_draw passL (pa_cons (pv 0) (pa_cons (pe_callB (call_min2 rfl) rfl T.n_min (by decide +kernel) (pa_cons (pv 4) (pa_cons pe_int pa_nil))) pa_nil)))))
 (pss_cons (ps_set (i := 8) sc_Llined.nd rfl (by first | exact Or.inl rfl | exact Or.inr rfl) (pe_op (op_addUK (K := K) rfl) (pv 8) (pe_op op_mulU (pv 4) (pe_callR F_Laround (hr.mono (by first | decide | omega)) T.k_Laround rfl T.g__law_around passL (pa_cons (pv 0) (pa_cons (pe_callR F_Lpick (hr.mono (by first | decide | omega)) T.k_Lpick rfl T.g__law_pick passL (pa_cons (pv 0) (pa_cons (pe_lst (pa_cons pe_int (pa_cons pe_int (pa_cons (pe_op op_pow pe_int pe_int) pa_nil)))) pa_nil))) pa_nil))))))
 (pss_cons (ps_set (i := 9) sc_Llined.nd rfl (by first | exact Or.inl rfl | exact Or.inr rfl) (pe_callR F_Lpick (hr.mono (by first | decide | omega)) T.k_Lpick rfl T.g__law_pick passL (pa_cons (pv 0) (pa_cons (pe_lst (pa_cons pe_int (pa_cons (pe_callR F_Ldraw (hr.mono (by first | decide | omega)) T.k_Ldraw rfl T.g__law_draw passL (pa_cons (pv 0) (pa_cons pe_int pa_nil))) (pa_cons (pe_callR F_Lgreat (hr.mono (by first | decide | omega)) T.k_Lgreat rfl T.g__law_great passL (pa_cons (pv 0) (pa_cons pe_int pa_nil))) pa_nil)))) pa_nil))))
 (pss_one (ps_expr (pe_bm PySem.F.plainAttrs_list PySem.F.slot_list_append PySem.F.type_list_append mt_append (pv 2) (pa_cons (pe_tup (pa_cons (pv 6) (pa_cons (pv 9) (pa_cons (pv 8) (pa_cons (pv 7) pa_nil))))) pa_nil)))))))))
 (pss_one (ps_ret (pv 2)))))), ?_⟩
    try dsimp only [cxOf]
    walk_at "go"
    refine ⟨by decide, fun p hq => ?_⟩
    have acc := Acc.start (xs := []) (Kp.refl H) hp hq
    generalize upd H p (.lst []) = H1 at acc
    walk_at "go"
    refine accDraw acc (by omega) (by omega) (by omega) fun v2 n2 H2 v20 v21 hn2 kp2 acc2 => ?_
    walk_at "go"
    obtain ⟨many, hm⟩ : ∃ m : Nat, 1 + v2 = m := ⟨(1 + v2).toNat, by omega⟩
    rw [hm]
    refine accGreat (f := 16) rfl acc2 (by decide) (by decide) (by omega) fun v3 n3 H3 v30 v31 hn3 kp3 acc3 => ?_
    walk_at "go"
    refine accGreat (f := 29) rfl acc3 (by decide) (by decide) (by omega) fun v4 n4 H4 v40 v41 hn4 kp4 acc4 => ?_
    walk_at "go"
    refine ⟨by show 2 ≤ 16777216; decide, fun q5 hq5 => ?_⟩
    walk_at "go"
    refine accPick acc4 hq5 (by simp) (by simp) (by omega) fun v5 n5 H5 v50 hn5 kp5 acc5 => ?_
    obtain ⟨sg, rfl, hsg⟩ := sign_of v50
    walk_at "go"
    obtain ⟨b1, b2⟩ := sg_mul hsg v40 v41
    generalize v4 * sg = lbase at b1 b2 ⊢
    generalize hlot : 1 + v3 = lot
    have lot0 : 1 ≤ lot := by omega
    have lot1 : lot ≤ 10 ^ 16 := by omega
    refine r_iL ?_
    walk_at "go"
    refine r_names rfl acc5.pen (by omega) (by omega) fun q names n6 H6 hq0 hq1 hok hn6 kp6 hp6 => ?_
    have acc6 := acc5.go kp6 hp6
    have hne : q ≠ p := fun e => by
      rw [e, acc5.l] at hq0
      cases hq0
    refine ⟨_, rfl, ⟨_, SqL.of hq1⟩, ?_⟩
    refine for_list (fun i σ' H' => ∃ n', ∃ o6 o7 o8 o9 : Option V, ∃ vs rs, σ' = [some (.ref z.a), some (.int most), some (.ref p), some (.int many), some (.int lot), some (.int lbase), o6, o7, o8, o9] ∧ n' ≤ n6 + 200 * i ∧ RI z H H' n' p q names i vs rs)
      ⟨n6, _, _, _, _, [], [], rfl, by omega, .start acc6 hq1 hne⟩ (fun i σ' H' _ ⟨n', o6, o7, o8, o9, vs, rs, e, h1, h2⟩ => SqL.of h2.src) (fun i x σ' H' hx ⟨n', o6, o7, o8, o9, vs, rs, e, h1, h2⟩ => ?_)
      fun σ' H' ⟨n', o6, o7, o8, o9, vs, rs, e, h1, h2⟩ => ?_
    · subst e
      have hlen : names.length ≤ 40 := by have := hok.1; omega
      obtain ⟨label, hlab, rfl, hi⟩ := label_at hx
      walk_at "go"
      refine accDraw h2.acc (by decide) (by decide) (by omega) fun v7 n7 H7 v70 v71 hn7 kp7 acc7 => ?_
      walk_at "go"
      obtain ⟨m0, m1⟩ := mulB (a := lot) (b := 1 + v7) (A := 10 ^ 16) (B := 12) (by omega) (by omega) (by omega) (by omega)
      have m2 : 1 ≤ lot * (1 + v7) := by
        have := Int.mul_pos (show 0 < lot by omega) (show 0 < 1 + v7 by omega)
        omega
      generalize lot * (1 + v7) = pace0 at *
      refine ⟨by show 3 ≤ 16777216; decide, fun q8 hq8 => ?_⟩
      walk_at "go"
      refine accPick acc7 hq8 (by simp) (by simp) (by omega) fun v8 n8 H8 v80 hn8 kp8 acc8 => ?_
      obtain ⟨sg, rfl, hsg⟩ : ∃ s : Int, v8 = .int s ∧ (s = 1 ∨ s = -1) := by
        rcases Tx.v3 v80 with rfl | rfl | rfl
        · exact ⟨1, rfl, .inl rfl⟩
        · exact ⟨1, rfl, .inl rfl⟩
        · exact ⟨-1, rfl, .inr rfl⟩
      walk_at "go"
      have hpg : pace0 * sg = pace0 ∨ pace0 * sg = -pace0 := by
        rcases hsg with rfl | rfl
        · exact .inl (by omega)
        · exact .inr (by omega)
      generalize pace0 * sg = pace at hpg ⊢
      have hmin : (1 : Int) ≤ (if (2 : Int) < lot then 2 else lot) ∧ (if (2 : Int) < lot then 2 else lot) ≤ 2 := by
        split <;> omega
      generalize (if (2 : Int) < lot then 2 else lot) = mn at hmin ⊢
      refine accDraw acc8 hmin.1 (by omega) (by omega) fun v9 n9 H9 v90 v91 hn9 kp9 acc9 => ?_
      walk_at "go"
      refine ⟨by show 3 ≤ 16777216; decide, fun q10 hq10 => ?_⟩
      walk_at "go"
      refine accPick acc9 hq10 (by simp) (by simp) (by omega) fun v11 n11 H11 v110 hn11 kp11 acc11 => ?_
      obtain ⟨wide, rfl, hw0, hw1⟩ : ∃ i, v11 = .int i ∧ 0 ≤ i ∧ i ≤ 10 ^ 12 := by
        rcases Tx.v3 v110 with rfl | rfl | rfl
        · exact ⟨_, rfl, by decide, by decide⟩
        · exact ⟨_, rfl, by decide, by decide⟩
        · exact ⟨_, rfl, by decide, by decide⟩
      walk_at "go"
      refine accAround acc11 hw0 (by omega) (by omega) fun v12 n12 H12 v120 v121 hn12 kp12 acc12 => ?_
      walk_at "go"
      obtain ⟨sp0, sp1⟩ := mulS (a := lot) (b := v12) (A := 10 ^ 16) (B := 10 ^ 12) (by omega) (by omega) (by omega) (by omega)
      refine accDraw acc12 (by decide) (by decide) (by omega) fun v13 n13 H13 v130 v131 hn13 kp13 acc13 => ?_
      walk_at "go"
      refine accGreat (f := 29) rfl acc13 (by decide) (by decide) (by omega) fun v14 n14 H14 v140 v141 hn14 kp14 acc14 => ?_
      walk_at "go"
      refine ⟨by show 3 ≤ 16777216; decide, fun q16 hq16 => ?_⟩
      walk_at "go"
      refine accPick acc14 hq16 (by simp) (by simp) (by omega) fun v16 n16 H16 v160 hn16 kp16 acc16 => ?_
      obtain ⟨date, rfl, hd0, hd1⟩ : ∃ i, v16 = .int i ∧ 0 ≤ i ∧ i < 10 ^ 29 := by
        rcases Tx.v3 v160 with rfl | rfl | rfl
        · exact ⟨_, rfl, by decide, by decide⟩
        · exact ⟨_, rfl, v130, by omega⟩
        · exact ⟨_, rfl, v140, v141⟩
      walk_at "go"
      refine ⟨ty_list acc16.l, ?_⟩
      walk_at "go"
      obtain ⟨spot, es, hs0, hs1⟩ : ∃ spot, lbase + v9 + lot * v12 = spot ∧ -(10 ^ 30) ≤ spot ∧ spot ≤ 10 ^ 30 := ⟨_, rfl, by omega, by omega⟩
      rw [es]
      refine ⟨by show 4 ≤ 16777216; decide, fun q20 hq20 => ?_⟩
      walk_at "go"
      have hrow : NumOk ⟨label, date, spot, pace⟩ := ⟨hd0, by show date ≤ _; omega, hs0, hs1, by show _ ≤ pace; omega, by show pace ≤ _; omega, by show pace ≠ 0; omega⟩
      have kpA : Kp H' H16 := kp7.trans (kp8.trans (kp9.trans (kp11.trans (kp12.trans (kp13.trans (kp14.trans kp16))))))
      have ri := (h2.go kpA acc16).new (o := .tup [.str label, .int date, .int spot, .int pace]) hq20
      have hvl := ri.len
      refine r_append ri.acc.l (by show vs.length < 16777216; omega) ?_
      have ri := ri.app (t := q20) (row := ⟨label, date, spot, pace⟩) upd_same hlab hrow
      walk_at "go"
      exact ⟨n6 + 200 * (i + 1), _, _, _, _, _, _, rfl, Nat.le_refl _, ri.mono (by omega)⟩
    · subst e
      walk_at "go"
      rw [List.length_map, hok.1] at h1 h2
      exact k _ _ _ (h2.done hok (Nat.le_refl _) (by omega)) (by omega) h2.acc.kp h2.acc.pen
theorem r_rows {z : PenI} {H : Hp} {n most : Nat} {i : Int} {Q : VK} {E : XK} (hi : i = most) (hp : Pen H z n) (h1 : n + 20000 ≤ 10 ^ 17) (h2 : 1 ≤ most) (h3 : most ≤ 40) (k : Aft z H n 10000 (RowsR H) Q) :
    spRows 0 [.ref z.a, .int i] H Q E := ⟨z, n, most, by rw [hi], hp, h1, h2, h3, k⟩
/-! ### _law_painters -/
def spPainters : Sp := fun vs H Q _ => ∃ z n, vs = [.ref (PenI.a z)] ∧ Pen H z n ∧ n + 30000 ≤ 10 ^ 17 ∧ Aft z H n 11000 (RowsR H) Q
theorem rowsR_kp {H0 H1 H : Hp} {v : V} (h : RowsR H1 v H) (k : Kp H0 H1) : RowsR H0 v H := by
  obtain ⟨p, vs, rs, e, a, b⟩ := h
  exact ⟨p, vs, rs, e, k.f _ a, b⟩
theorem ok_painters (T : Tx K mg) : FnR P w K mg base (L2.CX P w) 9 (a_Lpainters K) spPainters := by
  have F_Ldraw := ok_draw (P := P) (w := w) (base := base) T
  have F_Lsmall := ok_small (P := P) (w := w) (base := base) T
  have F_Laimed := ok_aimed (P := P) (w := w) (base := base) T
  have F_Llined := ok_lined (P := P) (w := w) (base := base) T
  refine fnR_of T.f_Lpainters sc_Lpainters (fun _ _ _ _ _ _ us hl => match us, hl with | [_], _ => rfl) (fun vs H Q E h => ?_) fun A outer s H vs Q E cdv hr h => ?_
  · obtain ⟨z, n, rfl, _⟩ := h
    rfl
  · obtain ⟨z, n, rfl, hp, hn, k⟩ := h
    refine ⟨_, (pss_cons (ps_set (i := 1) sc_Lpainters.nd rfl (by first | exact Or.inl rfl | exact Or.inr rfl) (pe_callR F_Ldraw (hr.mono (by first | decide | omega)) T.k_Ldraw rfl T.g__law_draw passL (pa_cons (pv 0) (pa_cons pe_int pa_nil))))
 (pss_cons (ps_if (pt_cmpR (op_eqUK (K := K) rfl hr.units) (pv 1) pe_int (nomark _))
 (pss_one (ps_ret (pe_lst pa_nil)))
 pss_nil)
 (pss_cons (ps_if (pt_cmpR op_lt (pv 1) pe_int (nomark _))
 (pss_one (ps_ret (pe_callR F_Lsmall (hr.mono (by first | decide | omega)) T.k_Lsmall rfl T.g__law_small passL (pa_cons (pv 0) (pa_cons pe_int pa_nil)))))
 pss_nil)
 (pss_one (ps_ret (pe_ifExp (pt_cmpR op_lt (pv 1) pe_int (nomark _)) (pe_callR F_Laimed (hr.mono (by first | decide | omega)) T.k_Laimed rfl T.g__law_aimed passL (pa_cons (pv 0) (pa_cons pe_int pa_nil))) (pe_callR F_Llined (hr.mono (by first | decide | omega)) T.k_Llined rfl T.g__law_lined passL (pa_cons (pv 0) (pa_cons pe_int pa_nil))))))))), ?_⟩
    try dsimp only [cxOf]
    walk_at "go"
    refine r_draw hp (by decide) (by decide) (by omega) fun v2 n2 H2 v20 v21 hn2 kp2 hp2 => ?_
    have kk : ∀ v n' H', RowsR H2 v H' → n' ≤ n2 + 10000 → Kp H2 H' → Pen H' z n' → Q v H' := fun v n' H' h1 h2 h3 h4 => k v n' H' (rowsR_kp h1 kp2) (by omega) (kp2.trans h3) h4
    walk_at "go"
    refine r_iteD (fun h1 => ?_) fun h1 => ?_
    · walk_at "go"
      refine ⟨by decide, fun p hq => ?_⟩
      exact kk _ n2 _ ⟨p, [], [], rfl, hq, upd_same, trivial, fun r hr => (List.not_mem_nil hr).elim, List.nodup_nil, fun r hr => (List.not_mem_nil hr).elim, Nat.zero_le _⟩ (by omega) (Kp.new hq) (hp2.new hq)
    · walk_at "go"
      refine r_iteD (fun h1 => ?_) fun h1 => ?_
      · walk_at "go"
        exact r_rows (most := 6) rfl hp2 (by omega) (by decide) (by decide) kk
      · walk_at "go"
        refine r_iteD (fun h1 => ?_) fun h1 => ?_
        · walk_at "go"
          exact r_rows (most := 6) rfl hp2 (by omega) (by decide) (by decide) kk
        · walk_at "go"
          exact r_rows (most := 6) rfl hp2 (by omega) (by decide) (by decide) kk
end
end Tx

set_option maxRecDepth 100000
set_option maxHeartbeats 4000000
namespace Tx
open PySem PySem.Spec PyProof.Rows L2 My
section
variable {P : Program} {w : World} {K : PySem.W.Frag} {mg : Str → Option Value} {base : Heap}
/-! ### is_integer, is_between, is_name -/
def Kit (K : PySem.W.Frag) (H : Hp) (v : V) (T : String) (b : Bool) : Prop := ∃ t, TyX K H v t ∧ PySem.W.kitOne K t (.type T) = some b
theorem kit_int {H : Hp} {i : Int} : Kit K H (.int i) "int" true ∧ Kit K H (.int i) "bool" false := ⟨⟨_, .base (.int i), by rfl⟩, ⟨_, .base (.int i), by rfl⟩⟩
theorem kit_str {H : Hp} {s : Str} : Kit K H (.str s) "str" true ∧ Kit K H (.str s) "int" false := ⟨⟨_, .base (.str s), by rfl⟩, ⟨_, .base (.str s), by rfl⟩⟩
theorem r_isi {H : Hp} {v : V} {T : String} {b : Bool} {Q : VK} (h : Kit K H v T b) (q : Q (.bl b) H) : rIsi K [v, .ty T] H Q := by
  obtain ⟨t, h1, h2⟩ := h
  exact ⟨v, .ty T, t, .type T, b, rfl, .ty T, h1, h2, q⟩
def spIsInt (K : PySem.W.Frag) : Sp := fun vs H Q _ => ∃ v b1 b2, vs = [v] ∧ Kit K H v "int" b1 ∧ (b1 = true → Kit K H v "bool" b2) ∧ Q (.bl (b1 && !b2)) H
theorem ok_isint (T : Tx K mg) : FnR P w K mg base (L2.CX P w) 1 (a_is_integer K) (spIsInt K) := by
  refine fnR_of T.f_is_integer sc_is_integer (fun _ _ _ _ _ _ us hl => match us, hl with | [_], _ => rfl) (fun vs H Q E h => ?_) fun A outer s H vs Q E cdv hr h => ?_
  · obtain ⟨v, b1, b2, rfl, _⟩ := h
    rfl
  · obtain ⟨v, b1, b2, rfl, h1, h2, k⟩ := h
    refine ⟨_, (pss_one (ps_ret (pe_and (pe_callB call_isi rfl T.n_isinstance (by decide +kernel) (pa_cons (pv 0) (pa_cons (pe_bltn (v := .ty "int") rfl T.n_int (by decide +kernel) rfl) pa_nil))) (pe_one (pe_not (pe_callB call_isi rfl T.n_isinstance (by decide +kernel) (pa_cons (pv 0) (pa_cons (pe_bltn (v := .ty "bool") rfl T.n_bool (by decide +kernel) rfl) pa_nil)))))))), ?_⟩
    try dsimp only [cxOf]
    walk_at "go"
    refine r_isi h1 ⟨_, rfl, ?_⟩
    cases b1 with
    | false => exact r_iteF k
    | true =>
      refine r_iteT ?_
      walk_at "go"
      refine r_isi (h2 rfl) ?_
      walk_at "go"
      exact k
def spBetween (K : PySem.W.Frag) : Sp := fun vs H Q _ => (∃ i l h : Int, vs = [.int i, .int l, .int h] ∧ Q (.bl (decide (l ≤ i) && decide (i ≤ h))) H) ∨
  ∃ v l h b1 b2, vs = [v, l, h] ∧ Kit K H v "int" b1 ∧ (b1 = true → Kit K H v "bool" b2) ∧ (b1 && !b2) = false ∧ Q (.bl false) H
theorem ok_between (T : Tx K mg) : FnR P w K mg base (L2.CX P w) 2 (a_is_between K) (spBetween K) := by
  have F_is_integer := ok_isint (P := P) (w := w) (base := base) T
  refine fnR_of T.f_is_between sc_is_between (fun _ _ _ _ _ _ us hl => match us, hl with | [_, _, _], _ => rfl) (fun vs H Q E h => ?_) fun A outer s H vs Q E cdv hr h => ?_
  · rcases h with ⟨i, l, h, rfl, _⟩ | ⟨v, l, h, b1, b2, rfl, _⟩ <;> rfl
  · refine ⟨_, (pss_one (ps_ret (pe_and (pe_callR F_is_integer (hr.mono (by first | decide | omega)) T.k_is_integer rfl T.g_is_integer passL (pa_cons (pv 0) pa_nil)) (pe_one (pe_chain op_le op_le (pv 1) (pv 0) (pv 2)))))), ?_⟩
    try dsimp only [cxOf]
    rcases h with ⟨i, l, h, rfl, k⟩ | ⟨v, l, h, b1, b2, rfl, h1, h2, h3, k⟩
    · walk_at "go"
      refine ⟨_, true, false, rfl, kit_int.1, fun _ => kit_int.2, ⟨_, rfl, r_iteT ?_⟩⟩
      walk_at "go"
      refine r_iteD (fun h1 => ?_) fun h1 => ?_
      · walk_at "go"
        rw [decide_eq_true h1, Bool.true_and] at k
        exact k
      · walk_at "go"
        rw [decide_eq_false h1, Bool.false_and] at k
        exact k
    · walk_at "go"
      refine ⟨_, b1, b2, rfl, h1, h2, ⟨_, rfl, ?_⟩⟩
      rw [h3]
      exact r_iteF k
/-- whether all signs of a text lie in another -/
theorem all_bls {l : List Nat} {f : Nat → Bool} : (l.map f).all id = l.all f := by
  induction l with
  | nil => rfl
  | cons c r ih => rw [List.map_cons, List.all_cons, List.all_cons, ih]; rfl
def spIsName (K : PySem.W.Frag) : Sp := fun vs H Q _ => (∃ s : Str, vs = [.str s] ∧ s.length ≤ sizeLine ∧ ∀ H', Gr H H' → Q (.bl (nmB s)) H') ∨ ∃ v, vs = [v] ∧ Kit K H v "str" false ∧ Q (.bl false) H
theorem ok_isname (T : Tx K mg) : FnR P w K mg base (L2.CX P w) 1 (a_is_name K) (spIsName K) := by
  refine fnR_of T.f_is_name sc_is_name (fun _ _ _ _ _ _ us hl => match us, hl with | [_], _ => rfl) (fun vs H Q E h => ?_) fun A outer s H vs Q E cdv hr h => ?_
  · rcases h with ⟨s, rfl, _⟩ | ⟨v, rfl, _⟩ <;> rfl
  · refine ⟨_, (pss_cons (ps_if (PW.pt (pw_or (pt_not (pt_val (pe_callB call_isi rfl T.n_isinstance (by decide +kernel) (pa_cons (pv 0) (pa_cons (pe_bltn (v := .ty "str") rfl T.n_str (by decide +kernel) rfl) pa_nil))))) (pw_or1 (pt_not (pt_chain op_le op_le pe_int (pe_callB (call_lenUK (K := K) rfl) rfl T.n_len (by decide +kernel) (pa_cons (pv 0) pa_nil)) (C8.pe_gc rfl T.c_MAX_NAME))))))
 (pss_one (ps_ret pe_bl))
 pss_nil)
 (pss_one (ps_ret (pe_callB (cr_all rfl) rfl T.n_all (by decide +kernel) (pa_cons (pe_lc (own := [("letter", 1)]) rfl sc_is_name.nd (pi_anyK (K := K) rfl (pv 0)) (blkOk_by (own := [("letter", 1)]) (N := N_is_name) (sc := defScope s_is_name) (by decide +kernel)) (fun _ _ _ _ _ => (pg_name (i := 1) sc_is_name.nd rfl (by first | exact Or.inl rfl | exact Or.inr rfl))) (fun _ _ _ _ _ => pts_nil) (fun _ _ _ _ _ => (pe_cmpR op_sgn (pv 1) (C8.pe_gc rfl T.c_LETTERS) (by rfl)))) pa_nil))))), ?_⟩
    try dsimp only [cxOf]
    rcases h with ⟨s, rfl, hl, k⟩ | ⟨v, rfl, h1, k⟩
    · walk_at "go"
      refine r_isi kit_str.1 ⟨_, rfl, ?_⟩
      refine r_iteF ?_
      walk_at "go"
      refine r_lenS hl ?_
      walk_at "go"
      refine r_iteD (fun h1 => ?_) fun h1 => ?_
      · walk_at "go"
        refine r_iteN (fun h2 => ?_) fun h2 => ?_
        · walk_at "go"
          have e : nmB s = false := by
            unfold nmB
            rw [decide_eq_false (show ¬ s.length ≤ 8 by omega)]
            simp
          rw [e] at k
          exact k _ (Gr.refl _)
        · walk_at "go"
          refine r_iS ?_
          walk_at "go"
          refine ⟨_, rfl, fun D hD => ?_⟩
          refine lc_txt (fun i H' => Gr H H' ∧ H' D = some (.lst ((s.cps.toList.take i).map fun c => V.bl (decide (c ∈ lettersS.cps.toList))))) ⟨Gr.new hD, upd_same⟩ (fun i c H' hc ⟨g, hd⟩ => ?_) fun H' ⟨g, hd⟩ => ?_
          · walk_at "go"
            refine ⟨rfl, ?_⟩
            walk_at "go"
            refine ⟨_, hd, by rw [List.length_map, List.length_take]; show _ < 16777216; have e9 : s.cps.toList.length = s.length := cl_len s; omega, g.mut hD, ?_⟩
            rw [upd_same, List.take_add_one, hc]
            simp
          · walk_at "go"
            refine ⟨D, (cl s).map fun c => decide (c ∈ lettersS.cps.toList), rfl, SqL.of (by rw [hd, List.map_map, List.take_of_length_le (show s.cps.toList.length ≤ s.length from Nat.le_of_eq (cl_len s))]; rfl), ?_⟩
            rw [all_bls]
            have e : nmB s = (cl s).all fun c => decide (c ∈ lettersS.cps.toList) := by
              unfold nmB
              rw [decide_eq_true (show 1 ≤ s.length by omega), decide_eq_true (show s.length ≤ 8 by omega)]
              rfl
            rw [← e]
            exact k _ g
      · walk_at "go"
        have e : nmB s = false := by
          unfold nmB
          rw [decide_eq_false (show ¬ 1 ≤ s.length by omega)]
          rfl
        rw [e] at k
        exact k _ (Gr.refl _)
    · walk_at "go"
      refine r_isi h1 ⟨_, rfl, ?_⟩
      refine r_iteT ?_
      walk_at "go"
      exact k
end
end Tx

set_option maxRecDepth 100000
set_option maxHeartbeats 4000000
namespace Tx
open PySem PySem.Spec PyProof.Rows L2 My
section
variable {P : Program} {w : World} {K : PySem.W.Frag} {mg : Str → Option Value} {base : Heap}
/-! ### integer_in -/
def optV : Option Int → V
  | some i => .int i
  | none => .non
def spIntIn : Sp := fun vs H Q _ => ∃ s : Str, vs = [.str s] ∧ s.length ≤ sizeLine ∧ ∀ H', Gr H H' → Q (optV (intIn 80 s)) H'
theorem ok_intin (T : Tx K mg) : FnR P w K mg base (L2.CX P w) 1 (a_integer_in K) spIntIn := by
  refine fnR_of1 T.f_integer_in sc_integer_in (fun fd F => ?_) rfl (fun vs H Q E h => ?_) fun A outer s H vs Q E cdv hr h => ?_
  · obtain ⟨ds, hd, hb⟩ := F.binds1 (ps := ["word", "digits"]) 1 0 (by simp) rfl (fun T kV doc pm an cdv ct us its hu hi => match us, its, hu, hi with | [_], [_], _, _ => ⟨_, rfl, rfl⟩)
    exact bindsR_of1 hb hd rfl
  · obtain ⟨s, rfl, _⟩ := h
    rfl
  · obtain ⟨s, rfl, hl, k⟩ := h
    refine ⟨_, (C8.pss_cut (ps_set (i := 2) sc_integer_in.nd rfl (by first | exact Or.inl rfl | exact Or.inr rfl) (pe_ifExp (pt_cmpR (op_eqUK (K := K) rfl hr.units) (pe_slice (sl_anyK (K := K) rfl) (pv 0) po_none (po_some pe_int)) pe_str (nomark _)) (pe_slice (sl_anyK (K := K) rfl) (pv 0) (po_some pe_int) po_none) (pv 0)))
 (pss_cons (ps_if (PW.pt (pw_or (pt_not (pt_chain op_le op_le pe_int (pe_callB (call_lenUK (K := K) rfl) rfl T.n_len (by decide +kernel) (pa_cons (pv 2) pa_nil)) (pv 1))) (pw_or1 (pt_not (pt_val (pe_callB (cr_all rfl) rfl T.n_all (by decide +kernel) (pa_cons (pe_lc (own := [("digit", 3)]) rfl sc_integer_in.nd (pi_anyK (K := K) rfl (pv 2)) (blkOk_by (own := [("digit", 3)]) (N := N_integer_in) (sc := defScope s_integer_in) (by decide +kernel)) (fun _ _ _ _ _ => (pg_name (i := 3) sc_integer_in.nd rfl (by first | exact Or.inl rfl | exact Or.inr rfl))) (fun _ _ _ _ _ => pts_nil) (fun _ _ _ _ _ => (pe_cmpR op_sgn (pv 3) (C8.pe_gc rfl T.c_DIGITS) (by rfl)))) pa_nil)))))))
 (pss_one (ps_ret pe_non))
 pss_nil)
 (pss_cons (ps_if (PW.pt (pw_and (pt_cmpR (op_eqUK (K := K) rfl hr.units) (pe_ix (ix_seqK (K := K) rfl) (pv 2) pe_int (fun _ _ => rfl)) pe_str (nomark _)) (pw_and1 (pt_cmpR (op_neUK (K := K) rfl hr.units) (pv 0) pe_str (nomark _)))))
 (pss_one (ps_ret pe_non))
 pss_nil)
 (pss_one (ps_ret (pe_callTy call_intU rfl T.n_int (by decide +kernel) (pa_cons (pv 0) pa_nil))))))), ?_⟩
    try dsimp only [cxOf]
    refine r_cut (fun σ' H' => σ' = [some (.str s), some (.int 80), some (.str (dgs s)), none] ∧ H = H') ?_ ?_
    · walk_at "go"
      refine r_slS hl ?_
      walk_at "go"
      refine r_iteD (fun h1 => ?_) fun h1 => ?_
      · walk_at "go"
        refine r_slS hl ?_
        walk_at "go"
        exact ⟨by unfold dgs; rw [if_pos h1]; rfl, rfl⟩
      · walk_at "go"
        exact ⟨by unfold dgs; rw [if_neg h1]; rfl, rfl⟩
    · rintro σ' H' ⟨rfl, rfl⟩
      have hd : (dgs s).length ≤ sizeLine := by
        unfold dgs
        split
        · exact Nat.le_trans (cutS_length s _ _) hl
        · exact hl
      have bad : ∀ H1, inOk 80 s = false → Gr H H1 → Q .non H1 := fun H1 h g => by
        have k := k H1 g
        unfold intIn at k
        rw [h] at k
        exact k
      walk_at "go"
      refine r_lenS hd ?_
      walk_at "go"
      have hpart : ∀ H1, Gr H H1 → (∃ b, ((cl (dgs s)).all fun c => decide (c ∈ digitsS.cps.toList)) = b) := fun _ _ => ⟨_, rfl⟩
      refine r_iteD (fun h1 => ?_) fun h1 => ?_
      · walk_at "go"
        refine r_iteN (fun h2 => ?_) fun h2 => ?_
        · walk_at "go"
          refine bad _ ?_ (Gr.refl _)
          unfold inOk
          rw [decide_eq_false h2]
          simp
        · walk_at "go"
          refine r_iS ?_
          walk_at "go"
          refine ⟨_, rfl, fun D hD => ?_⟩
          refine lc_txt (fun i H' => Gr H H' ∧ H' D = some (.lst (((dgs s).cps.toList.take i).map fun c => V.bl (decide (c ∈ digitsS.cps.toList))))) ⟨Gr.new hD, upd_same⟩ (fun i c H' hc ⟨g, hl2⟩ => ?_) fun H' ⟨g, hl2⟩ => ?_
          · walk_at "go"
            refine ⟨rfl, ?_⟩
            walk_at "go"
            refine ⟨_, hl2, by rw [List.length_map, List.length_take]; show _ < 16777216; have e9 : (dgs s).cps.toList.length = (dgs s).length := cl_len (dgs s); omega, g.mut hD, ?_⟩
            rw [upd_same, List.take_add_one, hc]
            simp
          · walk_at "go"
            refine ⟨D, (cl (dgs s)).map fun c => decide (c ∈ digitsS.cps.toList), rfl, SqL.of (by rw [hl2, List.map_map, List.take_of_length_le (show (dgs s).cps.toList.length ≤ (dgs s).length from Nat.le_of_eq (cl_len (dgs s)))]; rfl), ?_⟩
            rw [all_bls]
            cases hall : (cl (dgs s)).all fun c => decide (c ∈ digitsS.cps.toList) with
            | false =>
              walk_at "go"
              refine bad _ ?_ g
              unfold inOk
              rw [hall]
              simp
            | true =>
              walk_at "go"
              have c0 : ∃ c0, atI (dgs s).cps.toList 0 = some c0 ∧ (cl (dgs s)).head? = some c0 := by
                have hlen : (cl (dgs s)).length = (dgs s).length := cl_len _
                cases hc : cl (dgs s) with
                | nil => rw [hc] at hlen; simp at hlen; omega
                | cons c0 r => exact ⟨c0, by show atI (cl (dgs s)) 0 = _; rw [hc]; exact atI_nat (j := 0) rfl, rfl⟩
              obtain ⟨c0, hat, hhd⟩ := c0
              refine r_ixS hd hat ?_
              walk_at "go"
              have fin : ∀ H1, Gr H H1 → inOk 80 s = true → rIntU [.str s] H1 Q := fun H1 g h => by
                obtain ⟨hl3, n, hn⟩ := inOk_text h (by decide)
                have k := k H1 g
                unfold intIn at k
                rw [if_pos h, hn] at k
                exact .inr ⟨s, n, rfl, hn, hl3, k⟩
              have z48 : (⟨#[c0]⟩ : Str) = "0" ↔ c0 = 48 := by
                have e : cl "0" = [48] := by decide
                constructor
                · intro h
                  have := congrArg cl h
                  rw [e, cl_one] at this
                  simpa using this
                · intro h
                  exact cl_inj (by rw [e, cl_one, h])
              refine r_iteD (fun h3 => ?_) fun h3 => ?_
              · walk_at "go"
                refine r_iteN (fun h4 => ?_) fun h4 => ?_
                · walk_at "go"
                  refine bad _ ?_ g
                  unfold inOk
                  rw [hhd, z48.mp h3, decide_eq_false h4]
                  simp
                · walk_at "go"
                  refine fin _ g ?_
                  unfold inOk
                  rw [hall, decide_eq_true h1, decide_eq_true h2, decide_eq_true h4]
                  simp
              · walk_at "go"
                refine fin _ g ?_
                unfold inOk
                rw [hall, decide_eq_true h1, decide_eq_true h2, hhd, decide_eq_false (show ¬ (some c0 = some 48) from fun h => h3 (z48.mpr (by simpa using h)))]
                simp
      · walk_at "go"
        refine bad _ ?_ (Gr.refl _)
        unfold inOk
        rw [decide_eq_false h1]
        rfl
/-! ### painter_line -/
def spLine : Sp := fun vs H Q _ => ∃ r, vs = rowV r ∧ r.nm.length ≤ 1000 ∧ NumOk r ∧ Q (.str (rowS r)) H
theorem ok_line (T : Tx K mg) : FnR P w K mg base (L2.CX P w) 1 (a_painter_line K) spLine := by
  refine fnR_of T.f_painter_line sc_painter_line (fun _ _ _ _ _ _ us hl => match us, hl with | [_, _, _, _], _ => rfl) (fun vs H Q E h => ?_) fun A outer s H vs Q E cdv hr h => ?_
  · obtain ⟨r, rfl, _⟩ := h
    rfl
  · obtain ⟨r, rfl, hl, hn, k⟩ := h
    refine ⟨_, (pss_one (ps_ret (pe_joined (L2.PJ.cons (pe_fmt (pv 0)) (L2.PJ.cons pe_str (L2.PJ.cons (pe_fmt (pv 1)) (L2.PJ.cons pe_str (L2.PJ.cons (pe_fmt (pv 2)) (L2.PJ.cons pe_str (L2.PJ.cons (pe_fmt (pv 3)) L2.PJ.nil)))))))))), ?_⟩
    try dsimp only [cxOf]
    walk_at "go"
    refine .inl ⟨_, rfl, by show _ ≤ 16777216; omega, ?_⟩
    walk_at "go"
    have e0 : Str.empty.length = 0 := rfl
    have e1 : (" " : Str).length = 1 := by decide
    obtain ⟨a1, a2, a3, a4, a5, a6, a7⟩ := hn
    have l1 := tS_small (i := r.day) (k := 31) (by omega) (by omega) (by decide)
    have l2 := tS_small (i := r.post) (k := 31) (by omega) (by omega) (by decide)
    have l3 := tS_small (i := r.pace) (k := 31) (by omega) (by omega) (by decide)
    refine ⟨_, rfl, by rw [PySem.Str.length_append, e0]; show _ ≤ 16777216; omega, ?_⟩
    walk_at "go"
    refine ⟨_, rfl, by rw [PySem.Str.length_append, PySem.Str.length_append, e0, e1]; show _ ≤ 16777216; omega, ?_⟩
    walk_at "go"
    refine .inr ⟨_, rfl, log_small (by omega) (by omega), ?_⟩
    walk_at "go"
    refine ⟨_, rfl, by simp only [PySem.Str.length_append, e0, e1]; show 0 + r.nm.length + 1 + (tS r.day).length ≤ 16777216; omega, ?_⟩
    walk_at "go"
    refine ⟨_, rfl, by simp only [PySem.Str.length_append, e0, e1]; show 0 + r.nm.length + 1 + (tS r.day).length + 1 ≤ 16777216; omega, ?_⟩
    walk_at "go"
    refine .inr ⟨_, rfl, log_small (by omega) (by omega), ?_⟩
    refine ⟨_, rfl, by simp only [PySem.Str.length_append, e0, e1]; show 0 + r.nm.length + 1 + (tS r.day).length + 1 + (tS r.post).length ≤ 16777216; omega, ?_⟩
    walk_at "go"
    refine ⟨_, rfl, by simp only [PySem.Str.length_append, e0, e1]; show 0 + r.nm.length + 1 + (tS r.day).length + 1 + (tS r.post).length + 1 ≤ 16777216; omega, ?_⟩
    walk_at "go"
    refine .inr ⟨_, rfl, log_small (by omega) (by omega), ?_⟩
    refine ⟨_, rfl, by simp only [PySem.Str.length_append, e0, e1]; show 0 + r.nm.length + 1 + (tS r.day).length + 1 + (tS r.post).length + 1 + (tS r.pace).length ≤ 16777216; omega, ?_⟩
    walk_at "go"
    rw [← line_eq] at k
    exact k
end
end Tx

set_option maxRecDepth 100000
set_option maxHeartbeats 4000000
namespace Tx
open PySem PySem.Spec PyProof.Rows L2 My
section
variable {P : Program} {w : World} {K : PySem.W.Frag} {mg : Str → Option Value} {base : Heap}
/-! ### painter_parts -/
def numsOf : List (Option Int) → Option (Int × Int × Int)
  | [some a, some b, some c] => some (a, b, c)
  | _ => none
def partsW : List Str → Option Rw
  | [] => none
  | nm :: rest => if nmB nm = true then (numsOf (rest.map (intIn 80))).map fun t => ⟨nm, t.1, t.2.1, t.2.2⟩ else none
def partsOf (line : Str) : Option Rw := partsW (Txt.split line " ")
def PartsQ (H : Hp) (Q : VK) (o : Option Rw) : Prop := match o with
  | none => ∀ H', Gr H H' → Q .non H'
  | some r => ∀ p H', Gr H H' → H p = none → H' p = some (.tup (rowV r)) → Q (.ref p) H'
def spParts : Sp := fun vs H Q _ => ∃ line : Str, vs = [.str line] ∧ line.length + 2 ≤ sizeLine ∧ PartsQ H Q (partsOf line)
theorem sum_mem {n : Nat} : ∀ {l : List Nat}, n ∈ l → n ≤ l.sum
  | a :: r, h => by
    rw [List.sum_cons]
    rcases List.mem_cons.mp h with rfl | h
    · omega
    · have := sum_mem h
      omega
theorem partsW_cons (nm : Str) (rest : List Str) : partsW (nm :: rest) = if nmB nm = true then (numsOf (rest.map (intIn 80))).map fun t => ⟨nm, t.1, t.2.1, t.2.2⟩ else none := rfl
theorem numsOf_ne : ∀ {nums : List (Option Int)}, nums.length ≠ 3 → numsOf nums = none
  | [], _ => rfl
  | [x], _ => by cases x <;> rfl
  | [x, y], _ => by cases x <;> cases y <;> rfl
  | [x, y, z], h => absurd rfl h
  | x :: y :: z :: u :: r, _ => by cases x <;> cases y <;> cases z <;> rfl
theorem three {α : Type} : ∀ {l : List α}, l.length = 3 → ∃ x y z, l = [x, y, z]
  | [x, y, z], _ => ⟨x, y, z, rfl⟩
theorem flat_opt (o : Option Int) : flatV (optV o) = true := by cases o <;> rfl
theorem in_non : ∀ l : List (Option Int), inV .non (l.map optV) = l.any fun o => o.isNone
  | [] => rfl
  | o :: r => by
    have ih := in_non r
    unfold inV at ih ⊢
    rw [List.map_cons, List.any_cons, List.any_cons, ih]
    cases o <;> rfl
theorem split_each {x s : Str} {c : Nat} (h : s ∈ Txt.split x ⟨#[c]⟩) : s.length ≤ x.length := by
  have hw := split_weight x ⟨#[c]⟩ (Nat.le_refl 1)
  have h1 : s.length ≤ ((Txt.split x ⟨#[c]⟩).map (·.length)).sum := sum_mem (List.mem_map_of_mem h)
  have h2 := split_pos x ⟨#[c]⟩
  omega
theorem ok_parts (T : Tx K mg) : FnR P w K mg base (L2.CX P w) 2 (a_painter_parts K) spParts := by
  have F_integer_in := ok_intin (P := P) (w := w) (base := base) T
  have F_is_name := ok_isname (P := P) (w := w) (base := base) T
  refine fnR_of T.f_painter_parts sc_painter_parts (fun _ _ _ _ _ _ us hl => match us, hl with | [_], _ => rfl) (fun vs H Q E h => ?_) fun A outer s H vs Q E cdv hr h => ?_
  · obtain ⟨l, rfl, _⟩ := h
    rfl
  · obtain ⟨l, rfl, hl, k⟩ := h
    refine ⟨_, (pss_cons (ps_asg (pe_split (pv 0) pe_str) (pg_star rfl (pg_name (i := 1) sc_painter_parts.nd rfl (by first | exact Or.inl rfl | exact Or.inr rfl)) (pg_name (i := 2) sc_painter_parts.nd rfl (by first | exact Or.inl rfl | exact Or.inr rfl))))
 (pss_cons (ps_setLc (i := 3) (own := [("word", 4)]) rfl sc_painter_parts.nd rfl rfl (sw_true rfl rfl rfl (by decide +kernel)) (pi_anyK (K := K) rfl (pv 2)) (blkOk_by (own := [("word", 4)]) (N := N_painter_parts) (sc := defScope s_painter_parts) (by decide +kernel)) (fun _ _ _ _ _ => (pg_name (i := 4) sc_painter_parts.nd rfl (by first | exact Or.inl rfl | exact Or.inr rfl))) (fun _ _ _ _ _ => pts_nil) (fun _ _ _ _ _ => (pe_callR F_integer_in (hr.mono (by first | decide | omega)) T.k_integer_in rfl T.g_integer_in passL (pa_cons (pv 4) pa_nil))))
 (pss_cons (ps_if (PW.pt (pw_or (pt_not (pt_val (pe_callR F_is_name (hr.mono (by first | decide | omega)) T.k_is_name rfl T.g_is_name_names passL (pa_cons (pv 1) pa_nil)))) (pw_or (pt_cmpR (op_neUK (K := K) rfl hr.units) (pe_callB (call_lenUK (K := K) rfl) rfl T.n_len (by decide +kernel) (pa_cons (pv 3) pa_nil)) pe_int (nomark _)) (pw_or1 (pt_cmpR (op_inK (K := K) rfl) pe_non (pv 3) (by rfl))))))
 (pss_one (ps_ret pe_non))
 pss_nil)
 (pss_one (ps_ret (pe_tup (pa_cons (pv 1) (StX.pa_star (pv 3) pa_nil)))))))), ?_⟩
    try dsimp only [cxOf]
    walk_at "go"
    refine ⟨_, _, rfl, rfl, by decide, hl, fun p hp => ?_⟩
    have hz : ∀ s ∈ Txt.split l " ", s.length ≤ l.length := fun s hs => by
      rw [sp_mk] at hs
      exact split_each hs
    unfold partsOf at k
    have hne : Txt.split l " " ≠ [] := by
      rw [sp_mk]
      exact split_ne l 32
    cases hws : Txt.split l " " with
    | nil => exact absurd hws hne
    | cons nm rest =>
      rw [hws] at hz k
      have g1 := Gr.new (o := .lst ((nm :: rest).map V.str)) hp
      refine ⟨p, .str nm, rest.map V.str, rfl, SqL.of upd_same, fun q hq => ?_⟩
      have g2 := g1.then (o := .lst (rest.map V.str)) hq
      have hq2 : (upd (upd H p (.lst ((nm :: rest).map V.str))) q (.lst (rest.map V.str))) q = some (.lst (rest.map V.str)) := upd_same
      generalize upd (upd H p (.lst ((nm :: rest).map V.str))) q (.lst (rest.map V.str)) = H2 at g2 hq2 ⊢
      walk_at "go"
      refine r_iL ?_
      walk_at "go"
      refine ⟨_, rfl, ⟨_, SqL.of hq2⟩, fun D hD => ?_⟩
      have hDq : q ≠ D := ne_of_none hq2 hD
      refine lc_list (xs := rest.map V.str) (fun i H' => Gr H2 H' ∧ H' D = some (.lst ((rest.take i).map fun w => optV (intIn 80 w)))) ⟨Gr.new hD, upd_same⟩ (fun i H' hi ⟨g, hd⟩ => SqL.of (g.e _ _ hq2)) (fun i x H' hx ⟨g, hd⟩ => ?_) fun H' ⟨g, hd⟩ => ?_
      · rw [List.getElem?_map] at hx
        obtain ⟨wd, hwd, rfl⟩ := Option.map_eq_some_iff.mp hx
        walk_at "go"
        refine ⟨rfl, ?_⟩
        walk_at "go"
        have hwl : wd.length ≤ sizeLine := by
          have := hz wd (List.mem_cons_of_mem _ (List.mem_of_getElem? hwd))
          omega
        refine ⟨wd, rfl, hwl, fun H'' g' => ⟨_, g'.e _ _ hd, ?_, (g.trans g').mut hD, ?_⟩⟩
        · rw [List.length_map, List.length_take]
          have h1 := split_weight l ⟨#[32]⟩ (Nat.le_refl 1)
          rw [← sp_mk, hws, List.length_cons] at h1
          show _ < 16777216
          have h2 : l.length + 2 ≤ 16777216 := hl
          omega
        · rw [upd_same, List.take_add_one, hwd]
          simp
      · have hd : H' D = some (.lst ((rest.map (intIn 80)).map optV)) := by
          rw [hd, List.map_map, List.length_map, List.take_of_length_le (Nat.le_refl _)]
          rfl
        have g3 := g2.trans g
        walk_at "go"
        refine .inl ⟨nm, rfl, by have := hz nm List.mem_cons_self; omega, fun H4 g4 => ⟨_, rfl, ?_⟩⟩
        have g5 := g3.trans g4
        have hd4 := g4.e _ _ hd
        generalize hnums : rest.map (intIn 80) = nums at hd4 k ⊢
        cases hnm : nmB nm with
        | false =>
          refine r_iteT ?_
          walk_at "go"
          have k : PartsQ H Q none := by
            rw [partsW_cons, hnm, if_neg (by decide)] at k
            exact k
          exact k _ g5
        | true =>
          have k : PartsQ H Q ((numsOf nums).map fun t => ⟨nm, t.1, t.2.1, t.2.2⟩) := by
            rw [partsW_cons, hnm, if_pos rfl, hnums] at k
            exact k
          refine r_iteF ?_
          walk_at "go"
          refine r_iteN (fun h3 => ?_) fun h3 => ?_
          · walk_at "go"
            have e : numsOf nums = none := numsOf_ne (fun z => h3 (by rw [List.length_map, z]; rfl))
            rw [e] at k
            exact k _ g5
          · walk_at "go"
            refine ⟨D, _, rfl, .inl (SqL.of hd4), rfl, ?_, ?_⟩
            · rw [List.all_map, List.all_eq_true]
              exact fun o _ => flat_opt o
            · rw [in_non]
              walk_at "go"
              obtain ⟨x, y, z, rfl⟩ : ∃ x y z, nums = [x, y, z] := three (by rw [List.length_map] at h3; omega)
              have bad : (x = none ∨ y = none ∨ z = none) → numsOf [x, y, z] = none := by
                rintro (rfl | rfl | rfl)
                · rfl
                · cases x <;> rfl
                · cases x <;> cases y <;> rfl
              by_cases hb : x = none ∨ y = none ∨ z = none
              · have e : ([x, y, z].any fun o => o.isNone) = true := by
                  rcases hb with rfl | rfl | rfl <;> simp
                rw [e]
                refine r_iteT ?_
                walk_at "go"
                rw [bad hb] at k
                exact k _ g5
              · obtain ⟨x, rfl⟩ : ∃ a, x = some a := by cases x with | none => simp at hb | some a => exact ⟨a, rfl⟩
                obtain ⟨y, rfl⟩ : ∃ a, y = some a := by cases y with | none => simp at hb | some a => exact ⟨a, rfl⟩
                obtain ⟨z, rfl⟩ : ∃ a, z = some a := by cases z with | none => simp at hb | some a => exact ⟨a, rfl⟩
                walk_at "go"
                refine r_iteF ?_
                walk_at "go"
                refine ⟨D, _, rfl, .inr (SqL.of hd4), ?_⟩
                walk_at "go"
                refine ⟨by show 4 ≤ 16777216; decide, fun p5 hp5 => ?_⟩
                have k : ∀ p H', Gr H H' → H p = none → H' p = some (.tup (rowV ⟨nm, x, y, z⟩)) → Q (.ref p) H' := k
                exact k p5 _ (g5.then hp5) (g5.f _ hp5) upd_same
end
end Tx

set_option maxRecDepth 100000
set_option maxHeartbeats 4000000
namespace Tx
open PySem PySem.Spec PyProof.Rows L2 My
section
variable {P : Program} {w : World} {K : PySem.W.Frag} {mg : Str → Option Value} {base : Heap}
/-! ### values of any kind -/
/-- a value of a known kind: None, a bool, an int, a text, a list, a tuple, a dict -/
def Kn (K : PySem.W.Frag) (H : Hp) : V → Prop
  | .non => True
  | .bl _ => True
  | .int _ => True
  | .str s => s.length ≤ sizeLine
  | .ref a => ∃ T, TyX K H (.ref a) (.type T) ∧ (T = "list" ∨ T = "tuple" ∨ T = "dict")
  | _ => False
theorem kit_oth {T S : String} (h : T = "list" ∨ T = "tuple" ∨ T = "dict") (hS : S = "str" ∨ S = "int" ∨ S = "bool") : PySem.W.kitOne K (.type T) (.type S) = some false := by
  rcases h with rfl | rfl | rfl <;> rcases hS with rfl | rfl | rfl <;> rfl
def isS : V → Bool
  | .str _ => true
  | _ => false
theorem Kn.kitS {H : Hp} : ∀ {v : V}, Kn K H v → Kit K H v "str" (isS v)
  | .non, _ => ⟨_, .base .non, rfl⟩
  | .bl b, _ => ⟨_, .base (.bl b), rfl⟩
  | .int i, _ => ⟨_, .base (.int i), rfl⟩
  | .str s, _ => ⟨_, .base (.str s), rfl⟩
  | .ref a, ⟨T, h1, h2⟩ => ⟨_, h1, kit_oth h2 (.inl rfl)⟩
def isI : V → Bool
  | .int _ => true
  | _ => false
theorem Kn.kitI {H : Hp} : ∀ {v : V}, Kn K H v → ∃ b1 b2, Kit K H v "int" b1 ∧ (b1 = true → Kit K H v "bool" b2) ∧ (b1 && !b2) = isI v
  | .non, _ => ⟨false, false, ⟨_, .base .non, rfl⟩, fun z => (nomatch z), rfl⟩
  | .bl b, _ => ⟨true, true, ⟨_, .base (.bl b), rfl⟩, fun _ => ⟨_, .base (.bl b), rfl⟩, rfl⟩
  | .int i, _ => ⟨true, false, ⟨_, .base (.int i), rfl⟩, fun _ => ⟨_, .base (.int i), rfl⟩, rfl⟩
  | .str s, _ => ⟨false, false, ⟨_, .base (.str s), rfl⟩, fun z => (nomatch z), rfl⟩
  | .ref a, ⟨T, h1, h2⟩ => ⟨false, false, ⟨_, h1, kit_oth h2 (.inr (.inl rfl))⟩, fun z => (nomatch z), rfl⟩
theorem tyX_ext {H H' : Hp} {v : V} {t : Value} (h : TyX K H v t) (e : Ext H H') : TyX K H' v t := by
  cases h with
  | base b => cases b with
    | non => exact .base .non
    | bl b => exact .base (.bl b)
    | int i => exact .base (.int i)
    | str s => exact .base (.str s)
    | flt s => exact .base (.flt s)
    | lst h => exact .base (.lst (e _ _ h))
    | frz h => exact .base (.frz (e _ _ h))
    | tup h => exact .base (.tup (e _ _ h))
    | dK h => exact .base (.dK (e _ _ h))
    | dT h => exact .base (.dT (e _ _ h))
    | ins h c a b d m => exact .base (.ins (e _ _ h) c a b d m)
  | byt b => exact .byt b
  | set h => exact .set (e _ _ h)
  | kList h c => exact .kList h c
  | kTuple h c => exact .kTuple h c
  | kDict h c => exact .kDict h c
  | fTuple h => exact .fTuple (e _ _ h)
  | fDict h => exact .fDict (e _ _ h)
theorem Kn.ext {H H' : Hp} (e : Ext H H') : ∀ {v : V}, Kn K H v → Kn K H' v
  | .non, _ => trivial
  | .bl _, _ => trivial
  | .int _, _ => trivial
  | .str _, h => h
  | .ref _, ⟨T, h1, h2⟩ => ⟨T, tyX_ext h1 e, h2⟩
def nmV : V → Bool
  | .str s => nmB s
  | _ => false
def btw (lo hi : Int) : V → Bool
  | .int i => decide (lo ≤ i) && decide (i ≤ hi)
  | _ => false
theorem sp_name {v : V} {H : Hp} {Q : VK} {E : XK} (h : Kn K H v) (k : ∀ H', Gr H H' → Q (.bl (nmV v)) H') : spIsName K [v] H Q E := by
  cases v with
  | str s => exact .inl ⟨s, rfl, h, k⟩
  | _ => exact .inr ⟨_, rfl, h.kitS, k _ (Gr.refl _)⟩
theorem sp_btw {v : V} {lo hi : Int} {H : Hp} {Q : VK} {E : XK} (h : Kn K H v) (k : Q (.bl (btw lo hi v)) H) : spBetween K [v, .int lo, .int hi] H Q E := by
  cases v with
  | int i => exact .inl ⟨i, lo, hi, rfl, k⟩
  | _ =>
    obtain ⟨b1, b2, h1, h2, h3⟩ := h.kitI
    exact .inr ⟨_, _, _, b1, b2, rfl, h1, h2, h3, k⟩
/-! ### Painter -/
abbrev CP (K : PySem.W.Frag) : Addr := He.ga K "Painter"
abbrev xIP (K : PySem.W.Frag) : Value := .ref (He.ga K "InvalidPainter")
abbrev xPE (K : PySem.W.Frag) : Value := .ref (He.ga K "ParseError")
abbrev xDN (K : PySem.W.Frag) : Value := .ref (He.ga K "DuplicateName")
abbrev xTM (K : PySem.W.Frag) : Value := .ref (He.ga K "TooMany")
def PAt (K : PySem.W.Frag) (H : Hp) (a : Addr) (r : Rw) : Prop := ∃ dx t, H a = some (.ins (CP K) dx [("parts", .ref t)]) ∧ H t = some (.tup (rowV r)) ∧ IsNm r.nm ∧ NumOk r
theorem PAt.ext {H H' : Hp} {a : Addr} {r : Rw} (h : PAt K H a r) (e : Ext H H') : PAt K H' a r := by
  obtain ⟨dx, t, h1, h2, h3⟩ := h
  exact ⟨dx, t, e _ _ h1, e _ _ h2, h3⟩
/-- an error with its field is raised; nothing else has changed -/
def Err (E : XK) (c : Value) (f : Str) (v : V) (H : Hp) : Prop := ∀ d H1, Gr H H1 → H d = none → H1 d = some (.xd [(f, v)]) → E c (some d) H1
theorem Err.go {E : XK} {c : Value} {f : Str} {v : V} {H H1 : Hp} (e : Err E c f v H) (g : Gr H H1) {d : Addr} (hd : H1 d = none) : E c (some d) (upd H1 d (.xd [(f, v)])) := e d _ (g.then hd) (g.f _ hd) upd_same
theorem Err.gr {E : XK} {c : Value} {f : Str} {v : V} {H H1 : Hp} (e : Err E c f v H) (g : Gr H H1) : Err E c f v H1 := fun d H2 g2 hd h => e d H2 (g.trans g2) (g.f _ hd) h
/-- why four values make no painter -/
def why (v1 v2 v3 v4 : V) : Option Str :=
  if nmV v1 = true then if btw 0 (10 ^ 30) v2 = true then if btw (-(10 ^ 30)) (10 ^ 30) v3 = true then if btw (-(10 ^ 18)) (10 ^ 18) v4 = true ∧ v4 ≠ .int 0 then none else some "stride" else some "post" else some "day" else some "name"
theorem why_none {v1 v2 v3 v4 : V} (h : why v1 v2 v3 v4 = none) : ∃ r, [v1, v2, v3, v4] = rowV r ∧ IsNm r.nm ∧ NumOk r := by
  unfold why at h
  split at h
  · rename_i h1
    split at h
    · rename_i h2
      split at h
      · rename_i h3
        split at h
        · rename_i h4
          obtain ⟨h4, h5⟩ := h4
          cases v1 <;> try (cases h1)
          cases v2 <;> try (cases h2)
          cases v3 <;> try (cases h3)
          cases v4 <;> try (cases h4)
          rename_i s i j k
          unfold btw at h2 h3 h4
          simp only [Bool.and_eq_true, decide_eq_true_eq] at h2 h3 h4
          exact ⟨⟨s, i, j, k⟩, rfl, nmB_iff.mp h1, h2.1, h2.2, h3.1, h3.2, h4.1, h4.2, fun z => h5 (by rw [show k = 0 from z])⟩
        · cases h
      · cases h
    · cases h
  · cases h
theorem why_row {r : Rw} (h : IsNm r.nm) (hn : NumOk r) : why (.str r.nm) (.int r.day) (.int r.post) (.int r.pace) = none := by
  obtain ⟨a1, a2, a3, a4, a5, a6, a7⟩ := hn
  unfold why nmV btw
  rw [if_pos (nmB_iff.mpr h), if_pos (by simp only [Bool.and_eq_true, decide_eq_true_eq]; exact ⟨a1, a2⟩), if_pos (by simp only [Bool.and_eq_true, decide_eq_true_eq]; exact ⟨a3, a4⟩), if_pos ⟨by simp only [Bool.and_eq_true, decide_eq_true_eq]; exact ⟨a5, a6⟩, fun z => a7 (V.int.inj z)⟩]
def spPInit (K : PySem.W.Frag) : Sp := fun vs H Q E => ∃ x v1 v2 v3 v4 dx, vs = [.ref x, v1, v2, v3, v4] ∧ H x = some (.ins (CP K) dx []) ∧ (Kn K H v1 ∧ Kn K H v2 ∧ Kn K H v3 ∧ Kn K H v4) ∧
  (∀ r, [v1, v2, v3, v4] = rowV r → IsNm r.nm → NumOk r → ∀ t H1, Gr H H1 → H t = none → H1 t = some (.tup (rowV r)) → Q .non (upd H1 x (.ins (CP K) dx [("parts", .ref t)]))) ∧
  (∀ y, why v1 v2 v3 v4 = some y → Err E (xIP K) "reason" (.str y) H)
theorem ok_pinit (T : Tx K mg) : FnR PP w K mg base (CXn PP w) 3 (a_Painter_init K) (spPInit K) := by
  have F_is_between := ok_between (P := PP) (w := w) (base := base) T
  have F_is_name := ok_isname (P := PP) (w := w) (base := base) T
  refine fnR_of T.f_Painter_init sc_Painter_init (fun _ _ _ _ _ _ us hl => match us, hl with | [_, _, _, _, _], _ => rfl) (fun vs H Q E h => ?_) fun A outer s H vs Q E cdv hr h => ?_
  · obtain ⟨x, v1, v2, v3, v4, dx, rfl, _⟩ := h
    rfl
  · obtain ⟨x, v1, v2, v3, v4, dx, rfl, hx, ⟨n1, n2, n3, n4⟩, k, kE⟩ := h
    refine ⟨_, (pss_cons (ps_if (pt_not (pt_val (pe_callR F_is_name (hr.mono (by first | decide | omega)) T.k_is_name rfl T.g_is_name_names passL (pa_cons (pv 1) pa_nil))))
 (pss_one (Oc.ps_raise Oc.zn_mk rfl (Oc.takes_of Oc.zn_ok rfl rfl rfl rfl) (Ow.pmk_ox Ox.chain_VE T.x_InvalidPainter (by have z := Ow.room1 hr; exact z) T.g_InvalidPainter (pa_cons pe_str pa_nil) rfl)))
 pss_nil)
 (pss_cons (ps_if (pt_not (pt_val (pe_callR F_is_between (hr.mono (by first | decide | omega)) T.k_is_between rfl T.g_is_between passL (pa_cons (pv 2) (pa_cons pe_int (pa_cons (pe_con (pv 0) rfl) pa_nil))))))
 (pss_one (Oc.ps_raise Oc.zn_mk rfl (Oc.takes_of Oc.zn_ok rfl rfl rfl rfl) (Ow.pmk_ox Ox.chain_VE T.x_InvalidPainter (by have z := Ow.room1 hr; exact z) T.g_InvalidPainter (pa_cons pe_str pa_nil) rfl)))
 pss_nil)
 (pss_cons (ps_if (pt_not (pt_val (pe_callR F_is_between (hr.mono (by first | decide | omega)) T.k_is_between rfl T.g_is_between passL (pa_cons (pv 3) (pa_cons (pe_un un_neg (pe_con (pv 0) rfl)) (pa_cons (pe_con (pv 0) rfl) pa_nil))))))
 (pss_one (Oc.ps_raise Oc.zn_mk rfl (Oc.takes_of Oc.zn_ok rfl rfl rfl rfl) (Ow.pmk_ox Ox.chain_VE T.x_InvalidPainter (by have z := Ow.room1 hr; exact z) T.g_InvalidPainter (pa_cons pe_str pa_nil) rfl)))
 pss_nil)
 (pss_cons (ps_if (PW.pt (pw_or (pt_not (pt_val (pe_callR F_is_between (hr.mono (by first | decide | omega)) T.k_is_between rfl T.g_is_between passL (pa_cons (pv 4) (pa_cons (pe_un un_neg (pe_con (pv 0) rfl)) (pa_cons (pe_con (pv 0) rfl) pa_nil)))))) (pw_or1 (pt_cmpR (op_eqUK (K := K) rfl hr.units) (pv 4) pe_int (nomark _)))))
 (pss_one (Oc.ps_raise Oc.zn_mk rfl (Oc.takes_of Oc.zn_ok rfl rfl rfl rfl) (Ow.pmk_ox Ox.chain_VE T.x_InvalidPainter (by have z := Ow.room1 hr; exact z) T.g_InvalidPainter (pa_cons pe_str pa_nil) rfl)))
 pss_nil)
 (pss_one (ps_fld (pv 0) (pe_tup (pa_cons (pv 1) (pa_cons (pv 2) (pa_cons (pv 3) (pa_cons (pv 4) pa_nil))))) rfl)))))), ?_⟩
    try dsimp only [cxOf]
    walk_at "go"
    refine sp_name n1 fun H1 g1 => ⟨_, rfl, ?_⟩
    unfold why at kE
    cases c1 : nmV v1 with
    | false =>
      rw [if_neg (by rw [c1]; decide)] at kE
      walk_at "go"
      exact fun d hd => (kE _ rfl).go g1 hd
    | true =>
    rw [if_pos c1] at kE
    walk_at "go"
    have hx1 := g1.e _ _ hx
    refine r_conV hx1 T.cl_Painter T.co_Painter_MAX_DAY rfl ?_
    walk_at "go"
    refine sp_btw (n2.ext g1.e) ⟨_, rfl, ?_⟩
    rw [show (1000000000000000000000000000000 : Int) = 10 ^ 30 by decide]
    cases c2 : btw 0 (10 ^ 30) v2 with
    | false =>
      rw [if_neg (by rw [c2]; decide)] at kE
      walk_at "go"
      exact fun d hd => (kE _ rfl).go g1 hd
    | true =>
    rw [if_pos c2] at kE
    walk_at "go"
    refine r_conV hx1 T.cl_Painter T.co_Painter_MAX_POST rfl ?_
    walk_at "go"
    refine r_conV hx1 T.cl_Painter T.co_Painter_MAX_POST rfl ?_
    walk_at "go"
    refine sp_btw (n3.ext g1.e) ⟨_, rfl, ?_⟩
    rw [show (1000000000000000000000000000000 : Int) = 10 ^ 30 by decide]
    cases c3 : btw (-(10 ^ 30)) (10 ^ 30) v3 with
    | false =>
      rw [if_neg (by rw [c3]; decide)] at kE
      walk_at "go"
      exact fun d hd => (kE _ rfl).go g1 hd
    | true =>
    rw [if_pos c3] at kE
    walk_at "go"
    refine r_conV hx1 T.cl_Painter T.co_Painter_MAX_STRIDE rfl ?_
    walk_at "go"
    refine r_conV hx1 T.cl_Painter T.co_Painter_MAX_STRIDE rfl ?_
    walk_at "go"
    refine sp_btw (n4.ext g1.e) ⟨_, rfl, ?_⟩
    rw [show (1000000000000000000 : Int) = 10 ^ 18 by decide]
    cases c4 : btw (-(10 ^ 18)) (10 ^ 18) v4 with
    | false =>
      rw [if_neg (by rw [c4]; exact fun z => Bool.false_ne_true z.1)] at kE
      walk_at "go"
      exact fun d hd => (kE _ rfl).go g1 hd
    | true =>
    walk_at "go"
    obtain ⟨i, rfl⟩ : ∃ i, v4 = .int i := by
      cases v4 <;> try (cases c4)
      exact ⟨_, rfl⟩
    refine r_eqI ⟨_, rfl, ?_⟩
    refine r_iteD (fun h0 => ?_) fun h0 => ?_
    · rw [if_neg (fun z => z.2 (by rw [h0]))] at kE
      walk_at "go"
      exact fun d hd => (kE _ rfl).go g1 hd
    walk_at "go"
    refine ⟨by show 4 ≤ 16777216; decide, fun t ht => ?_⟩
    obtain ⟨r, e, hn, hk⟩ := why_none (v1 := v1) (v2 := v2) (v3 := v3) (v4 := .int i) (by unfold why; rw [if_pos c1, if_pos c2, if_pos c3, if_pos ⟨c4, fun z => h0 (V.int.inj z)⟩])
    walk_at "go"
    have hx2 := (Gr.new (o := .tup [v1, v2, v3, .int i]) ht).e _ _ hx1
    refine ⟨x, _, _, _, rfl, hx2, T.cl_Painter, T.no_Painter_parts, by decide, ?_⟩
    exact k r e hn hk t _ (g1.then ht) (g1.f _ ht) (by rw [← e]; exact upd_same)
/-! the properties -/
def spPP (K : PySem.W.Frag) (f : Rw → V) : Sp := fun vs H Q _ => ∃ a r, vs = [.ref a] ∧ PAt K H a r ∧ Q (f r) H
theorem ok_name (T : Tx K mg) : FnR P w K mg base (L2.CX P w) 1 (a_Painter_name K) (spPP K fun r => .str r.nm) := by
  refine fnR_of T.f_Painter_name sc_Painter_name (fun _ _ _ _ _ _ us hl => match us, hl with | [_], _ => rfl) (fun vs H Q E h => ?_) fun A outer s H vs Q E cdv hr h => ?_
  · obtain ⟨a, r, rfl, _⟩ := h
    rfl
  · obtain ⟨a, r, rfl, ⟨dx, t, h1, h2, _⟩, k⟩ := h
    refine ⟨_, (pss_one (ps_ret (pe_ix (ix_seqK (K := K) rfl) (pe_fld (pv 0) rfl) pe_int (fun _ _ => rfl)))), ?_⟩
    try dsimp only [cxOf]
    walk_at "go"
    refine r_fldV h1 T.cl_Painter T.no_Painter_parts rfl ?_
    walk_at "go"
    exact r_ixT (SqT.of h2) (atI_nat (j := 0) rfl) k
theorem ok_day (T : Tx K mg) : FnR P w K mg base (L2.CX P w) 1 (a_Painter_day K) (spPP K fun r => .int r.day) := by
  refine fnR_of T.f_Painter_day sc_Painter_day (fun _ _ _ _ _ _ us hl => match us, hl with | [_], _ => rfl) (fun vs H Q E h => ?_) fun A outer s H vs Q E cdv hr h => ?_
  · obtain ⟨a, r, rfl, _⟩ := h
    rfl
  · obtain ⟨a, r, rfl, ⟨dx, t, h1, h2, _⟩, k⟩ := h
    refine ⟨_, (pss_one (ps_ret (pe_ix (ix_seqK (K := K) rfl) (pe_fld (pv 0) rfl) pe_int (fun _ _ => rfl)))), ?_⟩
    try dsimp only [cxOf]
    walk_at "go"
    refine r_fldV h1 T.cl_Painter T.no_Painter_parts rfl ?_
    walk_at "go"
    exact r_ixT (SqT.of h2) (atI_nat (j := 1) rfl) k
theorem ok_post (T : Tx K mg) : FnR P w K mg base (L2.CX P w) 1 (a_Painter_post K) (spPP K fun r => .int r.post) := by
  refine fnR_of T.f_Painter_post sc_Painter_post (fun _ _ _ _ _ _ us hl => match us, hl with | [_], _ => rfl) (fun vs H Q E h => ?_) fun A outer s H vs Q E cdv hr h => ?_
  · obtain ⟨a, r, rfl, _⟩ := h
    rfl
  · obtain ⟨a, r, rfl, ⟨dx, t, h1, h2, _⟩, k⟩ := h
    refine ⟨_, (pss_one (ps_ret (pe_ix (ix_seqK (K := K) rfl) (pe_fld (pv 0) rfl) pe_int (fun _ _ => rfl)))), ?_⟩
    try dsimp only [cxOf]
    walk_at "go"
    refine r_fldV h1 T.cl_Painter T.no_Painter_parts rfl ?_
    walk_at "go"
    exact r_ixT (SqT.of h2) (atI_nat (j := 2) rfl) k
theorem ok_stride (T : Tx K mg) : FnR P w K mg base (L2.CX P w) 1 (a_Painter_stride K) (spPP K fun r => .int r.pace) := by
  refine fnR_of T.f_Painter_stride sc_Painter_stride (fun _ _ _ _ _ _ us hl => match us, hl with | [_], _ => rfl) (fun vs H Q E h => ?_) fun A outer s H vs Q E cdv hr h => ?_
  · obtain ⟨a, r, rfl, _⟩ := h
    rfl
  · obtain ⟨a, r, rfl, ⟨dx, t, h1, h2, _⟩, k⟩ := h
    refine ⟨_, (pss_one (ps_ret (pe_ix (ix_seqK (K := K) rfl) (pe_fld (pv 0) rfl) pe_int (fun _ _ => rfl)))), ?_⟩
    try dsimp only [cxOf]
    walk_at "go"
    refine r_fldV h1 T.cl_Painter T.no_Painter_parts rfl ?_
    walk_at "go"
    exact r_ixT (SqT.of h2) (atI_nat (j := 3) rfl) k
theorem ok_ptext (T : Tx K mg) : FnR P w K mg base (L2.CX P w) 2 (a_Painter_text K) (spPP K fun r => .str (rowS r)) := by
  have F_painter_line := ok_line (P := P) (w := w) (base := base) T
  refine fnR_of T.f_Painter_text sc_Painter_text (fun _ _ _ _ _ _ us hl => match us, hl with | [_], _ => rfl) (fun vs H Q E h => ?_) fun A outer s H vs Q E cdv hr h => ?_
  · obtain ⟨a, r, rfl, _⟩ := h
    rfl
  · obtain ⟨a, r, rfl, ⟨dx, t, h1, h2, h3, h4⟩, k⟩ := h
    refine ⟨_, (pss_one (ps_ret (pe_callS1 F_painter_line (hr.mono (by first | decide | omega)) T.k_painter_line rfl T.g_painter_line passL (pe_fld (pv 0) rfl)))), ?_⟩
    try dsimp only [cxOf]
    walk_at "go"
    refine r_fldV h1 T.cl_Painter T.no_Painter_parts rfl ?_
    exact ⟨t, _, rfl, .inl (SqT.of h2), r, rfl, by have := h3.2.1; omega, h4, k⟩
end
end Tx

set_option maxRecDepth 100000
set_option maxHeartbeats 4000000
namespace Tx
open PySem PySem.Spec PyProof.Rows L2 My
section
variable {P : Program} {w : World} {K : PySem.W.Frag} {mg : Str → Option Value} {base : Heap}
/-! ### Painter.read -/
theorem partsOf_nm {s : Str} {r : Rw} (h : partsOf s = some r) : IsNm r.nm := by
  unfold partsOf partsW at h
  split at h
  · cases h
  · rename_i nm rest _
    split at h
    · rename_i hn
      obtain ⟨t, _, e⟩ := Option.map_eq_some_iff.mp h
      rw [← e]
      exact nmB_iff.mp hn
    · cases h
/-- the text of a row is read as the row -/
theorem partsOf_row {r : Rw} (h : IsNm r.nm) (hn : NumOk r) : partsOf (rowS r) = some r := by
  unfold partsOf
  rw [row_split h, partsW_cons, if_pos (nmB_iff.mpr h)]
  obtain ⟨a1, a2, a3, a4, a5, a6, a7⟩ := hn
  rw [List.map_cons, List.map_cons, List.map_cons, List.map_nil, intIn_tS (by omega) (by omega), intIn_tS (by omega) (by omega), intIn_tS (by omega) (by omega)]
  rfl
instance decNum (r : Rw) : Decidable (NumOk r) := by unfold NumOk; infer_instance
/-- the painter that a line writes -/
def readS (s : Str) : Option Rw := match partsOf s with
  | some r => if NumOk r then some r else none
  | none => none
def readV : V → Option Rw
  | .str s => readS s
  | _ => none
theorem readS_ok {s : Str} {r : Rw} (h : readS s = some r) : partsOf s = some r ∧ NumOk r ∧ IsNm r.nm := by
  unfold readS at h
  cases e : partsOf s with
  | none => rw [e] at h; cases h
  | some q =>
    rw [e] at h
    have h : (if NumOk q then some q else none) = some r := h
    by_cases c : NumOk q
    · rw [if_pos c] at h
      cases h
      exact ⟨rfl, c, partsOf_nm e⟩
    · rw [if_neg c] at h
      cases h
def spPRead (K : PySem.W.Frag) : Sp := fun vs H Q E => ∃ v, vs = [.ref (CP K), v] ∧ Kn K H v ∧ (∀ s, v = .str s → s.length + 2 ≤ sizeLine) ∧
  (∀ r, readV v = some r → ∀ a H1, Gr H H1 → H a = none → PAt K H1 a r → Q (.ref a) H1) ∧ (readV v = none → Err E (xPE K) "line" (.int 0) H)
theorem ok_pread (T : Tx K mg) : FnR PP w K mg base (CXb PP w) 5 (a_Painter_read K) (spPRead K) := by
  have F_painter_parts := ok_parts (P := PP) (w := w) (base := base) T
  have F_Painter_init := ok_pinit (w := w) (base := base) T
  refine fnR_of T.f_Painter_read sc_Painter_read (fun _ _ _ _ _ _ us hl => match us, hl with | [_, _], _ => rfl) (fun vs H Q E h => ?_) fun A outer s H vs Q E cdv hr h => ?_
  · obtain ⟨v, rfl, _⟩ := h
    rfl
  · obtain ⟨v, rfl, hv, hl, k, kE⟩ := h
    refine ⟨_, (pss_cons (ps_set (i := 2) sc_Painter_read.nd rfl (by first | exact Or.inl rfl | exact Or.inr rfl) (pe_ifExp (pt_val (pe_callB call_isi rfl T.n_isinstance (by decide +kernel) (pa_cons (pv 1) (pa_cons (pe_bltn (v := .ty "str") rfl T.n_str (by decide +kernel) rfl) pa_nil)))) (pe_callR F_painter_parts (hr.mono (by first | decide | omega)) T.k_painter_parts rfl T.g_painter_parts passL (pa_cons (pv 1) pa_nil)) pe_non))
 (pss_cons (ps_if (pt_cmpR op_isN (pv 2) pe_non (nomark _))
 (pss_one (Oc.ps_raise Oc.zb_mk rfl (Oc.takes_of Oc.zb_ok rfl rfl rfl rfl) (Ow.pmk_ox Ox.chain_VE T.x_ParseError (by have z := Ow.room1 hr; exact z) T.g_ParseError (pa_cons pe_int pa_nil) rfl)))
 pss_nil)
 (pss_one (Ow.ps_try_onlyB Ow.kindN rfl rfl ⟨rfl, by decide, .inl T.g_InvalidPainter⟩ (L2H.passesAt_of rfl) (takesBN (Oc.takes_of Oc.zb_ok rfl rfl rfl rfl)) (fun W pn xe tk _ => (pss_one (ps_ret (pe_makeV1WK (K := K) rfl T.m_Painter F_Painter_init (hr.mono (by first | decide | omega)) (fun σ => passAtZ tk σ) (pv 2) (pv 0))))) (fun a oe cls d pn _ _ _ up hot => (pss_one (Oc.ps_raise1 hot (up _ _ (Oc.takes_of Oc.zb_ok rfl rfl rfl rfl)) (Ow.pmk_ox Ox.chain_VE T.x_ParseError (by have z := Ow.room1 hr; exact z) T.g_ParseError (pa_cons pe_int pa_nil) rfl)))))))), ?_⟩
    try dsimp only [cxOf]
    walk_at "go"
    refine r_isi hv.kitS ⟨_, rfl, ?_⟩
    by_cases hs : isS v = true
    · rw [hs]
      obtain ⟨s, rfl⟩ : ∃ s, v = .str s := by
        cases v <;> try (cases hs)
        exact ⟨_, rfl⟩
      refine r_iteT ?_
      walk_at "go"
      refine ⟨s, rfl, hl s rfl, ?_⟩
      cases hp : partsOf s with
      | none =>
        have e : readV (.str s) = none := by
          show readS s = none
          unfold readS
          rw [hp]
        intro H1 g1
        walk_at "go"
        refine ⟨rfl, _, rfl, ?_⟩
        rw [decide_eq_true (show V.non = V.non from rfl)]
        walk_at "go"
        exact fun d hd => (kE e).go g1 hd
      | some r =>
        intro p H1 g1 hp0 hp1
        walk_at "go"
        refine ⟨rfl, _, rfl, ?_⟩
        rw [decide_eq_false (show ¬ (V.ref p = V.non) from fun z => by cases z)]
        refine r_iteF ?_
        walk_at "go"
        refine ⟨rfl, ?_⟩
        walk_at "go"
        refine ⟨p, _, rfl, .inl (SqT.of hp1), fun x dx hx hdx hne => ?_⟩
        have hx' : (upd H1 dx (.own x)) x = none := by rw [upd_ne (Ne.symm hne)]; exact hx
        have hnm := partsOf_nm hp
        have g2 : Gr H (upd (upd H1 dx (.own x)) x (.ins (CP K) dx [])) := (g1.then hdx).then hx'
        have hnl := hnm.2.1
        refine ⟨x, _, _, _, _, dx, rfl, upd_same, ⟨(by show r.nm.length ≤ 16777216; omega), trivial, trivial, trivial⟩, fun q e hq hk t H2 g3 ht h2 => ⟨rfl, ?_⟩, fun y hy => ?_⟩
        · have eq : q = r := by
            obtain ⟨n1, d1, p1, s1⟩ := q
            obtain ⟨n2, d2, p2, s2⟩ := r
            simp only [rowV, List.cons.injEq, V.str.injEq, V.int.injEq] at e
            obtain ⟨e1, e2, e3, e4, _⟩ := e
            rw [e1, e2, e3, e4]
          subst eq
          have hxt : t ≠ x := ne_of h2 (g3.e _ _ upd_same) (by intro z; cases z)
          refine k q (by show readS s = some q; unfold readS; rw [hp]; exact if_pos hk) x _ (((g1.trans ((Gr.new hdx).then hx')).trans g3).mut (g1.f _ hx)) (g1.f _ hx) ⟨dx, t, upd_same, by rw [upd_ne hxt]; exact h2, hnm, hk⟩
        · have nk : ¬ NumOk r := fun z => by
            rw [why_row hnm z] at hy
            cases hy
          have e : readV (.str s) = none := by
            show readS s = none
            unfold readS
            rw [hp]
            exact if_neg nk
          intro d H2 g3 hd h2
          refine ⟨true, T.xm_InvalidPainter_InvalidPainter, fun _ a ha => ?_, fun z => nomatch z⟩
          walk_at "go"
          exact fun d hd => (kE e).go (g2.trans g3) hd
    · have hs : isS v = false := by simpa using hs
      rw [hs]
      have e : readV v = none := by
        cases v <;> first | rfl | (cases hs)
      refine r_iteF ?_
      walk_at "go"
      refine ⟨rfl, _, rfl, ?_⟩
      rw [decide_eq_true (show V.non = V.non from rfl)]
      walk_at "go"
      exact fun d hd => (kE e).go (Gr.refl _) hd
/-! ### Fence -/
abbrev CF (K : PySem.W.Frag) : Addr := He.ga K "Fence"
/-- painters at the values vs -/
def PsAt (K : PySem.W.Frag) (H : Hp) : List V → List Rw → Prop
  | [], [] => True
  | v :: vs, r :: rs => (∃ a, v = .ref a ∧ PAt K H a r) ∧ PsAt K H vs rs
  | _, _ => False
theorem PsAt.ext {H H' : Hp} (e : Ext H H') : ∀ {vs : List V} {rs : List Rw}, PsAt K H vs rs → PsAt K H' vs rs
  | [], [], _ => trivial
  | _ :: _, _ :: _, ⟨⟨a, e1, e2⟩, h⟩ => ⟨⟨a, e1, e2.ext e⟩, PsAt.ext e h⟩
theorem PsAt.len {H : Hp} : ∀ {vs : List V} {rs : List Rw}, PsAt K H vs rs → vs.length = rs.length
  | [], [], _ => rfl
  | _ :: _, _ :: _, ⟨_, h⟩ => congrArg (· + 1) (PsAt.len h)
theorem PsAt.snoc {H : Hp} {a : Addr} {r : Rw} (e : PAt K H a r) : ∀ {vs : List V} {rs : List Rw}, PsAt K H vs rs → PsAt K H (vs ++ [.ref a]) (rs ++ [r])
  | [], [], _ => ⟨⟨a, rfl, e⟩, trivial⟩
  | _ :: _, _ :: _, ⟨h1, h⟩ => ⟨h1, PsAt.snoc e h⟩
theorem PsAt.at {H : Hp} {v : V} : ∀ {vs : List V} {rs : List Rw} {i : Nat}, PsAt K H vs rs → vs[i]? = some v → ∃ a r, rs[i]? = some r ∧ v = .ref a ∧ PAt K H a r
  | [], [], _, _, h => by simp at h
  | u :: vs, r :: rs, 0, ⟨⟨a, e1, e2⟩, h⟩, hm => by
    have : u = v := by simpa using hm
    subst this
    exact ⟨a, r, rfl, e1, e2⟩
  | u :: vs, r :: rs, i + 1, ⟨_, h⟩, hm => by simpa using PsAt.at (vs := vs) (rs := rs) (i := i) h (by simpa using hm)
/-- the dict of places -/
def plKV (i : Nat) : List Str → List (Key × V)
  | [] => []
  | n :: r => (.inr n, .int i) :: plKV (i + 1) r
theorem plKV_len : ∀ {k : Nat} {l : List Str}, (plKV k l).length = l.length
  | _, [] => rfl
  | k, n :: r => congrArg (· + 1) (plKV_len (k := k + 1) (l := r))
theorem plKV_snoc {nm : Str} : ∀ {k : Nat} {l : List Str}, plKV k (l ++ [nm]) = plKV k l ++ [(.inr nm, .int ((k + l.length : Nat) : Int))]
  | _, [] => rfl
  | k, n :: r => by
    show (Sum.inr n, V.int k) :: plKV (k + 1) (r ++ [nm]) = (Sum.inr n, V.int k) :: (plKV (k + 1) r ++ _)
    rw [plKV_snoc (k := k + 1) (l := r), List.length_cons]
    have e : k + 1 + r.length = k + (r.length + 1) := by omega
    rw [e]
theorem plKV_key : ∀ {k : Nat} {l : List Str} {kv : Key × V}, kv ∈ plKV k l → ∃ n ∈ l, kv.1 = .inr n
  | _, [], _, h => (List.not_mem_nil h).elim
  | k, n :: r, kv, h => by
    rcases List.mem_cons.mp h with rfl | h
    · exact ⟨n, List.mem_cons_self, rfl⟩
    · obtain ⟨m, h1, h2⟩ := plKV_key h
      exact ⟨m, List.mem_cons_of_mem _ h1, h2⟩
theorem putK_new {kvs : List (Key × V)} {k : Key} {v : V} (h : ∀ kv ∈ kvs, kv.1 ≠ k) : putK kvs k v = kvs ++ [(k, v)] := by
  unfold putK
  rw [if_neg]
  rw [List.any_eq_true]
  rintro ⟨kv, h1, h2⟩
  exact h kv h1 (of_decide_eq_true h2)
theorem pl_put {names : List Str} {nm : Str} {i : Nat} (hn : names.Nodup) (h : names[i]? = some nm) : putK (plKV 0 (names.take i)) (.inr nm) (.int i) = plKV 0 (names.take (i + 1)) := by
  obtain ⟨hi1, hi2⟩ := List.getElem?_eq_some_iff.mp h
  rw [putK_new fun kv hkv e => ?_, List.take_add_one, h]
  · show _ = plKV 0 (names.take i ++ [nm])
    rw [plKV_snoc, List.length_take, Nat.min_eq_left (by omega), Nat.zero_add]
  · obtain ⟨m, hm, e2⟩ := plKV_key hkv
    rw [e2] at e
    have e3 : m = nm := Sum.inr.inj e
    subst e3
    obtain ⟨j, hj⟩ := List.mem_iff_getElem?.mp hm
    have hji : j < i := by
      have := (List.getElem?_eq_some_iff.mp hj).1
      rw [List.length_take] at this
      omega
    rw [List.getElem?_take_of_lt hji] at hj
    obtain ⟨hj1, hj2⟩ := List.getElem?_eq_some_iff.mp hj
    exact (List.pairwise_iff_getElem.mp (List.nodup_iff_pairwise_ne.mp hn)) j i hj1 hi1 hji (hj2.trans hi2.symm)
def FAt (K : PySem.W.Frag) (H : Hp) (a : Addr) (rs : List Rw) : Prop := ∃ dx t d vs, H a = some (.ins (CF K) dx [("listed", .ref t), ("places", .ref d)]) ∧ SqT K H t vs ∧ PsAt K H vs rs ∧ H d = some (.dK (plKV 0 (rs.map Rw.nm))) ∧ RowsOk rs
theorem FAt.ext {H H' : Hp} {a : Addr} {rs : List Rw} (h : FAt K H a rs) (e : Ext H H') : FAt K H' a rs := by
  obtain ⟨dx, t, d, vs, h1, h2, h3, h4, h5⟩ := h
  exact ⟨dx, t, d, vs, e _ _ h1, h2.ext e, h3.ext e, e _ _ h4, h5⟩
end
end Tx

set_option maxRecDepth 100000
set_option maxHeartbeats 4000000
namespace Tx
open PySem PySem.Spec PyProof.Rows L2 My
section
variable {P : Program} {w : World} {K : PySem.W.Frag} {mg : Str → Option Value} {base : Heap}
/-! ### what occurs twice, which line is bad -/
def dupFrom : List Str → List Str → Option Str
  | _, [] => none
  | pre, n :: r => if n ∈ pre then some n else dupFrom (pre ++ [n]) r
def dup (l : List Str) : Option Str := dupFrom [] l
theorem dupFrom_none : ∀ {l pre : List Str}, dupFrom pre l = none → pre.Nodup → (pre ++ l).Nodup
  | [], pre, _, h => by rw [List.append_nil]; exact h
  | n :: r, pre, e, h => by
    have e : (if n ∈ pre then some n else dupFrom (pre ++ [n]) r) = none := e
    by_cases c : n ∈ pre
    · rw [if_pos c] at e
      cases e
    · rw [if_neg c] at e
      have z := dupFrom_none e (by
        rw [List.nodup_append]
        exact ⟨h, by simp, fun a ha b hb q => c (by rw [List.mem_singleton.mp hb] at q; exact q ▸ ha)⟩)
      rw [List.append_assoc] at z
      exact z
theorem dup_none {l : List Str} (h : dup l = none) : l.Nodup := dupFrom_none (pre := []) h List.nodup_nil
theorem dupFrom_nodup : ∀ {l pre : List Str}, (pre ++ l).Nodup → dupFrom pre l = none
  | [], _, _ => rfl
  | n :: r, pre, h => by
    show (if n ∈ pre then some n else dupFrom (pre ++ [n]) r) = none
    rw [if_neg (fun c => (List.nodup_append.mp h).2.2 n c n List.mem_cons_self rfl)]
    exact dupFrom_nodup (by rw [List.append_assoc]; exact h)
theorem dup_nodup {l : List Str} (h : l.Nodup) : dup l = none := dupFrom_nodup (pre := []) h
theorem dup_at {l : List Str} {i : Nat} {nm : Str} (h : dupFrom (l.take i) (l.drop i) = dup l) (e : l[i]? = some nm) : (nm ∈ l.take i → dup l = some nm) ∧ (nm ∉ l.take i → dupFrom (l.take (i + 1)) (l.drop (i + 1)) = dup l) := by
  obtain ⟨hi, ei⟩ := List.getElem?_eq_some_iff.mp e
  rw [List.drop_eq_getElem_cons hi, ei] at h
  have h : (if nm ∈ l.take i then some nm else dupFrom (l.take i ++ [nm]) (l.drop (i + 1))) = dup l := h
  refine ⟨fun c => ?_, fun c => ?_⟩
  · rw [if_pos c] at h
    exact h.symm
  · rw [if_neg c] at h
    rw [List.take_add_one, e]
    exact h
theorem dup_end {l : List Str} (h : dupFrom (l.take l.length) (l.drop l.length) = dup l) : dup l = none := by
  rw [List.drop_length] at h
  exact h.symm
def badFrom : Nat → List Str → Option Nat
  | _, [] => none
  | i, s :: r => if (readS s).isSome = true then badFrom (i + 1) r else some i
theorem bad_at {l : List Str} {i : Nat} {s : Str} (h : badFrom i (l.drop i) = badFrom 0 l) (e : l[i]? = some s) : (readS s = none → badFrom 0 l = some i) ∧ (∀ r, readS s = some r → badFrom (i + 1) (l.drop (i + 1)) = badFrom 0 l) := by
  obtain ⟨hi, ei⟩ := List.getElem?_eq_some_iff.mp e
  rw [List.drop_eq_getElem_cons hi, ei] at h
  have h : (if (readS s).isSome = true then badFrom (i + 1) (l.drop (i + 1)) else some i) = badFrom 0 l := h
  refine ⟨fun c => ?_, fun r c => ?_⟩
  · rw [c] at h
    exact h.symm
  · rw [c] at h
    exact h
theorem bad_end {l : List Str} (h : badFrom l.length (l.drop l.length) = badFrom 0 l) : badFrom 0 l = none := by
  rw [List.drop_length] at h
  exact h.symm
theorem bad_none : ∀ {l : List Str} {i : Nat}, badFrom i l = none → ∀ s ∈ l, ∃ r, readS s = some r
  | [], _, _, s, h => (List.not_mem_nil h).elim
  | a :: l, i, e, s, h => by
    have e : (if (readS a).isSome = true then badFrom (i + 1) l else some i) = none := e
    cases c : readS a with
    | none =>
      rw [c] at e
      cases e
    | some r =>
      rw [c] at e
      rcases List.mem_cons.mp h with rfl | h
      · exact ⟨r, c⟩
      · exact bad_none (i := i + 1) e s h
/-- what reading a text is due to tell -/
inductive Due where
  | parse (i : Nat)
  | twice (n : Str)
  | many
  | told (rs : List Rw)
def linesOf (s : Str) : List Str := if s = "" then [] else Txt.split s "\n"
def dueL (l : List Str) : Due := match badFrom 0 l with
  | some i => .parse i
  | none => match dup ((l.filterMap readS).map Rw.nm) with
    | some n => .twice n
    | none => if 40 < (l.filterMap readS).length then .many else .told (l.filterMap readS)
def dueV : V → Due
  | .str s => dueL (linesOf s)
  | _ => .parse 0
theorem PAt.put {H : Hp} {p a : Addr} {xs ys : List V} {r : Rw} (e : H p = some (.lst xs)) (h : PAt K H a r) : PAt K (upd H p (.lst ys)) a r := by
  obtain ⟨dx, t, h1, h2, h3⟩ := h
  exact ⟨dx, t, by rw [upd_ne (ne_of h1 e (by intro z; cases z))]; exact h1, by rw [upd_ne (ne_of h2 e (by intro z; cases z))]; exact h2, h3⟩
theorem PsAt.put {H : Hp} {p : Addr} {xs ys : List V} (e : H p = some (.lst xs)) : ∀ {vs : List V} {rs : List Rw}, PsAt K H vs rs → PsAt K (upd H p (.lst ys)) vs rs
  | [], [], _ => trivial
  | _ :: _, _ :: _, ⟨⟨a, e1, e2⟩, h⟩ => ⟨⟨a, e1, PAt.put e e2⟩, PsAt.put e h⟩
/-! ### Fence.__init__ -/
theorem inV_str {nm : Str} {l : List Str} : inV (.str nm) (l.map V.str) = decide (nm ∈ l) := by
  unfold inV
  rw [List.any_map]
  by_cases h : nm ∈ l
  · rw [decide_eq_true h, List.any_eq_true]
    exact ⟨nm, h, by show (nm == nm) = true; simp⟩
  · rw [decide_eq_false h, List.any_eq_false]
    intro y hy z
    have z : (y == nm) = true := z
    exact h (beq_iff_eq.mp z ▸ hy)
theorem PsAt.ok {H : Hp} : ∀ {vs : List V} {rs : List Rw}, PsAt K H vs rs → ∀ r ∈ rs, IsNm r.nm ∧ NumOk r
  | [], [], _, _, h => (List.not_mem_nil h).elim
  | _ :: _, r :: _, ⟨⟨a, _, dx, t, _, _, h3, h4⟩, h⟩, q, hq => by
    rcases List.mem_cons.mp hq with rfl | hq
    · exact ⟨h3, h4⟩
    · exact PsAt.ok h q hq
def spFInit (K : PySem.W.Frag) : Sp := fun vs H Q E => ∃ x dx t ps rs, vs = [.ref x, .ref t] ∧ H x = some (.ins (CF K) dx []) ∧ SqT K H t ps ∧ ps.length < sizeLine ∧ PsAt K H ps rs ∧
  (RowsOk rs → ∀ d H1, Gr H H1 → H d = none → H1 d = some (.dK (plKV 0 (rs.map Rw.nm))) → Q .non (upd H1 x (.ins (CF K) dx [("listed", .ref t), ("places", .ref d)]))) ∧
  (∀ n, dup (rs.map Rw.nm) = some n → Err E (xDN K) "value" (.str n) H) ∧ (dup (rs.map Rw.nm) = none → 40 < rs.length → Err E (xTM K) "limit" (.int 40) H)
theorem ok_finit (T : Tx K mg) : FnR PP w K mg base (CXn PP w) 3 (a_Fence_init K) (fun vs H Q E => ∃ ws rest, vs = ws ++ rest ∧ ws.length = 1 ∧ rest.length ≤ sizeLine ∧ ∀ p, H p = none → spFInit K (ws ++ [V.ref p]) (upd H p (.tup rest)) Q E) := by
  have F_Painter_name := ok_name (P := PP) (w := w) (base := base) T
  refine fnX_star (ps := ["self"]) cxUpZ T.f_Fence_init sc_Fence_init (fun kV doc pm an cdv ct us rest hl => match us, rest, hl with | [_], [], _ => rfl | [_], _ :: _, _ => rfl) fun A outer s H vs Q E cdv hr h => ?_
  obtain ⟨x, dx, t, ps, rs, rfl, hx, ht, hpl, hps, k, kD, kM⟩ := h
  have hrl : rs.length < 16777216 := hps.len ▸ hpl
  have hpl : ps.length < 16777216 := hpl
  refine ⟨_, (C8.pss_cut (ps_for (passes_of rfl) rfl (pi_enumA rfl T.n_enumerate (pa_cons (pv 1) pa_nil)) (pg_tupK (K := K) (n := 2) rfl rfl (pgs_cons (pg_name (i := 2) sc_Fence_init.nd rfl (by first | exact Or.inl rfl | exact Or.inr rfl)) (pgs_cons (pg_name (i := 3) sc_Fence_init.nd rfl (by first | exact Or.inl rfl | exact Or.inr rfl)) pgs_nil)))
 (pss_one (ps_if (pt_not (pt_val (pe_callB call_isi rfl T.n_isinstance (by decide +kernel) (pa_cons (pv 3) (pa_cons (pe_glob (v := .ref (He.ga K "Painter")) rfl T.g_Painter rfl) pa_nil)))))
 (pss_one ps_never)
 pss_nil)))
 (C8.pss_cut (ps_setLc (i := 4) (own := [("painter", 3)]) rfl sc_Fence_init.nd rfl rfl (sw_true rfl rfl rfl (by decide +kernel)) (pi_anyK (K := K) rfl (pv 1)) (blkOk_by (own := [("painter", 3)]) (N := N_Fence_init) (sc := defScope s_Fence_init) (by decide +kernel)) (fun _ _ _ _ _ => (pg_name (i := 3) sc_Fence_init.nd rfl (by first | exact Or.inl rfl | exact Or.inr rfl))) (fun _ _ _ _ _ => pts_nil) (fun _ _ _ _ _ => (pe_propR (pv 3) T.cl_Painter T.pr_Painter_name F_Painter_name (hr.mono (by first | decide | omega)) passL)))
 (C8.pss_cut (ps_for (passes_of rfl) rfl (pi_enumA rfl T.n_enumerate (pa_cons (pv 4) pa_nil)) (pg_tupK (K := K) (n := 2) rfl rfl (pgs_cons (pg_name (i := 2) sc_Fence_init.nd rfl (by first | exact Or.inl rfl | exact Or.inr rfl)) (pgs_cons (pg_name (i := 5) sc_Fence_init.nd rfl (by first | exact Or.inl rfl | exact Or.inr rfl)) pgs_nil)))
 (pss_one (ps_if (pt_cmpR (op_inK (K := K) rfl) (pv 5) (pe_slice (sl_anyK (K := K) rfl) (pv 4) po_none (po_some (pv 2))) (by rfl))
 (pss_one (Oc.ps_raise Oc.zn_mk rfl (Oc.takes_of Oc.zn_ok rfl rfl rfl rfl) (Ow.pmk_ox Ox.chain_VE T.x_DuplicateName (by have z := Ow.room1 hr; exact z) T.g_DuplicateName (pa_cons (pv 5) pa_nil) rfl)))
 pss_nil)))
 (C8.pss_cut (ps_if (pt_cmpR op_gt (pe_callB (call_lenUK (K := K) rfl) rfl T.n_len (by decide +kernel) (pa_cons (pv 1) pa_nil)) (C8.pe_gc rfl T.c_MAX_PAINTERS) (nomark _))
 (pss_one (Oc.ps_raise Oc.zn_mk rfl (Oc.takes_of Oc.zn_ok rfl rfl rfl rfl) (Ow.pmk_ox Ox.chain_OE T.x_TooMany (by have z := Ow.room1 hr; exact z) T.g_TooMany (pa_cons (C8.pe_gc rfl T.c_MAX_PAINTERS) pa_nil) rfl)))
 pss_nil)
 (C8.pss_cut (ps_fld (pv 0) (pv 1) rfl)
 (pss_one (ps_fld (pv 0) (pe_dc (own := [("index", 2), ("name", 5)]) rfl sc_Fence_init.nd (pi_enumA rfl T.n_enumerate (pa_cons (pv 4) pa_nil)) (blkOk_by (own := [("index", 2), ("name", 5)]) (N := N_Fence_init) (sc := defScope s_Fence_init) (by decide +kernel)) (fun _ _ _ _ _ => (pg_tupK (K := K) (n := 2) rfl rfl (pgs_cons (pg_name (i := 2) sc_Fence_init.nd rfl (by first | exact Or.inl rfl | exact Or.inr rfl)) (pgs_cons (pg_name (i := 5) sc_Fence_init.nd rfl (by first | exact Or.inl rfl | exact Or.inr rfl)) pgs_nil)))) (fun _ _ _ _ _ => pts_nil) (fun _ _ _ _ _ => (pv 5)) (fun _ _ _ _ _ => (pv 2))) rfl))))))), ?_⟩
  try dsimp only [cxOf]
  -- every one is a painter
  refine r_cut (fun σ' H' => ∃ o2 o3, σ' = [some (.ref x), some (.ref t), o2, o3, none, none] ∧ Gr H H') ?_ ?_
  · walk_at "go"
    refine ⟨t, ps, rfl, .inr ⟨ht, ?_⟩⟩
    refine for_enumT (fun i σ' H' => ∃ o2 o3, σ' = [some (.ref x), some (.ref t), o2, o3, none, none] ∧ Gr H H') ⟨_, _, rfl, Gr.refl _⟩ (fun i σ' H' hi ⟨_, _, _, g⟩ => ht.ext g.e) (fun i v σ' H' T1 hv ⟨o2, o3, e, g⟩ hT => ?_) fun σ' H' h => h
    subst e
    obtain ⟨a, r, hr1, rfl, dy, u, h1, h2⟩ := hps.at hv
    have g1 := g.then (o := .tup [.int (i : Nat), .ref a]) hT
    refine r_gtup upd_same rfl ?_
    walk_at "go"
    refine ⟨_, _, _, _, _, rfl, .own _, .base (.ins (g1.e _ _ h1) T.cl_Painter T.ii_Painter.ha T.ii_Painter.hn T.ii_Painter.htk T.ii_Painter.hm), T.ii_Painter.me, ⟨_, rfl, r_iteF ?_⟩⟩
    walk_at "go"
    exact ⟨_, _, rfl, g1⟩
  rintro σ1 H1 ⟨o2, o3, rfl, g1⟩
  -- the names
  refine r_cut (fun σ' H' => ∃ q, σ' = [some (.ref x), some (.ref t), o2, o3, some (.ref q), none] ∧ Gr H H' ∧ H' q = some (.lst ((rs.map Rw.nm).map V.str))) ?_ ?_
  · walk_at "go"
    refine r_iT ?_
    walk_at "go"
    refine ⟨_, rfl, ⟨_, ht.ext g1.e⟩, fun D hD => ?_⟩
    refine lc_tup (xs := ps) (fun i H' => Gr H1 H' ∧ H' D = some (.lst (((rs.map Rw.nm).take i).map V.str))) ⟨Gr.new hD, upd_same⟩ (fun i H' hi ⟨g, _⟩ => (ht.ext g1.e).ext g.e) (fun i v H' hv ⟨g, hd⟩ => ?_) fun H' ⟨g, hd⟩ => ?_
    · obtain ⟨a, r, hr1, rfl, hp⟩ := hps.at hv
      have hp' := hp.ext (g1.trans g).e
      obtain ⟨dy, u, h1, _⟩ := id hp'
      walk_at "go"
      refine ⟨rfl, ?_⟩
      walk_at "go"
      refine ⟨a, dy, _, rfl, h1, a, r, rfl, hp', _, hd, by rw [List.length_map, List.length_take, List.length_map]; show _ < 16777216; omega, g.mut hD, ?_⟩
      rw [upd_same, List.take_add_one, List.getElem?_map, hr1]
      simp
    · walk_at "go"
      exact ⟨D, rfl, g1.trans g, by rw [hd, List.take_of_length_le (by rw [List.length_map, hps.len]; exact Nat.le_refl _)]⟩
  rintro σ2 H2 ⟨q, rfl, g2, hq⟩
  -- none twice
  refine r_cut (fun σ' H' => ∃ o2 o5, σ' = [some (.ref x), some (.ref t), o2, o3, some (.ref q), o5] ∧ Gr H2 H' ∧ dup (rs.map Rw.nm) = none) ?_ ?_
  · walk_at "go"
    refine ⟨q, _, rfl, .inl ⟨SqL.of hq, ?_⟩⟩
    refine for_enumL (fun i σ' H' => ∃ o2 o5, σ' = [some (.ref x), some (.ref t), o2, o3, some (.ref q), o5] ∧ Gr H2 H' ∧ dupFrom ((rs.map Rw.nm).take i) ((rs.map Rw.nm).drop i) = dup (rs.map Rw.nm)) ⟨_, _, rfl, Gr.refl _, by rw [List.take_zero, List.drop_zero]; rfl⟩ (fun i σ' H' hi ⟨_, _, _, g, _⟩ => (SqL.of hq).ext g.e) (fun i v σ' H' T1 hv ⟨o2, o5, e, g, hdup⟩ hT => ?_) fun σ' H' ⟨o2, o5, e, g, hdup⟩ => ⟨o2, o5, e, g, dup_end (by rw [List.length_map] at hdup; exact hdup)⟩
    subst e
    rw [List.getElem?_map] at hv
    obtain ⟨nm, hnm, rfl⟩ := Option.map_eq_some_iff.mp hv
    have g3 := g.then (o := .tup [.int (i : Nat), .str nm]) hT
    refine r_gtup upd_same rfl ?_
    walk_at "go"
    refine r_slL ((SqL.of hq).ext g3.e) fun q4 hq4 => ?_
    walk_at "go"
    have hcut : cutV ((rs.map Rw.nm).map V.str) none (some (i : Int)) = ((rs.map Rw.nm).take i).map V.str := by
      unfold cutV
      have e0 : HT.sIx ((rs.map Rw.nm).map V.str).length 0 none = 0 := rfl
      rw [e0, HT.sIx_nat, List.drop_zero, Nat.sub_zero, ← List.map_take]
      congr 1
      have := (List.getElem?_eq_some_iff.mp hnm).1
      rw [Nat.min_eq_left (by rw [List.length_map]; omega)]
    refine ⟨q4, _, rfl, .inl (SqL.of upd_same), rfl, ?_, ?_⟩
    · rw [hcut, List.all_map, List.all_eq_true]
      exact fun _ _ => rfl
    · rw [hcut, inV_str]
      have g4 := g3.then (o := .lst (((rs.map Rw.nm).take i).map V.str)) hq4
      refine ⟨_, rfl, r_iteD (fun hin => ?_) fun hin => ?_⟩
      · walk_at "go"
        exact fun d hd => (kD nm ((dup_at hdup hnm).1 hin)).go (g2.trans g4) hd
      · walk_at "go"
        exact ⟨_, _, rfl, g4, (dup_at hdup hnm).2 hin⟩
  rintro σ3 H3 ⟨o2, o5, rfl, g3, hdn⟩
  have g3' := g2.trans g3
  refine r_cut (fun σ' H' => σ' = [some (.ref x), some (.ref t), o2, o3, some (.ref q), o5] ∧ H3 = H' ∧ rs.length ≤ 40) ?_ ?_
  · walk_at "go"
    refine r_lenT (ht.ext g3'.e) ?_
    walk_at "go"
    rw [hps.len]
    refine r_iteD (fun h => ?_) fun h => ?_
    · walk_at "go"
      exact fun d hd => (kM hdn (by omega)).go g3' hd
    walk_at "go"
    exact ⟨rfl, rfl, by omega⟩
  rintro σ4 H4 ⟨rfl, rfl, hmax⟩
  have hnod := dup_none hdn
  have hrs : RowsOk rs := ⟨fun r hr => (hps.ok r hr).2, hnod, fun r hr => (hps.ok r hr).1, hmax⟩
  have hx3 := g3'.e _ _ hx
  refine r_cut (fun σ' H' => σ' = [some (.ref x), some (.ref t), o2, o3, some (.ref q), o5] ∧ H' = upd H3 x (.ins (CF K) dx [("listed", .ref t)])) ?_ ?_
  · walk_at "go"
    exact ⟨x, _, _, _, rfl, hx3, T.cl_Fence, T.no_Fence_listed, by decide, rfl, rfl⟩
  rintro σ5 H5 ⟨rfl, rfl⟩
  have hqx : q ≠ x := ne_of (g3.e _ _ hq) hx3 (by intro z; cases z)
  have hq5 : (upd H3 x (.ins (CF K) dx [("listed", .ref t)])) q = some (.lst ((rs.map Rw.nm).map V.str)) := by rw [upd_ne hqx]; exact g3.e _ _ hq
  walk_at "go"
  refine ⟨q, _, rfl, .inl ⟨SqL.of hq5, fun D hD => ?_⟩⟩
  refine dc_enumL (fun i H' => Gr (upd H3 x (.ins (CF K) dx [("listed", .ref t)])) H' ∧ H' D = some (.dK (plKV 0 ((rs.map Rw.nm).take i)))) ⟨Gr.new hD, upd_same⟩ (fun i H' hi ⟨g, _⟩ => (SqL.of hq5).ext g.e) (fun i v H' T1 hv ⟨g, hd⟩ hT => ?_) fun H' ⟨g, hd⟩ => ?_
  · rw [List.getElem?_map] at hv
    obtain ⟨nm, hnm, rfl⟩ := Option.map_eq_some_iff.mp hv
    have g4 := g.then (o := .tup [.int (i : Nat), .str nm]) hT
    have hTD : D ≠ T1 := ne_of_none hd hT
    refine r_gtup upd_same rfl ?_
    walk_at "go"
    refine ⟨rfl, ?_⟩
    walk_at "go"
    refine ⟨_, .inr nm, rfl, by rw [upd_ne hTD]; exact hd, by rw [plKV_len, List.length_take, List.length_map]; show _ < 16777216; omega, g4.mut hD, ?_⟩
    rw [upd_same, pl_put hnod hnm]
  · have gb := g.back hx3
    walk_at "go"
    have hxx := g.e _ _ upd_same
    refine ⟨x, _, _, _, rfl, hxx, T.cl_Fence, T.no_Fence_places, (show 1 < 1000 by decide), ?_⟩
    have hDx : D ≠ x := ne_of hd hxx (by intro z; cases z)
    have k1 := k hrs D _ (g3'.trans gb) (g3'.f _ (by
      by_cases e : D = x
      · exact absurd e hDx
      · rw [upd_ne e] at hD
        exact hD)) (by rw [upd_ne hDx, hd, List.take_of_length_le (by simp)])
    rw [L2.upd_upd] at k1
    exact k1

/-! ### Fence.read -/
/-- Fence( *ps) -/
theorem fence_made {H : Hp} {ps : List V} {rs : List Rw} {Q : Hp → Prop} {E : XK} {x dx : Addr} (hps : PsAt K H ps rs) (hl : ps.length < sizeLine) (hx : H x = none) (hdx : H dx = none) (hne : dx ≠ x) (k : RowsOk rs → ∀ H1, Gr H H1 → FAt K H1 x rs → Q H1)
    (kD : ∀ n, dup (rs.map Rw.nm) = some n → Err E (xDN K) "value" (.str n) H) (kM : dup (rs.map Rw.nm) = none → 40 < rs.length → Err E (xTM K) "limit" (.int 40) H) :
    ∃ ws rest, V.ref x :: ps = ws ++ rest ∧ ws.length = 1 ∧ rest.length ≤ sizeLine ∧ ∀ p, (upd (upd H dx (.own x)) x (.ins (CF K) dx [])) p = none → spFInit K (ws ++ [V.ref p]) (upd (upd (upd H dx (.own x)) x (.ins (CF K) dx [])) p (.tup rest)) (fun v H2 => v = .non ∧ Q H2) E := by
  have hx' : (upd H dx (.own x)) x = none := by rw [upd_ne (Ne.symm hne)]; exact hx
  have g1 : Gr H (upd (upd H dx (.own x)) x (.ins (CF K) dx [])) := (Gr.new hdx).then hx'
  refine ⟨[.ref x], ps, rfl, rfl, Nat.le_of_lt hl, fun t ht => ?_⟩
  have hxt : x ≠ t := ne_of_none (upd_same) ht
  have g2 := g1.then (o := .tup ps) ht
  refine ⟨x, dx, t, ps, rs, rfl, by rw [upd_ne hxt]; exact upd_same, SqT.of upd_same, hl, hps.ext g2.e, fun hok d H1 g hd h1 => ⟨rfl, ?_⟩, fun n hn => (kD n hn).gr g2, fun h0 h1 => (kM h0 h1).gr g2⟩
  have g3 := (g2.trans g).mut (o := .ins (CF K) dx [("listed", .ref t), ("places", .ref d)]) hx
  have hxx := g.e x _ (by rw [upd_ne hxt]; exact upd_same)
  have ht1 := g.e t _ upd_same
  have htx : t ≠ x := Ne.symm hxt
  have hdx2 : d ≠ x := ne_of h1 hxx (by intro z; cases z)
  exact k hok _ g3 ⟨dx, t, d, ps, upd_same, SqT.of (by rw [upd_ne htx]; exact ht1), hps.ext g3.e, by rw [upd_ne hdx2]; exact h1, hok⟩
def spFText (K : PySem.W.Frag) : Sp := fun vs H Q _ => ∃ a rs, vs = [.ref a] ∧ FAt K H a rs ∧ ∀ H1, Gr H H1 → Q (.str (fenceS rs)) H1
theorem ok_ftext (T : Tx K mg) : FnR P w K mg base (L2.CX P w) 4 (a_Fence_text K) (spFText K) := by
  have F_Painter_text := ok_ptext (P := P) (w := w) (base := base) T
  refine fnR_of T.f_Fence_text sc_Fence_text (fun _ _ _ _ _ _ us hl => match us, hl with | [_], _ => rfl) (fun vs H Q E h => ?_) fun A outer s H vs Q E cdv hr h => ?_
  · obtain ⟨a, rs, rfl, _⟩ := h
    rfl
  · obtain ⟨a, rs, rfl, ⟨dx, t, d, ps, h1, h2, h3, h4, h5⟩, k⟩ := h
    refine ⟨_, (pss_one (ps_ret (pe_join pe_str (pe_lc (own := [("painter", 1)]) rfl sc_Fence_text.nd (pi_anyK (K := K) rfl (pe_fld (pv 0) rfl)) (blkOk_by (own := [("painter", 1)]) (N := N_Fence_text) (sc := defScope s_Fence_text) (by decide +kernel)) (fun _ _ _ _ _ => (pg_name (i := 1) sc_Fence_text.nd rfl (by first | exact Or.inl rfl | exact Or.inr rfl))) (fun _ _ _ _ _ => pts_nil) (fun _ _ _ _ _ => (pe_propR (pv 1) T.cl_Painter T.pr_Painter_text F_Painter_text (hr.mono (by first | decide | omega)) passL)))))), ?_⟩
    try dsimp only [cxOf]
    walk_at "go"
    refine r_iT ?_
    walk_at "go"
    refine r_fldV h1 T.cl_Fence T.no_Fence_listed rfl ?_
    refine ⟨_, rfl, ⟨_, h2⟩, fun D hD => ?_⟩
    refine lc_tup (xs := ps) (fun i H' => Gr H H' ∧ H' D = some (.lst (((rs.map rowS).take i).map V.str))) ⟨Gr.new hD, upd_same⟩ (fun i H' hi ⟨g, _⟩ => h2.ext g.e) (fun i v H' hv ⟨g, hd⟩ => ?_) fun H' ⟨g, hd⟩ => ?_
    · obtain ⟨a, r, hr1, rfl, hp⟩ := h3.at hv
      have hp' := hp.ext g.e
      obtain ⟨dy, u, j1, _⟩ := id hp'
      walk_at "go"
      refine ⟨rfl, ?_⟩
      walk_at "go"
      refine ⟨a, dy, _, rfl, j1, a, r, rfl, hp', _, hd, by rw [List.length_map, List.length_take, List.length_map]; have := h5.2.2.2; show _ < 16777216; omega, g.mut hD, ?_⟩
      rw [upd_same, List.take_add_one, List.getElem?_map, hr1]
      simp
    · walk_at "go"
      have hd : H' D = some (.lst ((rs.map rowS).map V.str)) := by rw [hd, List.take_of_length_le (by rw [List.length_map, h3.len]; exact Nat.le_refl _)]
      refine ⟨_, D, rs.map rowS, rfl, rfl, .inl (SqL.of hd), ?_, k _ g⟩
      have hs := fence_sum h5
      have e1 : ("\n" : Str).length = 1 := by decide
      rw [e1, List.length_map]
      have := h5.2.2.2
      omega
end
end Tx

set_option maxRecDepth 100000
set_option maxHeartbeats 4000000
namespace Tx
open PySem PySem.Spec PyProof.Rows L2 My
section
variable {P : Program} {w : World} {K : PySem.W.Frag} {mg : Str → Option Value} {base : Heap}
/-! ### Fence.read -/
theorem lines_weight (s : Str) : (linesOf s).length ≤ s.length + 1 ∧ ∀ l ∈ linesOf s, l.length ≤ s.length := by
  unfold linesOf
  by_cases h : s = ""
  · rw [if_pos h]
    exact ⟨Nat.zero_le _, fun l hl => (List.not_mem_nil hl).elim⟩
  · rw [if_neg h]
    have hw := split_weight s ("\n" : Str) (by decide)
    refine ⟨by omega, fun l hl => ?_⟩
    rw [nl_mk] at hl
    exact split_each hl
theorem r_lines {s : Str} {σ : L2.St} {H : Hp} {K0 : VK} (hl : s.length + 2 ≤ sizeLine) (hs : σ[1]? = some (some (.str s))) (k : ∀ L H1, Gr H H1 → H L = none → H1 L = some (.lst ((linesOf s).map V.str)) → K0 (.ref L) H1) :
    if (!decide (s = "")) = true then tM1 (fun x xs H Q => ∃ a b, x = V.str a ∧ xs = [V.str b] ∧ (b.length == 0) = false ∧ a.length + 2 ≤ sizeLine ∧ rNewStrs (Txt.split a b) H Q) (tVar 1) (tC (V.str "\n")) σ H K0 else tLst tNil σ H K0 := by
  unfold linesOf at k
  by_cases h : s = ""
  · rw [if_neg (by rw [decide_eq_true h]; decide)]
    rw [if_pos h] at k
    exact ⟨Nat.zero_le _, fun L hL => k L _ (Gr.new hL) hL upd_same⟩
  · rw [if_pos (by rw [decide_eq_false h]; rfl)]
    rw [if_neg h] at k
    exact ⟨_, hs, ⟨_, rfl⟩, _, _, rfl, rfl, by decide, hl, fun L hL => k L _ (Gr.new hL) hL upd_same⟩
def DueQ (K : PySem.W.Frag) (H : Hp) (Q : VK) (E : XK) : Due → Prop
  | .parse i => Err E (xPE K) "line" (.int i) H
  | .twice n => Err E (xDN K) "value" (.str n) H
  | .many => Err E (xTM K) "limit" (.int 40) H
  | .told rs => ∀ f H1, RowsOk rs → Gr H H1 → H f = none → FAt K H1 f rs → Q (.ref f) H1
theorem take_filterMap {l : List Str} {i : Nat} {s : Str} {r : Rw} (e : l[i]? = some s) (h : readS s = some r) : (l.take (i + 1)).filterMap readS = (l.take i).filterMap readS ++ [r] := by
  rw [List.take_add_one, e, List.filterMap_append]
  show _ ++ List.filterMap readS [s] = _
  rw [List.filterMap_cons, h]
  rfl
theorem filter_len {l : List Str} {i : Nat} : ((l.take i).filterMap readS).length ≤ i := by
  have h1 := List.length_filterMap_le readS (l.take i)
  rw [List.length_take] at h1
  omega
def spFRead (K : PySem.W.Frag) : Sp := fun vs H Q E => ∃ v, vs = [.ref (CF K), v] ∧ Kn K H v ∧ (∀ s, v = .str s → s.length ≤ 1000000) ∧ DueQ K H Q E (dueV v)
theorem ok_fread (T : Tx K mg) : FnR PP w K mg base (L2.CX PP w) 6 (a_Fence_read K) (spFRead K) := by
  have F_Fence_init := ok_finit (w := w) (base := base) T
  have F_Painter_read := ok_pread (w := w) (base := base) T
  refine fnR_of T.f_Fence_read sc_Fence_read (fun _ _ _ _ _ _ us hl => match us, hl with | [_, _], _ => rfl) (fun vs H Q E h => ?_) fun A outer s H vs Q E cdv hr h => ?_
  · obtain ⟨v, rfl, _⟩ := h
    rfl
  · obtain ⟨v, rfl, hv, hl, k⟩ := h
    refine ⟨_, (pss_cons (ps_if (pt_not (pt_val (pe_callB call_isi rfl T.n_isinstance (by decide +kernel) (pa_cons (pv 1) (pa_cons (pe_bltn (v := .ty "str") rfl T.n_str (by decide +kernel) rfl) pa_nil)))))
 (pss_one (Oc.ps_raise Oc.zc_mk rfl (L2.takes_of rfl rfl rfl rfl) (Ow.pmk_ox Ox.chain_VE T.x_ParseError (by have z := Ow.room1 hr; exact z) T.g_ParseError (pa_cons pe_int pa_nil) rfl)))
 pss_nil)
 (C8.pss_cut (ps_set (i := 2) sc_Fence_read.nd rfl (by first | exact Or.inl rfl | exact Or.inr rfl) (pe_lst pa_nil))
 (C8.pss_cut (ps_for (passes_of rfl) rfl (pi_enumA rfl T.n_enumerate (pa_cons (pe_ifExp (pt_cmpR (op_neUK (K := K) rfl hr.units) (pv 1) pe_str (nomark _)) (pe_split (pv 1) pe_str) (pe_lst pa_nil)) pa_nil)) (pg_tupK (K := K) (n := 2) rfl rfl (pgs_cons (pg_name (i := 3) sc_Fence_read.nd rfl (by first | exact Or.inl rfl | exact Or.inr rfl)) (pgs_cons (pg_name (i := 4) sc_Fence_read.nd rfl (by first | exact Or.inl rfl | exact Or.inr rfl)) pgs_nil)))
 (pss_one (Ow.ps_try_onlyB Ow.kindB rfl rfl ⟨rfl, by decide, .inl T.g_ParseError⟩ (L2H.passesAt_of rfl) (takesCB (L2.takes_of rfl rfl rfl rfl)) (fun W pn xe tk _ => (pss_one (ps_expr (pe_bmK (K := K) rfl PySem.F.plainAttrs_list PySem.F.slot_list_append PySem.F.type_list_append mt_append (pv 2) (pa_cons (pe_cmethW (pe_glob (v := .ref (He.ga K "Painter")) rfl T.g_Painter rfl) T.r_Painter T.cm_Painter_read F_Painter_read (hr.mono (by first | decide | omega)) (fun σ => passAtZ tk σ) (pa_cons (pv 4) pa_nil)) pa_nil))))) (fun a oe cls d pn _ _ _ up hot => (pss_one (Oc.ps_raise2 hot (up Oc.zC _ (L2.takes_of rfl rfl rfl rfl)) (Ow.pmk_ox Ox.chain_VE T.x_ParseError (by have z := Ow.room1 hr; exact z) T.g_ParseError (pa_cons (pv 3) pa_nil) rfl)))))))
 (pss_one (ps_ret (pe_makeV1 T.m_Fence F_Fence_init (hr.mono (by first | decide | omega)) (passZ (takesCN (L2.takes_of rfl rfl rfl rfl))) (pv 2) (pv 0))))))), ?_⟩
    try dsimp only [cxOf]
    walk_at "go"
    refine r_isi hv.kitS ⟨_, rfl, ?_⟩
    by_cases hs : isS v = true
    · rw [hs]
      obtain ⟨s, rfl⟩ : ∃ s, v = .str s := by
        cases v <;> try (cases hs)
        exact ⟨_, rfl⟩
      have hls : s.length ≤ 1000000 := hl s rfl
      have k : DueQ K H Q E (dueL (linesOf s)) := k
      obtain ⟨hw1, hw2⟩ := lines_weight s
      generalize hL : linesOf s = ls at k hw1 hw2
      walk_at "go"
      refine r_cut (fun σ' H' => ∃ q, σ' = [some (.ref (CF K)), some (.str s), some (.ref q), none, none] ∧ Gr H H' ∧ H q = none ∧ H' q = some (.lst [])) ?_ ?_
      · walk_at "go"
        refine ⟨by decide, fun q hq => ?_⟩
        walk_at "go"
        exact ⟨q, rfl, Gr.new hq, hq, upd_same⟩
      rintro σ1 H1 ⟨q, rfl, g1, hq0, hq1⟩
      refine r_cut (fun σ' H' => ∃ o3 o4 ps, σ' = [some (.ref (CF K)), some (.str s), some (.ref q), o3, o4] ∧ Gr H H' ∧ H' q = some (.lst ps) ∧ PsAt K H' ps (ls.filterMap readS) ∧ badFrom 0 ls = none) ?_ ?_
      · walk_at "go"
        refine r_lines (by show s.length + 2 ≤ 16777216; omega) rfl fun L H2 g2 hL0 hL2 => ?_
        rw [hL] at hL2
        walk_at "go"
        refine ⟨L, _, rfl, .inl ⟨SqL.of hL2, ?_⟩⟩
        have hqL : L ≠ q := (ne_of_none hq1 hL0).symm
        refine for_enumL (fun i σ' H' => ∃ o3 o4 ps, σ' = [some (.ref (CF K)), some (.str s), some (.ref q), o3, o4] ∧ Gr H H' ∧ H' q = some (.lst ps) ∧ PsAt K H' ps ((ls.take i).filterMap readS) ∧ H' L = some (.lst (ls.map V.str)) ∧ badFrom i (ls.drop i) = badFrom 0 ls)
          ⟨_, _, [], rfl, g1.trans g2, g2.e _ _ hq1, by rw [List.take_zero]; trivial, hL2, by rw [List.drop_zero]⟩ (fun i σ' H' hi ⟨_, _, _, _, _, _, _, h, _⟩ => SqL.of h) (fun i v σ' H' T1 hv ⟨o3, o4, ps, e, g, hq2, hps, hl2, hbad⟩ hT => ?_) fun σ' H' ⟨o3, o4, ps, e, g, hq2, hps, hl2, hbad⟩ => ?_
        · subst e
          rw [List.getElem?_map] at hv
          obtain ⟨li, hli, rfl⟩ := Option.map_eq_some_iff.mp hv
          have hlen := hw2 li (List.mem_of_getElem? hli)
          have g3 := Gr.new (o := .tup [.int (i : Nat), .str li]) hT
          refine r_gtup upd_same rfl ?_
          walk_at "go"
          refine ⟨ty_list (g3.e _ _ hq2), ?_⟩
          walk_at "go"
          refine ⟨rfl, ?_⟩
          walk_at "go"
          refine ⟨.str li, rfl, (by show li.length ≤ 16777216; omega), fun z hz => (by cases hz; show li.length + 2 ≤ 16777216; omega), fun r hr a H4 g4 ha hp => ?_, fun hn d H4 g4 hd h4 => ?_⟩
          · have g5 := g3.trans g4
            have hps4 := hps.ext g5.e
            walk_at "go"
            refine r_append (g5.e _ _ hq2) (by rw [hps.len]; have := filter_len (l := ls) (i := i); have := (List.getElem?_eq_some_iff.mp hli).1; show _ < 16777216; omega) ?_
            walk_at "go"
            refine ⟨_, _, _, rfl, (g.trans g5).mut hq0, upd_same, ?_, by rw [upd_ne hqL]; exact g5.e _ _ hl2, (bad_at hbad hli).2 r hr⟩
            rw [take_filterMap hli hr]
            exact PsAt.put (g5.e _ _ hq2) (hps4.snoc hp)
          · have eb := (bad_at hbad hli).1 hn
            unfold dueL at k
            rw [eb] at k
            refine ⟨true, T.xm_ParseError_ParseError, fun _ a ha => ?_, fun z => nomatch z⟩
            walk_at "go"
            exact fun d hd => Err.go k (g.trans (g3.trans g4)) hd
        · rw [List.length_map] at hps hbad
          rw [List.take_of_length_le (Nat.le_refl _)] at hps
          exact ⟨o3, o4, ps, e, g, hq2, hps, bad_end hbad⟩
      rintro σ2 H2 ⟨o3, o4, ps, rfl, g2, hq2, hps, hbad⟩
      unfold dueL at k
      rw [hbad] at k
      have hpl : ps.length < 16777216 := by
        rw [hps.len]
        have := List.length_filterMap_le readS ls
        omega
      walk_at "go"
      refine ⟨rfl, ?_⟩
      walk_at "go"
      refine ⟨q, ps, rfl, .inr (SqL.of hq2), fun x dx hx hdx hne => ?_⟩
      refine fence_made hps hpl hx hdx hne (fun hok H3 g3 h3 => ?_) (fun n hn => ?_) fun hn hm => ?_
      · have hnd := dup_nodup hok.2.1
        have k : DueQ K H Q E (match dup ((ls.filterMap readS).map Rw.nm) with | some n => .twice n | none => if 40 < (ls.filterMap readS).length then .many else .told (ls.filterMap readS)) := k
        rw [hnd] at k
        have k : DueQ K H Q E (if 40 < (ls.filterMap readS).length then .many else .told (ls.filterMap readS)) := k
        rw [if_neg (by have := hok.2.2.2; omega)] at k
        exact k x H3 hok (g2.trans g3) (g2.f _ hx) h3
      · have k : DueQ K H Q E (match dup ((ls.filterMap readS).map Rw.nm) with | some n => .twice n | none => if 40 < (ls.filterMap readS).length then .many else .told (ls.filterMap readS)) := k
        rw [hn] at k
        exact Err.gr k g2
      · have k : DueQ K H Q E (match dup ((ls.filterMap readS).map Rw.nm) with | some n => .twice n | none => if 40 < (ls.filterMap readS).length then .many else .told (ls.filterMap readS)) := k
        rw [hn] at k
        have k : DueQ K H Q E (if 40 < (ls.filterMap readS).length then .many else .told (ls.filterMap readS)) := k
        rw [if_pos hm] at k
        exact Err.gr k g2
    · have hs : isS v = false := by simpa using hs
      rw [hs]
      have e : dueV v = .parse 0 := by
        cases v <;> first | rfl | (cases hs)
      rw [e] at k
      walk_at "go"
      exact fun d hd => Err.go k (Gr.refl _) hd
end
end Tx

set_option maxRecDepth 100000
set_option maxHeartbeats 4000000
namespace Tx
open PySem PySem.Spec PyProof.Rows L2 My
section
variable {P : Program} {w : World} {K : PySem.W.Frag} {mg : Str → Option Value} {base : Heap}
/-! ### _law_pen -/
def spPen (K : PySem.W.Frag) : Sp := fun vs H Q _ => ∃ p, ∃ ns : List Int, vs = [.ref p] ∧ SqL K H p (ns.map V.int) ∧ ∀ z H1, Gr H H1 → Pen H1 z 0 → Q (.ref z.a) H1
theorem ok_pen (T : Tx K mg) : FnR P w K mg base (L2.CX P w) 1 (a_Lpen K) (spPen K) := by
  refine fnR_of T.f_Lpen sc_Lpen (fun _ _ _ _ _ _ us hl => match us, hl with | [_], _ => rfl) (fun vs H Q E h => ?_) fun A outer s H vs Q E cdv hr h => ?_
  · obtain ⟨p, ns, rfl, _⟩ := h
    rfl
  · obtain ⟨p, ns, rfl, hl, k⟩ := h
    refine ⟨_, (pss_one (ps_ret (pe_disp (pps_cons pe_str (pe_callTy call_list_of rfl T.n_list (by decide +kernel) (pa_cons (pe_slice (sl_anyK (K := K) rfl) (pv 0) po_none (po_some pe_int)) pa_nil)) (pps_cons pe_str pe_int (pps_cons pe_str pe_int pps_nil))) (by rfl) (by rfl) (fun z => by cases z) (by decide)))), ?_⟩
    try dsimp only [cxOf]
    walk_at "go"
    refine r_disp fun q hq => ?_
    have g1 := Gr.new (o := .dK []) hq
    have hq1 : (upd H q (.dK [])) q = some (.dK []) := upd_same
    generalize upd H q (.dK []) = H1 at g1 hq1 ⊢
    walk_at "go"
    refine r_slL (hl.ext g1.e) fun u hu => ?_
    have hcut : ∃ ns' : List Int, cutV (ns.map V.int) none (some 63) = ns'.map V.int := ⟨(ns.drop 0).take (HT.sIx (ns.map V.int).length (ns.map V.int).length (some 63) - 0), by
      unfold cutV
      rw [List.map_take, List.map_drop]
      rfl⟩
    obtain ⟨ns', hcut⟩ := hcut
    rw [hcut]
    have g2 := g1.then (o := .lst (ns'.map V.int)) hu
    have hq2 := (Gr.new (o := .lst (ns'.map V.int)) hu).e _ _ hq1
    walk_at "go"
    refine ⟨u, _, rfl, .inl (SqL.of upd_same), fun c hc => ?_⟩
    have g3 := g2.then (o := .lst (ns'.map V.int)) hc
    have hq3 := (Gr.new (o := .lst (ns'.map V.int)) hc).e _ _ hq2
    have hc3 : (upd (upd H1 u (.lst (ns'.map V.int))) c (.lst (ns'.map V.int))) c = some (.lst (ns'.map V.int)) := upd_same
    generalize upd (upd H1 u (.lst (ns'.map V.int))) c (.lst (ns'.map V.int)) = H3 at g3 hq3 hc3 ⊢
    walk_at "go"
    refine ⟨hq3, penKV c 0 0, rfl, (show 3 ≤ 15 by decide), ?_⟩
    have hcq : c ≠ q := ne_of hc3 hq3 (by intro z; cases z)
    exact k ⟨q, c, ns'⟩ _ (g3.mut hq) ⟨0, 0, ⟨upd_same, by rw [upd_ne hcq]; exact hc3⟩, by decide, by decide, by decide⟩
def spLLine (K : PySem.W.Frag) : Sp := fun vs H Q _ => ∃ p r, vs = [.ref p] ∧ H p = some (.tup (rowV r)) ∧ IsNm r.nm ∧ NumOk r ∧ ∀ H1, Gr H H1 → Q (.str (rowS r)) H1
theorem ok_lline (T : Tx K mg) : FnR P w K mg base (L2.CX P w) 1 (a_Lline K) (spLLine K) := by
  refine fnR_of T.f_Lline sc_Lline (fun _ _ _ _ _ _ us hl => match us, hl with | [_], _ => rfl) (fun vs H Q E h => ?_) fun A outer s H vs Q E cdv hr h => ?_
  · obtain ⟨p, r, rfl, _⟩ := h
    rfl
  · obtain ⟨p, r, rfl, hp, hnm, hno, k⟩ := h
    refine ⟨_, (pss_one (ps_ret (pe_join pe_str (pe_lc (own := [("_law_part", 1)]) rfl sc_Lline.nd (pi_anyK (K := K) rfl (pv 0)) (blkOk_by (own := [("_law_part", 1)]) (N := N_Lline) (sc := defScope s_Lline) (by decide +kernel)) (fun _ _ _ _ _ => (pg_name (i := 1) sc_Lline.nd rfl (by first | exact Or.inl rfl | exact Or.inr rfl))) (fun _ _ _ _ _ => pts_nil) (fun _ _ _ _ _ => (pe_callTy call_strU rfl T.n_str (by decide +kernel) (pa_cons (pv 1) pa_nil))))))), ?_⟩
    try dsimp only [cxOf]
    walk_at "go"
    refine r_iT ?_
    walk_at "go"
    refine ⟨_, rfl, ⟨_, SqT.of hp⟩, fun D hD => ?_⟩
    have hno' := hno
    obtain ⟨a1, a2, a3, a4, a5, a6, a7⟩ := hno'
    refine lc_tup (xs := rowV r) (fun i H' => Gr H H' ∧ H' D = some (.lst (([r.nm, tS r.day, tS r.post, tS r.pace].take i).map V.str))) ⟨Gr.new hD, upd_same⟩ (fun i H' hi ⟨g, _⟩ => SqT.of (g.e _ _ hp)) (fun i v H' hv ⟨g, hd⟩ => ?_) fun H' ⟨g, hd⟩ => ?_
    · walk_at "go"
      refine ⟨rfl, ?_⟩
      walk_at "go"
      have hc : (i = 0 ∧ v = .str r.nm) ∨ (i = 1 ∧ v = .int r.day) ∨ (i = 2 ∧ v = .int r.post) ∨ (i = 3 ∧ v = .int r.pace) := by
        match i, hv with
        | 0, h => exact .inl ⟨rfl, by simpa [rowV] using h.symm⟩
        | 1, h => exact .inr (.inl ⟨rfl, by simpa [rowV] using h.symm⟩)
        | 2, h => exact .inr (.inr (.inl ⟨rfl, by simpa [rowV] using h.symm⟩))
        | 3, h => exact .inr (.inr (.inr ⟨rfl, by simpa [rowV] using h.symm⟩))
        | n + 4, h => simp [rowV] at h
      rcases hc with ⟨rfl, rfl⟩ | ⟨rfl, rfl⟩ | ⟨rfl, rfl⟩ | ⟨rfl, rfl⟩
      · refine r_strS ⟨_, hd, by simp; decide, g.mut hD, upd_same⟩
      · refine r_strI (log_small (by omega) (by omega)) ⟨_, hd, by simp; decide, g.mut hD, upd_same⟩
      · refine r_strI (log_small (by omega) (by omega)) ⟨_, hd, by simp; decide, g.mut hD, upd_same⟩
      · refine r_strI (log_small (by omega) (by omega)) ⟨_, hd, by simp; decide, g.mut hD, upd_same⟩
    · walk_at "go"
      have l0 := hnm.2.1
      have l1 := tS_small (i := r.day) (k := 31) (by omega) (by omega) (by decide)
      have l2 := tS_small (i := r.post) (k := 31) (by omega) (by omega) (by decide)
      have l3 := tS_small (i := r.pace) (k := 31) (by omega) (by omega) (by decide)
      have e1 : (" " : Str).length = 1 := by decide
      refine ⟨_, D, [r.nm, tS r.day, tS r.post, tS r.pace], rfl, rfl, .inl (SqL.of hd), ?_, k _ g⟩
      simp only [List.map_cons, List.map_nil, List.sum_cons, List.sum_nil, List.length_cons, List.length_nil, e1]
      omega
/-- rows of a list that may be longer than a fence -/
def RowsW (rs : List Rw) : Prop := NumsOk rs ∧ (∀ r ∈ rs, IsNm r.nm) ∧ rs.length ≤ 50
theorem RowsW.of {rs : List Rw} (h : RowsOk rs) : RowsW rs := ⟨h.1, h.2.2.1, Nat.le_trans h.2.2.2 (by decide)⟩
theorem fence_sumW {rs : List Rw} (h : RowsW rs) : ((rs.map rowS).map (·.length)).sum ≤ 7000 := by
  have h1 := sum_bound (l := (rs.map rowS).map (·.length)) (b := 140) fun x hx => by
    obtain ⟨s, hs, rfl⟩ := List.mem_map.mp hx
    obtain ⟨r, hr, rfl⟩ := List.mem_map.mp hs
    exact (row_len (h.2.1 r hr) (h.1 r hr)).2
  rw [List.length_map, List.length_map] at h1
  have := h.2.2
  omega
theorem fence_lenW {rs : List Rw} (h : RowsW rs) : (fenceS rs).length ≤ 8000 := by
  rw [← cl_len]
  unfold fenceS
  rw [cl_join]
  have h1 := jn_len (c := cl "\n") (by decide) ((rs.map rowS).map cl)
  have h2 := fence_sumW h
  have h3 := h.2.2
  have e : ((rs.map rowS).map cl).map List.length = (rs.map rowS).map (·.length) := by
    rw [List.map_map]
    exact List.map_congr_left fun s _ => cl_len s
  rw [e, List.length_map, List.length_map] at h1
  omega
def spLText (K : PySem.W.Frag) : Sp := fun vs H Q _ => ∃ p vs' rs, vs = [.ref p] ∧ SqL K H p vs' ∧ RowsAt H vs' rs ∧ RowsW rs ∧ ∀ H1, Gr H H1 → Q (.str (fenceS rs)) H1
theorem ok_ltext (T : Tx K mg) : FnR P w K mg base (L2.CX P w) 2 (a_Lfence_text K) (spLText K) := by
  have F_Lline := ok_lline (P := P) (w := w) (base := base) T
  refine fnR_of T.f_Lfence_text sc_Lfence_text (fun _ _ _ _ _ _ us hl => match us, hl with | [_], _ => rfl) (fun vs H Q E h => ?_) fun A outer s H vs Q E cdv hr h => ?_
  · obtain ⟨p, vs, rs, rfl, _⟩ := h
    rfl
  · obtain ⟨p, ws, rs, rfl, hl, hrow, hok, k⟩ := h
    refine ⟨_, (pss_one (ps_ret (pe_join pe_str (pe_lc (own := [("_law_painter", 1)]) rfl sc_Lfence_text.nd (pi_anyK (K := K) rfl (pv 0)) (blkOk_by (own := [("_law_painter", 1)]) (N := N_Lfence_text) (sc := defScope s_Lfence_text) (by decide +kernel)) (fun _ _ _ _ _ => (pg_name (i := 1) sc_Lfence_text.nd rfl (by first | exact Or.inl rfl | exact Or.inr rfl))) (fun _ _ _ _ _ => pts_nil) (fun _ _ _ _ _ => (pe_callR F_Lline (hr.mono (by first | decide | omega)) T.k_Lline rfl T.g__law_line passL (pa_cons (pv 1) pa_nil))))))), ?_⟩
    try dsimp only [cxOf]
    walk_at "go"
    refine r_iL ?_
    walk_at "go"
    refine ⟨_, rfl, ⟨_, hl⟩, fun D hD => ?_⟩
    refine lc_list (xs := ws) (fun i H' => Gr H H' ∧ H' D = some (.lst (((rs.map rowS).take i).map V.str))) ⟨Gr.new hD, upd_same⟩ (fun i H' hi ⟨g, _⟩ => hl.ext g.e) (fun i v H' hv ⟨g, hd⟩ => ?_) fun H' ⟨g, hd⟩ => ?_
    · obtain ⟨t, r, hri, rfl, ht⟩ := hrow.at hv
      have hrm := List.mem_of_getElem? hri
      walk_at "go"
      refine ⟨rfl, ?_⟩
      walk_at "go"
      refine ⟨t, r, rfl, g.e _ _ ht, hok.2.1 r hrm, hok.1 r hrm, fun H3 g3 => ⟨_, g3.e _ _ hd, by rw [List.length_map, List.length_take, List.length_map]; have := hok.2.2; show _ < 16777216; omega, (g.trans g3).mut hD, ?_⟩⟩
      rw [upd_same, List.take_add_one, List.getElem?_map, hri]
      simp
    · walk_at "go"
      have hd : H' D = some (.lst ((rs.map rowS).map V.str)) := by rw [hd, List.take_of_length_le (by rw [List.length_map, hrow.len]; exact Nat.le_refl _)]
      refine ⟨_, D, rs.map rowS, rfl, rfl, .inl (SqL.of hd), ?_, k _ g⟩
      have hs := fence_sumW hok
      have e1 : ("\n" : Str).length = 1 := by decide
      rw [e1, List.length_map]
      have := hok.2.2
      omega

/-! ### _law_is_name -/
theorem filt_snoc {l : List Nat} {i c : Nat} {f : Nat → Bool} (h : l[i]? = some c) : ((l.take (i + 1)).filter f).map (fun c => V.str ⟨#[c]⟩) = if f c = true then ((l.take i).filter f).map (fun c => V.str ⟨#[c]⟩) ++ [V.str ⟨#[c]⟩] else ((l.take i).filter f).map (fun c => V.str ⟨#[c]⟩) := by
  rw [List.take_add_one, h, List.filter_append, List.map_append]
  show _ ++ List.map _ (List.filter f [c]) = _
  by_cases e : f c = true
  · rw [if_pos e, List.filter_cons_of_pos e]
    rfl
  · rw [if_neg e, List.filter_cons_of_neg e]
    simp
theorem filt_le {l : List Nat} {i : Nat} {f : Nat → Bool} : (((l.take i).filter f).map (fun c => V.str ⟨#[c]⟩)).length ≤ i := by
  rw [List.length_map]
  have h1 := List.length_filter_le f (l.take i)
  rw [List.length_take] at h1
  omega
theorem filt_emp {l : List Nat} {z : List Nat} : ((l.filter fun c => !decide (c ∈ z)).map (fun c => V.str ⟨#[c]⟩)).isEmpty = l.all fun c => decide (c ∈ z) := by
  induction l with
  | nil => rfl
  | cons c r ih =>
    rw [List.all_cons]
    by_cases e : c ∈ z
    · rw [List.filter_cons_of_neg (by simp [e]), ih, decide_eq_true e, Bool.true_and]
    · rw [List.filter_cons_of_pos (by simp [e]), decide_eq_false e]
      rfl
/-- the signs of a text that lie not in another one -/
theorem bad_turn {s Z : Str} {H H' : Hp} {D : Addr} {i c j : Nat} {σ : L2.St} (P : Hp → Prop) (hj : σ[j]? = some (some (.str ⟨#[c]⟩))) (hs : s.length ≤ sizeLine) (hc : s.cps.toList[i]? = some c) (g : Gr H H') (hD : H D = none) (hl : H' D = some (.lst (((cl s).take i |>.filter fun c => !decide (c ∈ Z.cps.toList)).map fun c => V.str ⟨#[c]⟩)))
    (k : ∀ H2, Gr H H2 → H2 D = some (.lst (((cl s).take (i + 1) |>.filter fun c => !decide (c ∈ Z.cps.toList)).map fun c => V.str ⟨#[c]⟩)) → P H2) :
    if (!decide (c ∈ Z.cps.toList)) = true then tVar j σ H' (fun y H4 => ∃ acc, H4 D = some (.lst acc) ∧ acc.length < sizeLine ∧ P (upd H4 D (.lst (acc ++ [y])))) else P H' := by
  have e := filt_snoc (f := fun c => !decide (c ∈ Z.cps.toList)) (show (cl s)[i]? = some c from hc)
  have hi : i < s.length := by
    have := (List.getElem?_eq_some_iff.mp hc).1
    have e9 : s.cps.toList.length = s.length := cl_len s
    omega
  by_cases h : (!decide (c ∈ Z.cps.toList)) = true
  · rw [if_pos h] at e ⊢
    refine ⟨_, hj, _, hl, Nat.lt_of_le_of_lt filt_le (Nat.lt_of_lt_of_le hi hs), k _ (g.mut hD) ?_⟩
    rw [upd_same, e]
  · rw [if_neg h] at e ⊢
    refine k _ g ?_
    rw [hl, e]
def spLName (K : PySem.W.Frag) : Sp := fun vs H Q _ => ∃ v, vs = [v] ∧ Kn K H v ∧ ∀ H', Gr H H' → Q (.bl (nmV v)) H'
theorem ok_lname (T : Tx K mg) : FnR P w K mg base (L2.CX P w) 1 (a_Lis_name K) (spLName K) := by
  refine fnR_of T.f_Lis_name sc_Lis_name (fun _ _ _ _ _ _ us hl => match us, hl with | [_], _ => rfl) (fun vs H Q E h => ?_) fun A outer s H vs Q E cdv hr h => ?_
  · obtain ⟨v, rfl, _⟩ := h
    rfl
  · obtain ⟨v, rfl, hv, k⟩ := h
    refine ⟨_, (pss_cons (ps_if (PW.pt (pw_or (pt_not (pt_val (pe_callB call_isi rfl T.n_isinstance (by decide +kernel) (pa_cons (pv 0) (pa_cons (pe_bltn (v := .ty "str") rfl T.n_str (by decide +kernel) rfl) pa_nil))))) (pw_or1 (pt_not (pt_chain op_lt op_lt pe_int (pe_callB (call_lenUK (K := K) rfl) rfl T.n_len (by decide +kernel) (pa_cons (pv 0) pa_nil)) pe_int)))))
 (pss_one (ps_ret pe_bl))
 pss_nil)
 (pss_one (ps_ret (pe_cmpR (op_eq0 (K := K) rfl hr.units0) (pe_lc (own := [("_law_letter", 1)]) rfl sc_Lis_name.nd (pi_anyK (K := K) rfl (pv 0)) (blkOk_by (own := [("_law_letter", 1)]) (N := N_Lis_name) (sc := defScope s_Lis_name) (by decide +kernel)) (fun _ _ _ _ _ => (pg_name (i := 1) sc_Lis_name.nd rfl (by first | exact Or.inl rfl | exact Or.inr rfl))) (fun _ _ _ _ _ => (pts_one (pt_cmpR op_nsgn (pv 1) pe_str (by rfl)))) (fun _ _ _ _ _ => (pv 1))) (pe_lst pa_nil) (nomark _))))), ?_⟩
    try dsimp only [cxOf]
    walk_at "go"
    refine r_isi hv.kitS ⟨_, rfl, ?_⟩
    by_cases hs : isS v = true
    · rw [hs]
      obtain ⟨s, rfl⟩ : ∃ s, v = .str s := by
        cases v <;> try (cases hs)
        exact ⟨_, rfl⟩
      have hl : s.length ≤ sizeLine := hv
      have k : ∀ H', Gr H H' → Q (.bl (nmB s)) H' := k
      refine r_iteF ?_
      walk_at "go"
      refine r_lenS hl ?_
      walk_at "go"
      refine r_iteD (fun h1 => ?_) fun h1 => ?_
      · walk_at "go"
        refine r_iteN (fun h2 => ?_) fun h2 => ?_
        · walk_at "go"
          have e : nmB s = false := by
            unfold nmB
            rw [decide_eq_false (show ¬ s.length ≤ 8 by omega)]
            simp
          rw [e] at k
          exact k _ (Gr.refl _)
        · walk_at "go"
          refine r_iS ?_
          walk_at "go"
          refine ⟨_, rfl, fun D hD => ?_⟩
          refine lc_txt (fun i H' => Gr H H' ∧ H' D = some (.lst (((cl s).take i |>.filter fun c => !decide (c ∈ lettersS.cps.toList)).map fun c => V.str ⟨#[c]⟩))) ⟨Gr.new hD, upd_same⟩ (fun i c H' hc ⟨g, hd⟩ => ?_) fun H' ⟨g, hd⟩ => ?_
          · walk_at "go"
            refine ⟨rfl, ?_⟩
            walk_at "go"
            exact bad_turn (Z := lettersS) (fun H2 => Gr H H2 ∧ H2 D = some (.lst (((cl s).take (i + 1) |>.filter fun c => !decide (c ∈ lettersS.cps.toList)).map fun c => V.str ⟨#[c]⟩))) rfl hl hc g hD hd fun H2 g2 h2 => ⟨g2, h2⟩
          · walk_at "go"
            rw [List.take_of_length_le (Nat.le_of_eq (cl_len s))] at hd
            refine ⟨by decide, fun q hq => ?_⟩
            walk_at "go"
            refine r_eq0 (SqL.of ((Gr.new hq).e _ _ hd)) (SqL.of upd_same) ?_
            rw [filt_emp]
            have e : nmB s = (cl s).all fun c => decide (c ∈ lettersS.cps.toList) := by
              unfold nmB
              rw [decide_eq_true (show 1 ≤ s.length by omega), decide_eq_true (show s.length ≤ 8 by omega)]
              rfl
            rw [← e]
            exact k _ (g.then hq)
      · walk_at "go"
        have e : nmB s = false := by
          unfold nmB
          rw [decide_eq_false (show ¬ 1 ≤ s.length by omega)]
          rfl
        rw [e] at k
        exact k _ (Gr.refl _)
    · have hs : isS v = false := by simpa using hs
      rw [hs]
      have e : nmV v = false := by
        cases v <;> first | rfl | (cases hs)
      rw [e] at k
      refine r_iteT ?_
      walk_at "go"
      exact k _ (Gr.refl _)
/-! ### _law_integer_in -/
theorem ok_lint (T : Tx K mg) : FnR P w K mg base (L2.CX P w) 1 (a_Linteger_in K) spIntIn := by
  refine fnR_of T.f_Linteger_in sc_Linteger_in (fun _ _ _ _ _ _ us hl => match us, hl with | [_], _ => rfl) (fun vs H Q E h => ?_) fun A outer s H vs Q E cdv hr h => ?_
  · obtain ⟨s, rfl, _⟩ := h
    rfl
  · obtain ⟨s, rfl, hl, k⟩ := h
    refine ⟨_, (C8.pss_cut (ps_set (i := 1) sc_Linteger_in.nd rfl (by first | exact Or.inl rfl | exact Or.inr rfl) (pe_ifExp (pt_cmpR (op_eqUK (K := K) rfl hr.units) (pe_slice (sl_anyK (K := K) rfl) (pv 0) po_none (po_some pe_int)) pe_str (nomark _)) (pe_slice (sl_anyK (K := K) rfl) (pv 0) (po_some pe_int) po_none) (pv 0)))
 (pss_cons (ps_if (pt_not (pt_chain op_lt op_lt pe_int (pe_callB (call_lenUK (K := K) rfl) rfl T.n_len (by decide +kernel) (pa_cons (pv 1) pa_nil)) pe_int))
 (pss_one (ps_ret pe_non))
 pss_nil)
 (pss_cons (ps_if (pt_cmpR (op_ne0 (K := K) rfl hr.units0) (pe_lc (own := [("_law_digit", 2)]) rfl sc_Linteger_in.nd (pi_anyK (K := K) rfl (pv 1)) (blkOk_by (own := [("_law_digit", 2)]) (N := N_Linteger_in) (sc := defScope s_Linteger_in) (by decide +kernel)) (fun _ _ _ _ _ => (pg_name (i := 2) sc_Linteger_in.nd rfl (by first | exact Or.inl rfl | exact Or.inr rfl))) (fun _ _ _ _ _ => (pts_one (pt_cmpR op_nsgn (pv 2) pe_str (by rfl)))) (fun _ _ _ _ _ => (pv 2))) (pe_lst pa_nil) (nomark _))
 (pss_one (ps_ret pe_non))
 pss_nil)
 (pss_cons (ps_if (PW.pt (pw_and (pt_cmpR (op_eqUK (K := K) rfl hr.units) (pe_ix (ix_seqK (K := K) rfl) (pv 1) pe_int (fun _ _ => rfl)) pe_str (nomark _)) (pw_and1 (pt_cmpR (op_neUK (K := K) rfl hr.units) (pv 0) pe_str (nomark _)))))
 (pss_one (ps_ret pe_non))
 pss_nil)
 (pss_one (ps_ret (pe_callTy call_intU rfl T.n_int (by decide +kernel) (pa_cons (pv 0) pa_nil)))))))), ?_⟩
    try dsimp only [cxOf]
    refine r_cut (fun σ' H' => σ' = [some (.str s), some (.str (dgs s)), none] ∧ H = H') ?_ ?_
    · walk_at "go"
      refine r_slS hl ?_
      walk_at "go"
      refine r_iteD (fun h1 => ?_) fun h1 => ?_
      · walk_at "go"
        refine r_slS hl ?_
        walk_at "go"
        exact ⟨by unfold dgs; rw [if_pos h1]; rfl, rfl⟩
      · walk_at "go"
        exact ⟨by unfold dgs; rw [if_neg h1]; rfl, rfl⟩
    · rintro σ' H' ⟨rfl, rfl⟩
      have hd : (dgs s).length ≤ sizeLine := by
        unfold dgs
        split
        · exact Nat.le_trans (cutS_length s _ _) hl
        · exact hl
      have bad : ∀ H1, inOk 80 s = false → Gr H H1 → Q .non H1 := fun H1 h g => by
        have k := k H1 g
        unfold intIn at k
        rw [h] at k
        exact k
      walk_at "go"
      refine r_lenS hd ?_
      walk_at "go"
      refine r_iteD (fun h1 => ?_) fun h1 => ?_
      · walk_at "go"
        refine r_iteN (fun h2 => ?_) fun h2 => ?_
        · walk_at "go"
          refine bad _ ?_ (Gr.refl _)
          unfold inOk
          rw [decide_eq_false (show ¬ ((dgs s).length : Int) ≤ 80 by omega)]
          simp
        · walk_at "go"
          refine r_iS ?_
          walk_at "go"
          refine ⟨_, rfl, fun D hD => ?_⟩
          refine lc_txt (fun i H' => Gr H H' ∧ H' D = some (.lst (((cl (dgs s)).take i |>.filter fun c => !decide (c ∈ digitsS.cps.toList)).map fun c => V.str ⟨#[c]⟩))) ⟨Gr.new hD, upd_same⟩ (fun i c H' hc ⟨g, hl2⟩ => ?_) fun H' ⟨g, hl2⟩ => ?_
          · walk_at "go"
            refine ⟨rfl, ?_⟩
            walk_at "go"
            exact bad_turn (Z := digitsS) (fun H2 => Gr H H2 ∧ H2 D = some (.lst (((cl (dgs s)).take (i + 1) |>.filter fun c => !decide (c ∈ digitsS.cps.toList)).map fun c => V.str ⟨#[c]⟩))) rfl hd hc g hD hl2 fun H2 g2 h2 => ⟨g2, h2⟩
          · walk_at "go"
            rw [List.take_of_length_le (Nat.le_of_eq (cl_len (dgs s)))] at hl2
            refine ⟨by decide, fun q hq => ?_⟩
            walk_at "go"
            refine r_ne0 (SqL.of ((Gr.new hq).e _ _ hl2)) (SqL.of upd_same) ?_
            rw [filt_emp]
            have g := g.then (o := .lst []) hq
            generalize upd H' q (.lst []) = H5 at g
            cases hall : (cl (dgs s)).all fun c => decide (c ∈ digitsS.cps.toList) with
            | false =>
              walk_at "go"
              refine bad _ ?_ g
              unfold inOk
              rw [hall]
              simp
            | true =>
              walk_at "go"
              have c0 : ∃ c0, atI (dgs s).cps.toList 0 = some c0 ∧ (cl (dgs s)).head? = some c0 := by
                have hlen : (cl (dgs s)).length = (dgs s).length := cl_len _
                cases hc : cl (dgs s) with
                | nil => rw [hc] at hlen; simp at hlen; omega
                | cons c0 r => exact ⟨c0, by show atI (cl (dgs s)) 0 = _; rw [hc]; exact atI_nat (j := 0) rfl, rfl⟩
              obtain ⟨c0, hat, hhd⟩ := c0
              refine r_ixS hd hat ?_
              walk_at "go"
              have fin : ∀ H1, Gr H H1 → inOk 80 s = true → rIntU [.str s] H1 Q := fun H1 g h => by
                obtain ⟨hl3, n, hn⟩ := inOk_text h (by decide)
                have k := k H1 g
                unfold intIn at k
                rw [if_pos h, hn] at k
                exact .inr ⟨s, n, rfl, hn, hl3, k⟩
              have z48 : (⟨#[c0]⟩ : Str) = "0" ↔ c0 = 48 := by
                have e : cl "0" = [48] := by decide
                constructor
                · intro h
                  have := congrArg cl h
                  rw [e, cl_one] at this
                  simpa using this
                · intro h
                  exact cl_inj (by rw [e, cl_one, h])
              refine r_iteD (fun h3 => ?_) fun h3 => ?_
              · walk_at "go"
                refine r_iteN (fun h4 => ?_) fun h4 => ?_
                · walk_at "go"
                  refine bad _ ?_ g
                  unfold inOk
                  rw [hhd, z48.mp h3, decide_eq_false h4]
                  simp
                · walk_at "go"
                  refine fin _ g ?_
                  unfold inOk
                  rw [hall, decide_eq_true (show 1 ≤ ((dgs s).length : Int) by omega), decide_eq_true (show ((dgs s).length : Int) ≤ 80 by omega), decide_eq_true h4]
                  simp
              · walk_at "go"
                refine fin _ g ?_
                unfold inOk
                rw [hall, decide_eq_true (show 1 ≤ ((dgs s).length : Int) by omega), decide_eq_true (show ((dgs s).length : Int) ≤ 80 by omega), hhd, decide_eq_false (show ¬ (some c0 = some 48) from fun h => h3 (z48.mpr (by simpa using h)))]
                simp
      · walk_at "go"
        refine bad _ ?_ (Gr.refl _)
        unfold inOk
        rw [decide_eq_false (show ¬ 1 ≤ ((dgs s).length : Int) by omega)]
        rfl
end
end Tx

set_option maxRecDepth 100000
set_option maxHeartbeats 4000000
namespace Tx
open PySem PySem.Spec PyProof.Rows L2 My
section
variable {P : Program} {w : World} {K : PySem.W.Frag} {mg : Str → Option Value} {base : Heap}
/-! ### _law_odd -/
def OddV (K : PySem.W.Frag) (H : Hp) (v : V) : Prop := Kn K H v ∧ (∀ s, v = .str s → s.length ≤ 20) ∧ ∀ a, v = .ref a → ∃ o, H a = some o ∧ penlike o = false
theorem OddV.ext {H H' : Hp} {v : V} (h : OddV K H v) (e : Ext H H') : OddV K H' v := ⟨h.1.ext e, h.2.1, fun a ha => by
  obtain ⟨o, h1, h2⟩ := h.2.2 a ha
  exact ⟨o, e _ _ h1, h2⟩⟩
theorem odd_i {H : Hp} {i : Int} : OddV K H (.int i) := ⟨trivial, fun _ z => (nomatch z), fun _ z => (nomatch z)⟩
theorem odd_b {H : Hp} {b : Bool} : OddV K H (.bl b) := ⟨trivial, fun _ z => (nomatch z), fun _ z => (nomatch z)⟩
theorem odd_n {H : Hp} : OddV K H .non := ⟨trivial, fun _ z => (nomatch z), fun _ z => (nomatch z)⟩
theorem odd_s {H : Hp} {s : Str} (h : s.length ≤ 20) : OddV K H (.str s) := ⟨(by show s.length ≤ 16777216; omega), fun _ z => (by cases z; exact h), fun _ z => (nomatch z)⟩
theorem odd_t {H : Hp} {p : Addr} {xs : List V} (h : H p = some (.tup xs)) : OddV K H (.ref p) := ⟨⟨"tuple", .base (.tup h), .inr (.inl rfl)⟩, fun _ z => (nomatch z), fun _ z => (by cases z; exact ⟨_, h, rfl⟩)⟩
theorem odd_l {H : Hp} {p : Addr} {xs : List V} (h : H p = some (.lst xs)) : OddV K H (.ref p) := ⟨⟨"list", .base (.lst h), .inl rfl⟩, fun _ z => (nomatch z), fun _ z => (by cases z; exact ⟨_, h, rfl⟩)⟩
theorem odd_d {H : Hp} {p : Addr} {xs : List (Key × V)} (h : H p = some (.dK xs)) (np : penlike (.dK xs) = false) : OddV K H (.ref p) := ⟨⟨"dict", .base (.dK h), .inr (.inr rfl)⟩, fun _ z => (nomatch z), fun _ z => (by cases z; exact ⟨_, h, np⟩)⟩
def OddL (K : PySem.W.Frag) (H : Hp) (xs : List V) : Prop := ∀ v ∈ xs, OddV K H v
theorem OddL.nil {H : Hp} : OddL K H [] := fun _ h => (List.not_mem_nil h).elim
theorem OddL.cons {H : Hp} {v : V} {xs : List V} (h : OddV K H v) (r : OddL K H xs) : OddL K H (v :: xs) := fun x hx => by
  rcases List.mem_cons.mp hx with rfl | hx
  · exact h
  · exact r x hx
theorem OddL.app {H : Hp} {xs ys : List V} (h : OddL K H xs) (r : OddL K H ys) : OddL K H (xs ++ ys) := fun x hx => by
  rcases List.mem_append.mp hx with hx | hx
  · exact h x hx
  · exact r x hx
theorem OddL.ext {H H' : Hp} {xs : List V} (h : OddL K H xs) (e : Ext H H') : OddL K H' xs := fun x hx => (h x hx).ext e
theorem OddV.kp {H H' : Hp} {v : V} (h : OddV K H v) (k : Kp H H') : OddV K H' v := by
  obtain ⟨h1, h2, h3⟩ := h
  have st : ∀ a, v = .ref a → ∀ o, H a = some o → H' a = some o := fun a ha o ho => by
    obtain ⟨o', e1, e2⟩ := h3 a ha
    rw [ho] at e1
    cases e1
    exact k.k _ _ e2 ho
  refine ⟨?_, h2, fun a ha => by
    obtain ⟨o, e1, e2⟩ := h3 a ha
    exact ⟨o, k.k _ _ e2 e1, e2⟩⟩
  cases v with
  | ref a =>
    obtain ⟨T, hT, h4⟩ := h1
    refine ⟨T, ?_, h4⟩
    have st := st a rfl
    cases hT with
    | base b => cases b with
      | lst h => exact .base (.lst (st _ h))
      | frz h => exact .base (.frz (st _ h))
      | tup h => exact .base (.tup (st _ h))
      | dK h => exact .base (.dK (st _ h))
      | dT h => exact .base (.dT (st _ h))
    | kList h c => exact .kList h c
    | kTuple h c => exact .kTuple h c
    | kDict h c => exact .kDict h c
    | fTuple h => exact .fTuple (st _ h)
    | fDict h => exact .fDict (st _ h)
    | set h => exact .set (st _ h)
  | _ => exact h1
theorem pow_small : (10 : Int) ^ 50 = 100000000000000000000000000000000000000000000000000 := by decide
def spOdd (K : PySem.W.Frag) : Sp := fun vs H Q _ => ∃ z n, vs = [.ref (PenI.a z)] ∧ Pen H z n ∧ n + 10 ≤ 10 ^ 17 ∧ Aft z H n 5 (fun v H1 => OddV K H1 v) Q
theorem ok_odd (T : Tx K mg) : FnR P w K mg base (L2.CX P w) 7 (a_Lodd K) (spOdd K) := by
  have F_Lpick := ok_pick (P := P) (w := w) (base := base) T
  refine fnR_of T.f_Lodd sc_Lodd (fun _ _ _ _ _ _ us hl => match us, hl with | [_], _ => rfl) (fun vs H Q E h => ?_) fun A outer s H vs Q E cdv hr h => ?_
  · obtain ⟨z, n, rfl, _⟩ := h
    rfl
  · obtain ⟨z, n, rfl, hp, hn, k⟩ := h
    refine ⟨_, (pss_cons (ps_set (i := 1) sc_Lodd.nd rfl (by first | exact Or.inl rfl | exact Or.inr rfl) (pe_lst (pa_cons pe_non (pa_cons pe_bl (pa_cons pe_bl (pa_cons pe_int (pa_cons pe_int (pa_cons (pe_un un_neg pe_int) (pa_cons pe_int (pa_cons pe_int (pa_cons (pe_op (op_addUK (K := K) rfl) (pe_op op_pow pe_int pe_int) pe_int) (pa_cons (pe_op op_pow pe_int pe_int) (pa_cons (pe_op (op_addUK (K := K) rfl) (pe_op op_pow pe_int pe_int) pe_int) (pa_cons (pe_op op_sub (pe_un un_neg (pe_op op_pow pe_int pe_int)) pe_int) pa_nil))))))))))))))
 (pss_cons (ps_set (i := 1) sc_Lodd.nd rfl (by first | exact Or.inl rfl | exact Or.inr rfl) (pe_op (op_addUK (K := K) rfl) (pv 1) (pe_lst (pa_cons (pe_op op_mulW (pe_op op_pow pe_int pe_int) (pe_op op_pow pe_int pe_int)) (pa_cons pe_str (pa_cons pe_str (pa_cons pe_str (pa_cons pe_str (pa_cons pe_str (pa_cons pe_str (pa_cons (pe_tup pa_nil) (pa_cons (pe_lst pa_nil) (pa_cons pe_dnewK (pa_cons (pe_tup (pa_cons pe_str pa_nil)) (pa_cons (pe_lst (pa_cons pe_str pa_nil)) (pa_cons (pe_tup (pa_cons pe_int (pa_cons pe_int pa_nil))) pa_nil))))))))))))))))
 (pss_one (ps_ret (pe_callR F_Lpick (hr.mono (by first | decide | omega)) T.k_Lpick rfl T.g__law_pick passL (pa_cons (pv 0) (pa_cons (pe_op (op_addUK (K := K) rfl) (pv 1) (pe_lst (pa_cons (pe_disp (pps_cons pe_str pe_int pps_nil) (by rfl) (by rfl) (fun z => by cases z) (by decide)) (pa_cons (pe_lst (pa_cons pe_non pa_nil)) pa_nil)))) pa_nil))))))), ?_⟩
    try dsimp only [cxOf]
    walk_at "go"
    refine ⟨by decide, fun p1 h1 => ?_⟩
    have g1 := Gr.new (o := .lst [V.non, V.bl true, V.bl false, V.int 0, V.int 1, V.int (-1), V.int 2, V.int 7, V.int (10 ^ Int.toNat 18 + 1), V.int (10 ^ Int.toNat 30), V.int (10 ^ Int.toNat 30 + 1), V.int (-10 ^ Int.toNat 30 - 1)]) h1
    have o1 : OddL K (upd H p1 (.lst [V.non, V.bl true, V.bl false, V.int 0, V.int 1, V.int (-1), V.int 2, V.int 7, V.int (10 ^ Int.toNat 18 + 1), V.int (10 ^ Int.toNat 30), V.int (10 ^ Int.toNat 30 + 1), V.int (-10 ^ Int.toNat 30 - 1)])) [V.non, V.bl true, V.bl false, V.int 0, V.int 1, V.int (-1), V.int 2, V.int 7, V.int (10 ^ Int.toNat 18 + 1), V.int (10 ^ Int.toNat 30), V.int (10 ^ Int.toNat 30 + 1), V.int (-10 ^ Int.toNat 30 - 1)] := by
      repeat (refine OddL.cons (by first | exact odd_n | exact odd_b | exact odd_i) ?_)
      exact OddL.nil
    have l1 : [V.non, V.bl true, V.bl false, V.int 0, V.int 1, V.int (-1), V.int 2, V.int 7, V.int (10 ^ Int.toNat 18 + 1), V.int (10 ^ Int.toNat 30), V.int (10 ^ Int.toNat 30 + 1), V.int (-10 ^ Int.toNat 30 - 1)].length = 12 := rfl
    have e1 : (upd H p1 (.lst [V.non, V.bl true, V.bl false, V.int 0, V.int 1, V.int (-1), V.int 2, V.int 7, V.int (10 ^ Int.toNat 18 + 1), V.int (10 ^ Int.toNat 30), V.int (10 ^ Int.toNat 30 + 1), V.int (-10 ^ Int.toNat 30 - 1)])) p1 = some (.lst [V.non, V.bl true, V.bl false, V.int 0, V.int 1, V.int (-1), V.int 2, V.int 7, V.int (10 ^ Int.toNat 18 + 1), V.int (10 ^ Int.toNat 30), V.int (10 ^ Int.toNat 30 + 1), V.int (-10 ^ Int.toNat 30 - 1)]) := upd_same
    generalize [V.non, V.bl true, V.bl false, V.int 0, V.int 1, V.int (-1), V.int 2, V.int 7, V.int (10 ^ Int.toNat 18 + 1), V.int (10 ^ Int.toNat 30), V.int (10 ^ Int.toNat 30 + 1), V.int (-10 ^ Int.toNat 30 - 1)] = xs1 at g1 o1 l1 e1 ⊢
    generalize upd H p1 (.lst xs1) = H1 at g1 o1 e1 ⊢
    walk_at "go"
    refine r_I (wide_mul (a := 200) (b := 200) (by decide) (by decide) (by decide) (by decide) (by decide)) ?_
    walk_at "go"
    refine ⟨by decide, fun p2 h2 => ?_⟩
    walk_at "go"
    have o2 := odd_t (K := K) (upd_same (H := H1) (a := p2) (o := .tup []))
    have g2 := g1.then (o := .tup []) h2
    have e2 := (Gr.new (o := .tup []) h2).e _ _ e1
    have oo := o1.ext (Gr.new (o := .tup []) h2).e
    generalize upd H1 p2 (.tup []) = H2 at o2 g2 e2 oo ⊢
    refine ⟨by decide, fun p3 h3 => ?_⟩
    have o3 := odd_l (K := K) (upd_same (H := H2) (a := p3) (o := .lst []))
    have n3 := Gr.new (o := .lst []) h3
    replace g2 := g2.trans n3
    replace e2 := n3.e _ _ e2
    replace oo := oo.ext n3.e
    replace o2 := o2.ext n3.e
    generalize upd H2 p3 (.lst []) = H3 at o2 g2 e2 oo o3 ⊢
    walk_at "go"
    intro p4 h4
    have o4 := odd_d (K := K) (upd_same (H := H3) (a := p4) (o := .dK [])) rfl
    have n4 := Gr.new (o := .dK []) h4
    replace g2 := g2.trans n4
    replace e2 := n4.e _ _ e2
    replace oo := oo.ext n4.e
    replace o2 := o2.ext n4.e
    replace o3 := o3.ext n4.e
    generalize upd H3 p4 (.dK []) = H4 at o2 g2 e2 oo o3 o4 ⊢
    walk_at "go"
    refine ⟨by decide, fun p5 h5 => ?_⟩
    have o5 := odd_t (K := K) (upd_same (H := H4) (a := p5) (o := .tup [V.str "a"]))
    have n5 := Gr.new (o := .tup [V.str "a"]) h5
    replace g2 := g2.trans n5
    replace e2 := n5.e _ _ e2
    replace oo := oo.ext n5.e
    replace o2 := o2.ext n5.e
    replace o3 := o3.ext n5.e
    replace o4 := o4.ext n5.e
    generalize upd H4 p5 (.tup [V.str "a"]) = H5 at o2 g2 e2 oo o3 o4 o5 ⊢
    walk_at "go"
    refine ⟨by decide, fun p6 h6 => ?_⟩
    have o6 := odd_l (K := K) (upd_same (H := H5) (a := p6) (o := .lst [V.str "a"]))
    have n6 := Gr.new (o := .lst [V.str "a"]) h6
    replace g2 := g2.trans n6
    replace e2 := n6.e _ _ e2
    replace oo := oo.ext n6.e
    replace o2 := o2.ext n6.e
    replace o3 := o3.ext n6.e
    replace o4 := o4.ext n6.e
    replace o5 := o5.ext n6.e
    generalize upd H5 p6 (.lst [V.str "a"]) = H6 at o2 g2 e2 oo o3 o4 o5 o6 ⊢
    walk_at "go"
    refine ⟨by decide, fun p7 h7 => ?_⟩
    have o7 := odd_t (K := K) (upd_same (H := H6) (a := p7) (o := .tup [V.int 0, V.int 1]))
    have n7 := Gr.new (o := .tup [V.int 0, V.int 1]) h7
    replace g2 := g2.trans n7
    replace e2 := n7.e _ _ e2
    replace oo := oo.ext n7.e
    replace o2 := o2.ext n7.e
    replace o3 := o3.ext n7.e
    replace o4 := o4.ext n7.e
    replace o5 := o5.ext n7.e
    replace o6 := o6.ext n7.e
    generalize upd H6 p7 (.tup [V.int 0, V.int 1]) = H7 at o2 g2 e2 oo o3 o4 o5 o6 o7 ⊢
    refine ⟨by show 13 ≤ 16777216; decide, fun p8 h8 => ?_⟩
    have l8 : OddL K H7 [V.int (10 ^ Int.toNat 50 * 10 ^ Int.toNat 40), V.str "", V.str "a", V.str "0", V.str "zz z", V.str "A", V.str "abcdefghi", V.ref p2, V.ref p3, V.ref p4, V.ref p5, V.ref p6, V.ref p7] := by
      repeat (refine OddL.cons (by first | exact odd_i | exact odd_s (by decide) | assumption) ?_)
      exact OddL.nil
    have s8 : [V.int (10 ^ Int.toNat 50 * 10 ^ Int.toNat 40), V.str "", V.str "a", V.str "0", V.str "zz z", V.str "A", V.str "abcdefghi", V.ref p2, V.ref p3, V.ref p4, V.ref p5, V.ref p6, V.ref p7].length = 13 := rfl
    generalize [V.int (10 ^ Int.toNat 50 * 10 ^ Int.toNat 40), V.str "", V.str "a", V.str "0", V.str "zz z", V.str "A", V.str "abcdefghi", V.ref p2, V.ref p3, V.ref p4, V.ref p5, V.ref p6, V.ref p7] = ys at l8 s8 ⊢
    have n8 := Gr.new (o := .lst ys) h8
    refine r_catL (n8.e _ _ e2) upd_same (by rw [l1, s8]; decide) fun p9 h9 => ?_
    have n9 := n8.then (o := .lst (xs1 ++ ys)) h9
    have o9 := (oo.app l8).ext n9.e
    have g9 := g2.trans n9
    have e9 : (upd (upd H7 p8 (.lst ys)) p9 (.lst (xs1 ++ ys))) p9 = some (.lst (xs1 ++ ys)) := upd_same
    generalize upd (upd H7 p8 (.lst ys)) p9 (.lst (xs1 ++ ys)) = H9 at g9 o9 e9 ⊢
    walk_at "go"
    refine r_disp fun pA hA => ?_
    walk_at "go"
    refine ⟨upd_same, [(.inr "a", .int 1)], rfl, by decide, ?_⟩
    rw [L2.upd_upd, show mergeK [] [((Sum.inr "a" : Key), V.int 1)] = [(.inr "a", .int 1)] from rfl]
    have oA := odd_d (K := K) (upd_same (H := H9) (a := pA) (o := .dK [(.inr "a", .int 1)])) rfl
    have nA := Gr.new (o := .dK [(.inr "a", .int 1)]) hA
    replace g9 := g9.trans nA
    replace e9 := nA.e _ _ e9
    replace o9 := o9.ext nA.e
    generalize upd H9 pA (.dK [(.inr "a", .int 1)]) = HA at g9 e9 o9 oA ⊢
    walk_at "go"
    refine ⟨by decide, fun pB hB => ?_⟩
    have oB := odd_l (K := K) (upd_same (H := HA) (a := pB) (o := .lst [V.non]))
    have nB := Gr.new (o := .lst [V.non]) hB
    replace g9 := g9.trans nB
    replace e9 := nB.e _ _ e9
    replace o9 := o9.ext nB.e
    replace oA := oA.ext nB.e
    generalize upd HA pB (.lst [V.non]) = HB at g9 e9 o9 oA oB ⊢
    walk_at "go"
    refine ⟨by show 2 ≤ 16777216; decide, fun pC hC => ?_⟩
    have nC := Gr.new (o := .lst [V.ref pA, V.ref pB]) hC
    refine r_catL (nC.e _ _ e9) upd_same (by rw [List.length_append, l1, s8]; show 12 + 13 + 2 ≤ 16777216; decide) fun pD hD => ?_
    have oC : OddL K HB (xs1 ++ ys ++ [V.ref pA, V.ref pB]) := o9.app (.cons oA (.cons oB .nil))
    have lC : (xs1 ++ ys ++ [V.ref pA, V.ref pB]).length = 27 := by rw [List.length_append, List.length_append, l1, s8]; rfl
    generalize xs1 ++ ys ++ [V.ref pA, V.ref pB] = zs at oC lC ⊢
    have nD := nC.then (o := .lst zs) hD
    have gD := g9.trans nD
    replace oC := oC.ext nD.e
    have eD : (upd (upd HB pC (.lst [V.ref pA, V.ref pB])) pD (.lst zs)) pD = some (.lst zs) := upd_same
    generalize upd (upd HB pC (.lst [V.ref pA, V.ref pB])) pD (.lst zs) = HD at gD oC eD ⊢
    walk_at "go"
    refine r_pickL (gD.pen hp) (SqL.of eD) (fun z => by rw [z] at lC; cases lC) (by omega) (by omega) fun v n' H' hv hn' kp hp' => ?_
    exact k v n' H' ((oC v hv).kp kp) hn' (gD.kp.trans kp) hp'
end
end Tx

set_option maxRecDepth 100000
set_option maxHeartbeats 4000000
namespace Tx
open PySem PySem.Spec PyProof.Rows L2 My
section
variable {P : Program} {w : World} {K : PySem.W.Frag} {mg : Str → Option Value} {base : Heap}
/-! ### _law_is_painter -/
theorem abs_le {i m : Int} : ((if i < 0 then -i else i) ≤ m) ↔ -m ≤ i ∧ i ≤ m := by
  split <;> omega
theorem readS_short {s : Str} (h : (Txt.split s " ").length ≠ 4) : readS s = none := by
  unfold readS partsOf
  cases e : Txt.split s " " with
  | nil => rfl
  | cons nm rest =>
    rw [e] at h
    rw [partsW_cons]
    have hn : numsOf (rest.map (intIn 80)) = none := numsOf_ne (by rw [List.length_map]; simp at h; exact h)
    rw [hn]
    split <;> rename_i q <;> (split at q <;> cases q) <;> rfl
theorem readS_four {s nm a b c : Str} (h : Txt.split s " " = [nm, a, b, c]) : readS s = if nmB nm = true then (match intIn 80 a, intIn 80 b, intIn 80 c with
    | some i, some j, some k => if NumOk ⟨nm, i, j, k⟩ then some ⟨nm, i, j, k⟩ else none
    | _, _, _ => none) else none := by
  unfold readS partsOf
  rw [h, partsW_cons]
  by_cases hn : nmB nm = true
  · rw [if_pos hn, if_pos hn, show List.map (intIn 80) [a, b, c] = [intIn 80 a, intIn 80 b, intIn 80 c] from rfl]
    generalize intIn 80 a = x
    generalize intIn 80 b = y
    generalize intIn 80 c = z
    cases x <;> cases y <;> cases z <;> rfl
  · rw [if_neg hn, if_neg hn]
theorem four {α : Type} : ∀ {l : List α}, l.length = 4 → ∃ x y z u, l = [x, y, z, u]
  | [x, y, z, u], _ => ⟨x, y, z, u, rfl⟩
def spIsP : Sp := fun vs H Q _ => ∃ s : Str, vs = [.str s] ∧ s.length + 2 ≤ sizeLine ∧ ∀ H', Gr H H' → Q (.bl (readS s).isSome) H'
theorem ok_isp (T : Tx K mg) : FnR P w K mg base (L2.CX P w) 2 (a_Lis_painter K) spIsP := by
  have F_Lis_name := ok_lname (P := P) (w := w) (base := base) T
  have F_Linteger_in := ok_lint (P := P) (w := w) (base := base) T
  refine fnR_of T.f_Lis_painter sc_Lis_painter (fun _ _ _ _ _ _ us hl => match us, hl with | [_], _ => rfl) (fun vs H Q E h => ?_) fun A outer s H vs Q E cdv hr h => ?_
  · obtain ⟨z, rfl, _⟩ := h
    rfl
  · obtain ⟨s, rfl, hl, k⟩ := h
    refine ⟨_, (pss_cons (ps_set (i := 1) sc_Lis_painter.nd rfl (by first | exact Or.inl rfl | exact Or.inr rfl) (pe_split (pv 0) pe_str))
 (pss_cons (ps_if (PW.pt (pw_or (pt_cmpR (op_neUK (K := K) rfl hr.units) (pe_callB (call_lenUK (K := K) rfl) rfl T.n_len (by decide +kernel) (pa_cons (pv 1) pa_nil)) pe_int (nomark _)) (pw_or1 (pt_not (pt_val (pe_callR F_Lis_name (hr.mono (by first | decide | omega)) T.k_Lis_name rfl T.g__law_is_name passL (pa_cons (pe_ix (ix_seqK (K := K) rfl) (pv 1) pe_int (fun _ _ => rfl)) pa_nil)))))))
 (pss_one (ps_ret pe_bl))
 pss_nil)
 (pss_cons (ps_asg (pe_lc (own := [("_law_word", 5)]) rfl sc_Lis_painter.nd (pi_anyK (K := K) rfl (pe_slice (sl_anyK (K := K) rfl) (pv 1) (po_some pe_int) po_none)) (blkOk_by (own := [("_law_word", 5)]) (N := N_Lis_painter) (sc := defScope s_Lis_painter) (by decide +kernel)) (fun _ _ _ _ _ => (pg_name (i := 5) sc_Lis_painter.nd rfl (by first | exact Or.inl rfl | exact Or.inr rfl))) (fun _ _ _ _ _ => pts_nil) (fun _ _ _ _ _ => (pe_callR F_Linteger_in (hr.mono (by first | decide | omega)) T.k_Linteger_in rfl T.g__law_integer_in passL (pa_cons (pv 5) pa_nil)))) (pg_lstK (K := K) (n := 3) rfl rfl (pgs_cons (pg_name (i := 2) sc_Lis_painter.nd rfl (by first | exact Or.inl rfl | exact Or.inr rfl)) (pgs_cons (pg_name (i := 3) sc_Lis_painter.nd rfl (by first | exact Or.inl rfl | exact Or.inr rfl)) (pgs_cons (pg_name (i := 4) sc_Lis_painter.nd rfl (by first | exact Or.inl rfl | exact Or.inr rfl)) pgs_nil)))))
 (pss_cons (ps_if (PW.pt (pw_or (pt_cmpR op_isN (pv 2) pe_non (nomark _)) (pw_or (pt_cmpR op_isN (pv 3) pe_non (nomark _)) (pw_or1 (pt_cmpR op_isN (pv 4) pe_non (nomark _))))))
 (pss_one (ps_ret pe_bl))
 pss_nil)
 (pss_cons (ps_if (PW.pt (pw_or (pt_not (pt_chain op_le op_le pe_int (pv 2) (pe_op op_pow pe_int pe_int))) (pw_or1 (pt_cmpR op_gt (pe_callB call_abs rfl T.n_abs (by decide +kernel) (pa_cons (pv 3) pa_nil)) (pe_op op_pow pe_int pe_int) (nomark _)))))
 (pss_one (ps_ret pe_bl))
 pss_nil)
 (pss_one (ps_ret (pe_and (pe_cmpR (op_neUK (K := K) rfl hr.units) (pv 4) pe_int (nomark _)) (pe_one (pe_cmpR op_le (pe_callB call_abs rfl T.n_abs (by decide +kernel) (pa_cons (pv 4) pa_nil)) (pe_op op_pow pe_int pe_int) (nomark _))))))))))), ?_⟩
    try dsimp only [cxOf]
    have hz : ∀ x ∈ Txt.split s " ", x.length ≤ s.length := fun x hx => by
      rw [sp_mk] at hx
      exact split_each hx
    have short := readS_short (s := s)
    walk_at "go"
    refine ⟨_, _, rfl, rfl, by decide, hl, fun p hp => ?_⟩
    have g1 := Gr.new (o := .lst ((Txt.split s " ").map V.str)) hp
    have h1 : (upd H p (.lst ((Txt.split s " ").map V.str))) p = some (.lst ((Txt.split s " ").map V.str)) := upd_same
    generalize upd H p (.lst ((Txt.split s " ").map V.str)) = H1 at g1 h1 ⊢
    generalize hw : Txt.split s " " = ws at h1 hz short
    walk_at "go"
    rw [List.length_map]
    refine r_iteN (fun h4 => ?_) fun h4 => ?_
    · walk_at "go"
      have e := short fun z => h4 (by rw [z]; rfl)
      rw [e] at k
      exact k _ g1
    obtain ⟨nm, a, b, c, rfl⟩ := four (show ws.length = 4 by omega)
    have r4 := readS_four hw
    walk_at "go"
    refine r_ixL (SqL.of h1) (atI_nat (j := 0) rfl) ?_
    have hnm : nm.length ≤ s.length := hz _ (by simp)
    have ha : a.length ≤ s.length := hz _ (by simp)
    have hb : b.length ≤ s.length := hz _ (by simp)
    have hc : c.length ≤ s.length := hz _ (by simp)
    have hl' : s.length + 2 ≤ 16777216 := hl
    refine ⟨_, rfl, (by show nm.length ≤ 16777216; omega), fun H2 g2 => ⟨_, rfl, ?_⟩⟩
    have e0 : nmV (.str nm) = nmB nm := rfl
    rw [e0]
    have g12 := g1.trans g2
    have h2 := g2.e _ _ h1
    cases hn : nmB nm with
    | false =>
      rw [hn, if_neg Bool.false_ne_true] at r4
      rw [r4] at k
      walk_at "go"
      exact k _ g12
    | true =>
    rw [if_pos hn] at r4
    walk_at "go"
    refine r_iL ?_
    walk_at "go"
    refine r_slL (SqL.of h2) fun q hq => ?_
    have ecut : cutV ([nm, a, b, c].map V.str) (some 1) none = [V.str a, V.str b, V.str c] := rfl
    rw [ecut]
    have g3 := g12.then (o := .lst [V.str a, V.str b, V.str c]) hq
    have h3 : (upd H2 q (.lst [V.str a, V.str b, V.str c])) q = some (.lst [V.str a, V.str b, V.str c]) := upd_same
    generalize upd H2 q (.lst [V.str a, V.str b, V.str c]) = H3 at g3 h3 ⊢
    refine ⟨_, rfl, ⟨_, SqL.of h3⟩, fun D hD => ?_⟩
    refine lc_list (xs := [V.str a, V.str b, V.str c]) (fun i H' => Gr H3 H' ∧ H' D = some (.lst (([optV (intIn 80 a), optV (intIn 80 b), optV (intIn 80 c)]).take i))) ⟨Gr.new hD, upd_same⟩ (fun i H' hi ⟨g, _⟩ => SqL.of (g.e _ _ h3)) (fun i v H' hv ⟨g, hd⟩ => ?_) fun H' ⟨g, hd⟩ => ?_
    · have hv3 : ∃ x, v = .str x ∧ x.length ≤ 16777216 ∧ ([optV (intIn 80 a), optV (intIn 80 b), optV (intIn 80 c)])[i]? = some (optV (intIn 80 x)) := by
        match i, hv with
        | 0, hv => cases hv; exact ⟨a, rfl, by omega, rfl⟩
        | 1, hv => cases hv; exact ⟨b, rfl, by omega, rfl⟩
        | 2, hv => cases hv; exact ⟨c, rfl, by omega, rfl⟩
        | i + 3, hv => simp at hv
      obtain ⟨x, rfl, hx, hxi⟩ := hv3
      walk_at "go"
      refine ⟨rfl, ?_⟩
      walk_at "go"
      refine ⟨x, rfl, hx, fun H5 g5 => ?_⟩
      refine ⟨_, g5.e _ _ hd, by rw [List.length_take]; show _ < 16777216; simp only [List.length_cons, List.length_nil]; omega, (g.trans g5).mut hD, ?_⟩
      rw [upd_same, List.take_add_one, hxi]
      rfl
    · have hd : H' D = some (.lst [optV (intIn 80 a), optV (intIn 80 b), optV (intIn 80 c)]) := hd
      walk_at "go"
      refine r_gLst (SqL.of hd) rfl ?_
      have g6 := g3.trans g
      walk_at "go"
      have k0 : readS s = none → Q (.bl false) H' := fun e => by
        rw [e] at k
        exact k _ g6
      cases ea : intIn 80 a with
      | none =>
        rw [ea] at r4
        refine ⟨rfl, _, rfl, ?_⟩
        rw [show decide (optV none = V.non) = true from rfl]
        walk_at "go"
        exact k0 r4
      | some i =>
      refine ⟨rfl, _, rfl, ?_⟩
      rw [show decide (optV (some i) = V.non) = false from decide_eq_false fun z => nomatch z]
      walk_at "go"
      cases eb : intIn 80 b with
      | none =>
        rw [ea, eb] at r4
        refine ⟨rfl, _, rfl, ?_⟩
        rw [show decide (optV none = V.non) = true from rfl]
        walk_at "go"
        exact k0 r4
      | some j =>
      refine ⟨rfl, _, rfl, ?_⟩
      rw [show decide (optV (some j) = V.non) = false from decide_eq_false fun z => nomatch z]
      walk_at "go"
      cases ec : intIn 80 c with
      | none =>
        rw [ea, eb, ec] at r4
        refine ⟨rfl, _, rfl, ?_⟩
        rw [show decide (optV none = V.non) = true from rfl]
        walk_at "go"
        exact k0 r4
      | some l =>
      refine ⟨rfl, _, rfl, ?_⟩
      rw [show decide (optV (some l) = V.non) = false from decide_eq_false fun z => nomatch z]
      rw [ea, eb, ec] at r4
      have r4 : readS s = if NumOk ⟨nm, i, j, l⟩ then some ⟨nm, i, j, l⟩ else none := r4
      have kN : ¬ NumOk ⟨nm, i, j, l⟩ → Q (.bl false) H' := fun h => k0 (by rw [r4, if_neg h])
      rw [show optV (some i) = V.int i from rfl, show optV (some j) = V.int j from rfl, show optV (some l) = V.int l from rfl]
      walk_at "go"
      refine r_iteD (fun c1 => ?_) fun c1 => ?_
      · walk_at "go"
        rw [show (10 : Int) ^ Int.toNat 30 = 10 ^ 30 from rfl]
        refine r_iteN (fun c2 => ?_) fun c2 => ?_
        · walk_at "go"
          exact kN fun z => c2 z.2.1
        walk_at "go"
        rw [show (10 : Int) ^ Int.toNat 30 = 10 ^ 30 from rfl]
        refine r_iteD (fun c3 => ?_) fun c3 => ?_
        · walk_at "go"
          refine kN fun z => ?_
          have := (abs_le (i := j) (m := 10 ^ 30)).mpr ⟨z.2.2.1, z.2.2.2.1⟩
          omega
        have c3 := (abs_le (i := j) (m := 10 ^ 30)).mp (by omega)
        walk_at "go"
        refine r_iteN (fun c4 => ?_) fun c4 => ?_
        · walk_at "go"
          rw [show (10 : Int) ^ Int.toNat 18 = 10 ^ 18 from rfl]
          by_cases c5 : (if l < 0 then -l else l) ≤ 10 ^ 18
          · rw [decide_eq_true c5]
            have z := (abs_le (i := l) (m := 10 ^ 18)).mp c5
            have k := k _ g6
            rw [r4, if_pos (show NumOk ⟨nm, i, j, l⟩ from ⟨c1, c2, c3.1, c3.2, z.1, z.2, c4⟩)] at k
            exact k
          · rw [decide_eq_false c5]
            exact kN fun z => c5 ((abs_le (i := l) (m := 10 ^ 18)).mpr ⟨z.2.2.2.2.1, z.2.2.2.2.2.1⟩)
        · walk_at "go"
          exact kN fun z => z.2.2.2.2.2.2 c4
      · walk_at "go"
        exact kN fun z => c1 z.1
end
end Tx

set_option maxRecDepth 100000
set_option maxHeartbeats 4000000
namespace Tx
open PySem PySem.Spec PyProof.Rows L2 My
section
variable {P : Program} {w : World} {K : PySem.W.Frag} {mg : Str → Option Value} {base : Heap}
/-! ### _law_due -/
def tupD (v : V) : Due → List V
  | .parse i => [.str "parse", .int i, .bl true]
  | .twice n => [.str "twice", .str n, .bl true]
  | .many => [.str "many", .int 40, .bl true]
  | .told _ => [.str "told", v]
theorem r_linesJ {j : Nat} {s : Str} {σ : L2.St} {H : Hp} {K0 : VK} (hl : s.length + 2 ≤ sizeLine) (hs : σ[j]? = some (some (.str s))) (k : ∀ L H1, Gr H H1 → H L = none → H1 L = some (.lst ((linesOf s).map V.str)) → K0 (.ref L) H1) :
    if (!decide (s = "")) = true then tM1 (fun x xs H Q => ∃ a b, x = V.str a ∧ xs = [V.str b] ∧ (b.length == 0) = false ∧ a.length + 2 ≤ sizeLine ∧ rNewStrs (Txt.split a b) H Q) (tVar j) (tC (V.str "\n")) σ H K0 else tLst tNil σ H K0 := by
  unfold linesOf at k
  by_cases h : s = ""
  · rw [if_neg (by rw [decide_eq_true h]; decide)]
    rw [if_pos h] at k
    exact ⟨Nat.zero_le _, fun L hL => k L _ (Gr.new hL) hL upd_same⟩
  · rw [if_pos (by rw [decide_eq_false h]; rfl)]
    rw [if_neg h] at k
    exact ⟨_, hs, ⟨_, rfl⟩, _, _, rfl, rfl, by decide, hl, fun L hL => k L _ (Gr.new hL) hL upd_same⟩
theorem word0 {s : Str} {r : Rw} (h : readS s = some r) : ∃ rest, Txt.split s " " = r.nm :: rest := by
  obtain ⟨h1, _, _⟩ := readS_ok h
  unfold partsOf at h1
  cases e : Txt.split s " " with
  | nil =>
    rw [e] at h1
    cases h1
  | cons nm rest =>
    rw [e, partsW_cons] at h1
    split at h1
    · obtain ⟨t, _, e2⟩ := Option.map_eq_some_iff.mp h1
      exact ⟨rest, by rw [← e2]⟩
    · cases h1
theorem all_len : ∀ {l : List Str}, (∀ s ∈ l, ∃ r, readS s = some r) → (l.filterMap readS).length = l.length
  | [], _ => rfl
  | s :: l, h => by
    obtain ⟨r, hr⟩ := h s List.mem_cons_self
    rw [List.filterMap_cons, hr]
    show (List.filterMap readS l).length + 1 = l.length + 1
    rw [all_len fun x hx => h x (List.mem_cons_of_mem _ hx)]
theorem all_at : ∀ {l : List Str} {i : Nat} {s : Str}, (∀ s ∈ l, ∃ r, readS s = some r) → l[i]? = some s → ∃ r, readS s = some r ∧ (l.filterMap readS)[i]? = some r
  | a :: l, 0, s, h, e => by
    obtain ⟨r, hr⟩ := h a List.mem_cons_self
    have : a = s := by simpa using e
    subst this
    exact ⟨r, hr, by rw [List.filterMap_cons, hr]; rfl⟩
  | a :: l, i + 1, s, h, e => by
    obtain ⟨r, hr⟩ := h a List.mem_cons_self
    obtain ⟨q, h1, h2⟩ := all_at (l := l) (i := i) (s := s) (fun x hx => h x (List.mem_cons_of_mem _ hx)) (by simpa using e)
    exact ⟨q, h1, by rw [List.filterMap_cons, hr]; simpa using h2⟩
def spDue (K : PySem.W.Frag) : Sp := fun vs H Q _ => ∃ v, vs = [v] ∧ Kn K H v ∧ (∀ s, v = .str s → s.length ≤ 1000000) ∧ ∀ p H', Gr H H' → H p = none → H' p = some (.tup (tupD v (dueV v))) → Q (.ref p) H'
theorem ok_due (T : Tx K mg) : FnR P w K mg base (L2.CX P w) 3 (a_Ldue K) (spDue K) := by
  have F_Lis_painter := ok_isp (P := P) (w := w) (base := base) T
  refine fnR_of T.f_Ldue sc_Ldue (fun _ _ _ _ _ _ us hl => match us, hl with | [_], _ => rfl) (fun vs H Q E h => ?_) fun A outer s H vs Q E cdv hr h => ?_
  · obtain ⟨z, rfl, _⟩ := h
    rfl
  · obtain ⟨v, rfl, hv, hl, k⟩ := h
    refine ⟨_, (pss_cons (ps_if (pt_not (pt_val (pe_callB call_isi rfl T.n_isinstance (by decide +kernel) (pa_cons (pv 0) (pa_cons (pe_bltn (v := .ty "str") rfl T.n_str (by decide +kernel) rfl) pa_nil)))))
 (pss_one (ps_ret (pe_tup (pa_cons pe_str (pa_cons pe_int (pa_cons pe_bl pa_nil))))))
 pss_nil)
 (pss_cons (ps_set (i := 1) sc_Ldue.nd rfl (by first | exact Or.inl rfl | exact Or.inr rfl) (pe_ifExp (pt_cmpR (op_neUK (K := K) rfl hr.units) (pv 0) pe_str (nomark _)) (pe_split (pv 0) pe_str) (pe_lst pa_nil)))
 (pss_cons (ps_for (passes_of rfl) rfl (pi_range1 rfl T.n_range (pa_cons (pe_callB (call_lenUK (K := K) rfl) rfl T.n_len (by decide +kernel) (pa_cons (pv 1) pa_nil)) pa_nil)) (pg_name (i := 2) sc_Ldue.nd rfl (by first | exact Or.inl rfl | exact Or.inr rfl))
 (pss_one (ps_if (pt_not (pt_val (pe_callR F_Lis_painter (hr.mono (by first | decide | omega)) T.k_Lis_painter rfl T.g__law_is_painter passL (pa_cons (pe_ix (ix_seqK (K := K) rfl) (pv 1) (pv 2) (fun _ _ => rfl)) pa_nil))))
 (pss_one (ps_ret (pe_tup (pa_cons pe_str (pa_cons (pv 2) (pa_cons pe_bl pa_nil))))))
 pss_nil)))
 (pss_cons (ps_setLc (i := 3) (own := [("_law_line_here", 4)]) rfl sc_Ldue.nd rfl rfl (sw_true rfl rfl rfl (by decide +kernel)) (pi_anyK (K := K) rfl (pv 1)) (blkOk_by (own := [("_law_line_here", 4)]) (N := N_Ldue) (sc := defScope s_Ldue) (by decide +kernel)) (fun _ _ _ _ _ => (pg_name (i := 4) sc_Ldue.nd rfl (by first | exact Or.inl rfl | exact Or.inr rfl))) (fun _ _ _ _ _ => pts_nil) (fun _ _ _ _ _ => (pe_ix (ix_seqK (K := K) rfl) (pe_split (pv 4) pe_str) pe_int (fun _ _ => rfl))))
 (pss_cons (ps_for (passes_of rfl) rfl (pi_range1 rfl T.n_range (pa_cons (pe_callB (call_lenUK (K := K) rfl) rfl T.n_len (by decide +kernel) (pa_cons (pv 3) pa_nil)) pa_nil)) (pg_name (i := 2) sc_Ldue.nd rfl (by first | exact Or.inl rfl | exact Or.inr rfl))
 (pss_one (ps_if (pt_cmpR (op_inK (K := K) rfl) (pe_ix (ix_seqK (K := K) rfl) (pv 3) (pv 2) (fun _ _ => rfl)) (pe_slice (sl_anyK (K := K) rfl) (pv 3) po_none (po_some (pv 2))) (by rfl))
 (pss_one (ps_ret (pe_tup (pa_cons pe_str (pa_cons (pe_ix (ix_seqK (K := K) rfl) (pv 3) (pv 2) (fun _ _ => rfl)) (pa_cons pe_bl pa_nil))))))
 pss_nil)))
 (pss_one (ps_ret (pe_ifExp (pt_cmpR op_gt (pe_callB (call_lenUK (K := K) rfl) rfl T.n_len (by decide +kernel) (pa_cons (pv 1) pa_nil)) pe_int (nomark _)) (pe_tup (pa_cons pe_str (pa_cons pe_int (pa_cons pe_bl pa_nil)))) (pe_tup (pa_cons pe_str (pa_cons (pv 0) pa_nil))))))))))), ?_⟩
    try dsimp only [cxOf]
    walk_at "go"
    refine r_isi hv.kitS ⟨_, rfl, ?_⟩
    by_cases hs : isS v = true
    · rw [hs]
      obtain ⟨s, rfl⟩ : ∃ s, v = .str s := by
        cases v <;> try (cases hs)
        exact ⟨_, rfl⟩
      have hls : s.length ≤ 1000000 := hl s rfl
      have k : ∀ p H', Gr H H' → H p = none → H' p = some (.tup (tupD (.str s) (dueL (linesOf s)))) → Q (.ref p) H' := k
      obtain ⟨hw1, hw2⟩ := lines_weight s
      generalize hL : linesOf s = ls at k hw1 hw2
      walk_at "go"
      refine r_linesJ (by show s.length + 2 ≤ 16777216; omega) rfl fun L H1 g1 hL0 hL1 => ?_
      rw [hL] at hL1
      walk_at "go"
      rw [List.length_map]
      refine ⟨by omega, by omega, ?_⟩
      refine for_rng (n := ls.length) (by omega) (fun i σ' H' => ∃ o2, σ' = [some (.str s), some (.ref L), o2, none, none] ∧ Gr H H' ∧ H' L = some (.lst (ls.map V.str)) ∧ badFrom i (ls.drop i) = badFrom 0 ls) ⟨_, rfl, g1, hL1, rfl⟩ (fun i σ' H' hi ⟨o2, e, g, hl2, hbad⟩ => ?_)
        fun σ' H' ⟨o2, e, g, hl2, hbad⟩ => ?_
      · subst e
        obtain ⟨li, hli⟩ : ∃ li, ls[i]? = some li := ⟨ls[i], by simp [hi]⟩
        have hlen := hw2 li (List.mem_of_getElem? hli)
        walk_at "go"
        refine r_ixL (SqL.of hl2) (atI_nat (by rw [List.getElem?_map, hli]; rfl)) ?_
        refine ⟨li, rfl, (by show li.length + 2 ≤ 16777216; omega), fun H2 g2 => ⟨_, rfl, ?_⟩⟩
        cases hr : readS li with
        | none =>
          rw [Option.isSome_none]
          walk_at "go"
          refine ⟨by show 3 ≤ 16777216; decide, fun p hp => ?_⟩
          walk_at "go"
          have eb := (bad_at hbad hli).1 hr
          unfold dueL at k
          rw [eb] at k
          exact k p _ ((g.trans g2).then hp) ((g.trans g2).f _ hp) upd_same
        | some r =>
          rw [Option.isSome_some]
          walk_at "go"
          exact ⟨_, rfl, g.trans g2, g2.e _ _ hl2, (bad_at hbad hli).2 r hr⟩
      · subst e
        have hbad := bad_end hbad
        have hall := bad_none hbad
        unfold dueL at k
        rw [hbad] at k
        have hlr := all_len hall
        walk_at "go"
        refine r_iL ?_
        walk_at "go"
        refine ⟨_, rfl, ⟨_, SqL.of hl2⟩, fun D hD => ?_⟩
        refine lc_list (xs := ls.map V.str) (fun i H2 => Gr H' H2 ∧ H2 D = some (.lst ((((ls.filterMap readS).map Rw.nm).take i).map V.str))) ⟨Gr.new hD, upd_same⟩ (fun i H2 hi ⟨g2, _⟩ => SqL.of (g2.e _ _ hl2)) (fun i v H2 hv ⟨g2, hd⟩ => ?_) fun H2 ⟨g2, hd⟩ => ?_
        · rw [List.getElem?_map] at hv
          obtain ⟨li, hli, rfl⟩ := Option.map_eq_some_iff.mp hv
          have hi := (List.getElem?_eq_some_iff.mp hli).1
          have hlen := hw2 li (List.mem_of_getElem? hli)
          obtain ⟨r, hr, hri⟩ := all_at hall hli
          obtain ⟨rest, hrest⟩ := word0 hr
          walk_at "go"
          refine ⟨rfl, ?_⟩
          walk_at "go"
          refine ⟨_, _, rfl, rfl, by decide, (by show li.length + 2 ≤ 16777216; omega), fun q hq => ?_⟩
          walk_at "go"
          refine r_ixL (SqL.of upd_same) (atI_nat (j := 0) (by rw [hrest]; rfl)) ?_
          have n2 := Gr.new (o := .lst ((Txt.split li " ").map V.str)) hq
          refine ⟨_, n2.e _ _ hd, by rw [List.length_map, List.length_take, List.length_map]; show _ < 16777216; omega, (g2.trans n2).mut hD, ?_⟩
          rw [upd_same, List.take_add_one, List.getElem?_map, hri]
          simp
        · rw [List.length_map, List.take_of_length_le (by rw [List.length_map, hlr]; exact Nat.le_refl _)] at hd
          have g2 := g.trans g2
          have hl2 := (show H2 L = some (.lst (ls.map V.str)) from by first | exact (‹Gr H' H2›).e _ _ hl2)
          generalize hns : (ls.filterMap readS).map Rw.nm = ns at hd k
          have hnl : ns.length = ls.length := by rw [← hns, List.length_map, hlr]
          walk_at "go"
          rw [List.length_map]
          refine ⟨by omega, by omega, ?_⟩
          refine for_rng (n := ns.length) (by omega) (fun i σ' H' => ∃ o2 o4, σ' = [some (.str s), some (.ref L), o2, some (.ref D), o4] ∧ Gr H H' ∧ H' L = some (.lst (ls.map V.str)) ∧ H' D = some (.lst (ns.map V.str)) ∧ dupFrom (ns.take i) (ns.drop i) = dup ns) ⟨_, _, rfl, g2, hl2, hd, rfl⟩ (fun i σ' H' hi ⟨o2, o4, e, g, hl3, hd3, hdup⟩ => ?_)
            fun σ' H' ⟨o2, o4, e, g, hl3, hd3, hdup⟩ => ?_
          · subst e
            obtain ⟨nm, hnm⟩ : ∃ nm, ns[i]? = some nm := ⟨ns[i], by simp [hi]⟩
            walk_at "go"
            refine r_ixL (SqL.of hd3) (atI_nat (by rw [List.getElem?_map, hnm]; rfl)) ?_
            walk_at "go"
            refine r_slL (SqL.of hd3) fun q hq => ?_
            have hcut : cutV (ns.map V.str) none (some (i : Int)) = (ns.take i).map V.str := by
              unfold cutV
              have e0 : HT.sIx (ns.map V.str).length 0 none = 0 := rfl
              rw [e0, HT.sIx_nat, List.drop_zero, Nat.sub_zero, ← List.map_take]
              congr 1
              rw [Nat.min_eq_left (by rw [List.length_map]; omega)]
            rw [hcut]
            refine ⟨q, _, rfl, .inl (SqL.of upd_same), rfl, by rw [List.all_map, List.all_eq_true]; exact fun _ _ => rfl, ?_⟩
            rw [inV_str]
            have n4 := Gr.new (o := .lst ((ns.take i).map V.str)) hq
            refine ⟨_, rfl, r_iteD (fun hin => ?_) fun hin => ?_⟩
            · walk_at "go"
              refine r_ixL (SqL.of (n4.e _ _ hd3)) (atI_nat (by rw [List.getElem?_map, hnm]; rfl)) ?_
              walk_at "go"
              refine ⟨by show 3 ≤ 16777216; decide, fun p hp => ?_⟩
              walk_at "go"
              rw [(dup_at hdup hnm).1 hin] at k
              exact k p _ ((g.trans n4).then hp) ((g.trans n4).f _ hp) upd_same
            · walk_at "go"
              exact ⟨_, _, rfl, g.trans n4, n4.e _ _ hl3, n4.e _ _ hd3, (dup_at hdup hnm).2 hin⟩
          · subst e
            rw [dup_end hdup] at k
            have k : ∀ p H', Gr H H' → H p = none → H' p = some (.tup (tupD (.str s) (if 40 < (ls.filterMap readS).length then .many else .told (ls.filterMap readS)))) → Q (.ref p) H' := k
            rw [hlr] at k
            walk_at "go"
            rw [List.length_map]
            refine r_iteD (fun hm => ?_) fun hm => ?_
            · rw [if_pos (by omega)] at k
              walk_at "go"
              refine ⟨by decide, fun p hp => ?_⟩
              exact k p _ (g.then hp) (g.f _ hp) upd_same
            · rw [if_neg (by omega)] at k
              walk_at "go"
              refine ⟨by show 2 ≤ 16777216; decide, fun p hp => ?_⟩
              exact k p _ (g.then hp) (g.f _ hp) upd_same
    · have hs : isS v = false := by simpa using hs
      rw [hs]
      have e : dueV v = .parse 0 := by
        cases v <;> first | rfl | (cases hs)
      rw [e] at k
      walk_at "go"
      refine ⟨by decide, fun p hp => ?_⟩
      walk_at "go"
      exact k p _ (Gr.new hp) hp upd_same
end
end Tx

set_option maxRecDepth 100000
set_option maxHeartbeats 4000000
namespace Tx
open PySem PySem.Spec PyProof.Rows L2 My
section
variable {P : Program} {w : World} {K : PySem.W.Frag} {mg : Str → Option Value} {base : Heap}
/-! ### _law_signs, _law_bent_text -/
def spSigns : Sp := fun vs H Q _ => vs = [] ∧ ∀ s : Str, 0 < s.length → s.length ≤ 1000 → Q (.str s) H
theorem ok_signs (T : Tx K mg) : FnR P w K mg base (L2.CX P w) 1 (a_Lsigns K) spSigns := by
  refine fnR_of T.f_Lsigns sc_Lsigns (fun _ _ _ _ _ _ us hl => match us, hl with | [], _ => rfl) (fun vs H Q E h => ?_) fun A outer s H vs Q E cdv hr h => ?_
  · obtain ⟨rfl, _⟩ := h
    rfl
  · obtain ⟨rfl, k⟩ := h
    refine ⟨_, (pss_cons (ps_set (i := 0) sc_Lsigns.nd rfl (by first | exact Or.inl rfl | exact Or.inr rfl) pe_str)
 (pss_one (ps_ret (pe_op (op_addUK (K := K) rfl) (pv 0) pe_str)))), ?_⟩
    try dsimp only [cxOf]
    walk_at "go"
    refine r_addS (by decide +kernel) ?_
    exact k _ (by decide +kernel) (by decide +kernel)
def spBentT : Sp := fun vs H Q _ => ∃ z n, ∃ s near : Str, vs = [.ref (PenI.a z), .str s, .str near] ∧ Pen H z n ∧ n + 100 ≤ 10 ^ 17 ∧ s.length ≤ 1000000 ∧ 0 < near.length ∧ near.length ≤ 1000 ∧
  ∀ (t : Str) n' H', t.length ≤ 3 * s.length + 1 → n' ≤ n + 20 → Kp H H' → Pen H' z n' → Q (.str t) H'
theorem ok_bentT (T : Tx K mg) : FnR P w K mg base (L2.CX P w) 7 (a_Lbent_text K) spBentT := by
  have F_Ldraw := ok_draw (P := P) (w := w) (base := base) T
  have F_Lpick := ok_pick (P := P) (w := w) (base := base) T
  have F_Lsigns := ok_signs (P := P) (w := w) (base := base) T
  refine fnR_of T.f_Lbent_text sc_Lbent_text (fun _ _ _ _ _ _ us hl => match us, hl with | [_, _, _], _ => rfl) (fun vs H Q E h => ?_) fun A outer s H vs Q E cdv hr h => ?_
  · obtain ⟨z, n, s, near, rfl, _⟩ := h
    rfl
  · obtain ⟨z, n, s, near, rfl, hp, hn, hl, h0, h1, k⟩ := h
    refine ⟨_, (pss_cons (ps_par (i := 3) (j := 4) (by rfl) sc_Lbent_text.nd rfl rfl (by decide) rfl rfl (pa_cons (pe_callR F_Ldraw (hr.mono (by first | decide | omega)) T.k_Ldraw rfl T.g__law_draw passL (pa_cons (pv 0) (pa_cons (pe_op (op_addUK (K := K) rfl) (pe_callB (call_lenUK (K := K) rfl) rfl T.n_len (by decide +kernel) (pa_cons (pv 1) pa_nil)) pe_int) pa_nil))) (pa_cons (pe_callR F_Ldraw (hr.mono (by first | decide | omega)) T.k_Ldraw rfl T.g__law_draw passL (pa_cons (pv 0) (pa_cons pe_int pa_nil))) pa_nil)) (by rfl))
 (pss_cons (ps_set (i := 5) sc_Lbent_text.nd rfl (by first | exact Or.inl rfl | exact Or.inr rfl) (pe_callR F_Lpick (hr.mono (by first | decide | omega)) T.k_Lpick rfl T.g__law_pick passL (pa_cons (pv 0) (pa_cons (pe_callR F_Lpick (hr.mono (by first | decide | omega)) T.k_Lpick rfl T.g__law_pick passL (pa_cons (pv 0) (pa_cons (pe_lst (pa_cons (pv 2) (pa_cons (pv 2) (pa_cons (pe_callR0 F_Lsigns (hr.mono (by first | decide | omega)) T.k_Lsigns rfl T.g__law_signs passL) pa_nil)))) pa_nil))) pa_nil))))
 (pss_cons (ps_if (pt_cmpR op_lt (pv 4) pe_int (nomark _))
 (pss_one (ps_ret (pe_op (op_addUK (K := K) rfl) (pe_op (op_addUK (K := K) rfl) (pe_slice (sl_anyK (K := K) rfl) (pv 1) po_none (po_some (pv 3))) (pv 5)) (pe_slice (sl_anyK (K := K) rfl) (pv 1) (po_some (pe_op (op_addUK (K := K) rfl) (pv 3) (pe_op op_fdivW (pv 4) pe_int))) po_none))))
 pss_nil)
 (pss_cons (ps_if (pt_cmpR (op_eqUK (K := K) rfl hr.units) (pv 4) pe_int (nomark _))
 (pss_one (ps_ret (pe_op (op_addUK (K := K) rfl) (pe_slice (sl_anyK (K := K) rfl) (pv 1) po_none (po_some (pv 3))) (pe_slice (sl_anyK (K := K) rfl) (pv 1) (po_some (pe_op (op_addUK (K := K) rfl) (pv 3) pe_int)) po_none))))
 pss_nil)
 (pss_cons (ps_if (pt_cmpR (op_eqUK (K := K) rfl hr.units) (pv 4) pe_int (nomark _))
 (pss_one (ps_ret (pe_op (op_addUK (K := K) rfl) (pe_op (op_addUK (K := K) rfl) (pe_slice (sl_anyK (K := K) rfl) (pv 1) po_none (po_some (pv 3))) (pe_revS (pe_slice (sl_anyK (K := K) rfl) (pv 1) (po_some (pv 3)) (po_some (pe_op (op_addUK (K := K) rfl) (pv 3) pe_int))))) (pe_slice (sl_anyK (K := K) rfl) (pv 1) (po_some (pe_op (op_addUK (K := K) rfl) (pv 3) pe_int)) po_none))))
 pss_nil)
 (pss_one (ps_ret (pe_ifExp (pt_cmpR (op_eqUK (K := K) rfl hr.units) (pv 4) pe_int (nomark _)) (pe_op (op_addUK (K := K) rfl) (pe_slice (sl_anyK (K := K) rfl) (pv 1) po_none (po_some (pv 3))) (pe_slice (sl_anyK (K := K) rfl) (pv 1) (po_some (pe_callB (call_max2 rfl) rfl T.n_max (by decide +kernel) (pa_cons pe_int (pa_cons (pe_op op_sub (pv 3) pe_int) pa_nil)))) po_none)) (pe_slice (sl_anyK (K := K) rfl) (pv 1) po_none (po_some (pv 3))))))))))), ?_⟩
    try dsimp only [cxOf]
    have hls : s.length ≤ sizeLine := by show s.length ≤ 16777216; omega
    walk_at "go"
    refine r_lenS hls ?_
    walk_at "go"
    refine r_draw hp (by omega) (by omega) (by omega) fun v1 n1 H1 v10 v11 hn1 kp1 hp1 => ?_
    walk_at "go"
    refine r_draw hp1 (by omega) (by omega) (by omega) fun v2 n2 H2 v20 v21 hn2 kp2 hp2 => ?_
    walk_at "go"
    refine ⟨rfl, fun sg s0 s1 => ?_⟩
    walk_at "go"
    refine ⟨by show 3 ≤ 16777216; decide, fun q hq => ?_⟩
    walk_at "go"
    have n3 := Gr.new (o := .lst [V.str near, V.str near, V.str sg]) hq
    refine r_pickL (n3.pen hp2) (SqL.of upd_same) (by simp) (by simp) (by omega) fun v n3' H3 hv hn3 kp3 hp3 => ?_
    obtain ⟨t, rfl, t0, t1⟩ : ∃ t : Str, v = .str t ∧ 0 < t.length ∧ t.length ≤ 1000 := by
      simp only [List.mem_cons, List.not_mem_nil, or_false] at hv
      rcases hv with rfl | rfl | rfl
      · exact ⟨_, rfl, h0, h1⟩
      · exact ⟨_, rfl, h0, h1⟩
      · exact ⟨_, rfl, s0, s1⟩
    walk_at "go"
    refine r_pickS hp3 t0 t1 (by omega) fun c n4 H4 hc hn4 kp4 hp4 => ?_
    have kp := ((kp1.trans kp2).trans (n3.kp.trans kp3)).trans kp4
    have fin : ∀ t : Str, t.length ≤ 3 * s.length + 1 → Q (.str t) H4 := fun t ht => k t n4 H4 ht (by omega) kp hp4
    have cs : ∀ lo hi, (cutS s lo hi).length ≤ s.length := fun lo hi => cutS_length s lo hi
    have c1 : (⟨#[c]⟩ : Str).length = 1 := rfl
    walk_at "go"
    refine r_iteD (fun w1 => ?_) fun w1 => ?_
    · walk_at "go"
      refine r_slS hls ?_
      walk_at "go"
      have a1 := cs none (some v1)
      refine r_addS (by rw [c1]; show _ ≤ 16777216; omega) ?_
      walk_at "go"
      refine r_slS hls ?_
      have a2 := cs (some (v1 + v2 / 2)) none
      refine r_addS (by rw [Str.length_append, c1]; show _ ≤ 16777216; omega) ?_
      exact fin _ (by rw [Str.length_append, Str.length_append, c1]; omega)
    walk_at "go"
    refine r_iteD (fun w2 => ?_) fun w2 => ?_
    · walk_at "go"
      refine r_slS hls ?_
      walk_at "go"
      refine r_slS hls ?_
      have a1 := cs none (some v1)
      have a2 := cs (some (v1 + 1)) none
      refine r_addS (by show _ ≤ 16777216; omega) ?_
      exact fin _ (by rw [Str.length_append]; omega)
    walk_at "go"
    refine r_iteD (fun w3 => ?_) fun w3 => ?_
    · walk_at "go"
      refine r_slS hls ?_
      walk_at "go"
      refine r_slS hls ?_
      have a1 := cs none (some v1)
      have a2 := cs (some v1) (some (v1 + 2))
      refine ⟨_, rfl, Nat.le_trans a2 hls, fun y hy => ?_⟩
      refine r_addS (by show _ ≤ 16777216; omega) ?_
      walk_at "go"
      refine r_slS hls ?_
      have a3 := cs (some (v1 + 2)) none
      refine r_addS (by rw [Str.length_append]; show _ ≤ 16777216; omega) ?_
      exact fin _ (by rw [Str.length_append, Str.length_append]; omega)
    walk_at "go"
    refine r_iteD (fun w4 => ?_) fun w4 => ?_
    · walk_at "go"
      refine r_slS hls ?_
      walk_at "go"
      refine r_slS hls ?_
      have a1 := cs none (some v1)
      refine r_addS (by have := cs (some (if v1 - 2 > 0 then v1 - 2 else 0)) none; show _ ≤ 16777216; omega) ?_
      exact fin _ (by rw [Str.length_append]; have := cs (some (if v1 - 2 > 0 then v1 - 2 else 0)) none; omega)
    · walk_at "go"
      refine r_slS hls ?_
      have a1 := cs none (some v1)
      exact fin _ (by omega)
end
end Tx

set_option maxRecDepth 100000
set_option maxHeartbeats 4000000
namespace Tx
open PySem PySem.Spec PyProof.Rows L2 My
section
variable {P : Program} {w : World} {K : PySem.W.Frag} {mg : Str → Option Value} {base : Heap}
/-! ### the weight of texts -/
def wt (ls : List Str) : Nat := (ls.map (·.length)).sum + ls.length
theorem wt_cons (a : Str) (l : List Str) : wt (a :: l) = a.length + 1 + wt l := by
  unfold wt
  rw [List.map_cons, List.sum_cons, List.length_cons]
  omega
theorem wt_sub : ∀ {a b : List Str}, a.Sublist b → wt a ≤ wt b
  | _, _, .slnil => Nat.le_refl _
  | _, _, .cons x h => by
    rw [wt_cons]
    have := wt_sub h
    omega
  | _, _, .cons₂ x h => by
    rw [wt_cons, wt_cons]
    have := wt_sub h
    omega
theorem wt_app : ∀ (a b : List Str), wt (a ++ b) = wt a + wt b
  | [], b => by
    show wt b = wt [] + wt b
    unfold wt
    simp
  | x :: a, b => by
    rw [List.cons_append, wt_cons, wt_cons, wt_app a b]
    omega
theorem wt_mem : ∀ {l : List Str} {x : Str}, x ∈ l → x.length + 1 ≤ wt l
  | a :: l, x, h => by
    rw [wt_cons]
    rcases List.mem_cons.mp h with rfl | h
    · omega
    · have := wt_mem h
      omega
theorem wt_set : ∀ (l : List Str) (i : Nat) (x : Str), wt (l.set i x) ≤ wt l + x.length + 1
  | [], _, x => by
    show wt [] ≤ _
    omega
  | a :: l, 0, x => by
    rw [List.set_cons_zero, wt_cons, wt_cons]
    omega
  | a :: l, i + 1, x => by
    rw [List.set_cons_succ, wt_cons, wt_cons]
    have := wt_set l i x
    omega
theorem wt_len (l : List Str) : l.length ≤ wt l := by
  unfold wt
  omega
theorem cut_strs (ls : List Str) (lo hi : Option Int) : ∃ l', cutV (ls.map V.str) lo hi = l'.map V.str ∧ wt l' ≤ wt ls := by
  unfold cutV
  rw [List.length_map]
  refine ⟨(ls.drop (HT.sIx ls.length 0 lo)).take (HT.sIx ls.length ls.length hi - HT.sIx ls.length 0 lo), by rw [List.map_take, List.map_drop], wt_sub ?_⟩
  exact (List.take_sublist _ _).trans (List.drop_sublist _ _)
theorem wt_split (s : Str) (c : Nat) : wt (Txt.split s ⟨#[c]⟩) ≤ s.length + 1 := by
  have h := split_weight s ⟨#[c]⟩ (Nat.le_refl 1)
  unfold wt
  exact h
theorem wt_join {c : Nat} (ls : List Str) : (Txt.join ⟨#[c]⟩ ls).length ≤ wt ls := by
  rw [← cl_len, cl_join]
  have h := jn_len (c := cl ⟨#[c]⟩) rfl (ls.map cl)
  unfold wt
  rw [List.map_map] at h
  have e : (List.length ∘ cl) = (fun x : Str => x.length) := by
    funext x
    exact cl_len x
  rw [e, List.length_map] at h
  exact h
theorem r_joinS {c : Nat} {sep : Str} {D : Addr} {ls : List Str} {H : Hp} {QV : Str → Prop} (hs : sep = ⟨#[c]⟩) (hw : wt ls ≤ 16777216) : (ls.map (·.length)).sum + sep.length * ls.length ≤ sizeLine := by
  rw [hs]
  show (ls.map (·.length)).sum + 1 * ls.length ≤ 16777216
  unfold wt at hw
  omega
/-! ### two lists of texts, changed -/
structure BLs (z : PenI) (H0 H : Hp) (n : Nat) (p q : Addr) (ls ws : List Str) : Prop where
  kp : Kp H0 H
  pen : Pen H z n
  hp : H0 p = none
  hq : H0 q = none
  lp : H p = some (.lst (ls.map V.str))
  lq : H q = some (.lst (ws.map V.str))
  ne : p ≠ q
  pc : p ≠ z.c
  qc : q ≠ z.c
section
variable {z : PenI} {H0 H H' : Hp} {n m : Nat} {p q r : Addr} {ls ws xs : List Str} {o : HO}
theorem BLs.go (b : BLs z H0 H n p q ls ws) (k : Kp H H') (d : Pen H' z m) : BLs z H0 H' m p q ls ws := ⟨b.kp.trans k, d, b.hp, b.hq, k.l b.lp, k.l b.lq, b.ne, b.pc, b.qc⟩
theorem BLs.new (b : BLs z H0 H n p q ls ws) (h : H r = none) : BLs z H0 (upd H r o) n p q ls ws := b.go (Kp.new h) (b.pen.new h)
theorem BLs.setP (b : BLs z H0 H n p q ls ws) : BLs z H0 (upd H p (.lst (xs.map V.str))) n p q xs ws :=
  ⟨b.kp.mut b.hp, b.pen.mut (b.pen.ne b.lp) b.pc, b.hp, b.hq, upd_same, by rw [upd_ne (Ne.symm b.ne)]; exact b.lq, b.ne, b.pc, b.qc⟩
theorem BLs.setQ (b : BLs z H0 H n p q ls ws) : BLs z H0 (upd H q (.lst (xs.map V.str))) n p q ls xs :=
  ⟨b.kp.mut b.hq, b.pen.mut (b.pen.ne b.lq) b.qc, b.hp, b.hq, by rw [upd_ne b.ne]; exact b.lp, upd_same, b.ne, b.pc, b.qc⟩
theorem BLs.repP (b : BLs z H0 H n p q ls ws) (h : H r = none) : BLs z H0 (upd H r (.lst (xs.map V.str))) n r q xs ws :=
  have c := b.new (o := .lst (xs.map V.str)) h
  ⟨c.kp, c.pen, b.kp.f _ h, b.hq, upd_same, c.lq, Ne.symm (ne_of_none b.lq h), (b.pen.free h).2, b.qc⟩
theorem BLs.repQ (b : BLs z H0 H n p q ls ws) (h : H r = none) : BLs z H0 (upd H r (.lst (xs.map V.str))) n p r ls xs :=
  have c := b.new (o := .lst (xs.map V.str)) h
  ⟨c.kp, c.pen, b.hp, b.kp.f _ h, c.lp, upd_same, ne_of_none b.lp h, b.pc, (b.pen.free h).2⟩
end
theorem len_app (a b : Str) : (a ++ b).length = a.length + b.length := by
  show (a.cps ++ b.cps).size = _
  rw [Array.size_append]
  rfl
theorem set_map (l : List Str) (i : Nat) (x : Str) : (l.map V.str).set i (V.str x) = (l.set i x).map V.str := by rw [List.map_set]
theorem ixn {n j : Nat} (h : j < n) : ixN n (j : Int) = some j := by
  unfold ixN
  rw [if_pos (by omega), if_pos (by omega)]
  simp
/-- between the statements -/
def Mid (z : PenI) (H0 : Hp) (n N : Nat) (s : Str) (ls0 ws0 : List Str) (at' to k j : Nat) (way a b : Int) (σ' : L2.St) (H' : Hp) : Prop := ∃ (n' : Nat) (p q : Addr) (ls ws : List Str) (o9 : Option V), σ' = [some (.ref z.a), some (.str s), some (.ref p), some (.int at'), some (.int to), some (.ref q), some (.int way), some (.int k), some (.int j), o9] ∧
  (n' : Int) ≤ n + 25 + 3 * b ∧ BLs z H0 H' n' p q ls ws ∧ wt ls ≤ 3 * N + 300 ∧ wt ws ≤ 3 * N + 300 ∧ (a ≤ way → ls = ls0) ∧ (b ≤ way → ws = ws0)
def spBentL : Sp := fun vs H Q _ => ∃ z n, ∃ s : Str, vs = [.ref (PenI.a z), .str s] ∧ Pen H z n ∧ n + 100 ≤ 10 ^ 17 ∧ s.length ≤ 1000000 ∧
  ∀ (t : Str) n' H', t.length ≤ 4 * s.length + 310 → n' ≤ n + 60 → Kp H H' → Pen H' z n' → Q (.str t) H'
theorem ok_bentL (T : Tx K mg) : FnR P w K mg base (L2.CX P w) 7 (a_Lbent_lines K) spBentL := by
  have F_Ldraw := ok_draw (P := P) (w := w) (base := base) T
  have F_Lpick := ok_pick (P := P) (w := w) (base := base) T
  refine fnR_of T.f_Lbent_lines sc_Lbent_lines (fun _ _ _ _ _ _ us hl => match us, hl with | [_, _], _ => rfl) (fun vs H Q E h => ?_) fun A outer s H vs Q E cdv hr h => ?_
  · obtain ⟨z, n, s, rfl, _⟩ := h
    rfl
  · obtain ⟨z, n, s, rfl, hp, hn, hl, k⟩ := h
    refine ⟨_, (pss_cons (ps_set (i := 2) sc_Lbent_lines.nd rfl (by first | exact Or.inl rfl | exact Or.inr rfl) (pe_split (pv 1) pe_str))
 (pss_cons (ps_par (i := 3) (j := 4) (by rfl) sc_Lbent_lines.nd rfl rfl (by decide) rfl rfl (pa_cons (pe_callR F_Ldraw (hr.mono (by first | decide | omega)) T.k_Ldraw rfl T.g__law_draw passL (pa_cons (pv 0) (pa_cons (pe_callB (call_lenUK (K := K) rfl) rfl T.n_len (by decide +kernel) (pa_cons (pv 2) pa_nil)) pa_nil))) (pa_cons (pe_callR F_Ldraw (hr.mono (by first | decide | omega)) T.k_Ldraw rfl T.g__law_draw passL (pa_cons (pv 0) (pa_cons (pe_callB (call_lenUK (K := K) rfl) rfl T.n_len (by decide +kernel) (pa_cons (pv 2) pa_nil)) pa_nil))) pa_nil)) (by rfl))
 (pss_cons (ps_par (i := 5) (j := 6) (by rfl) sc_Lbent_lines.nd rfl rfl (by decide) rfl rfl (pa_cons (pe_split (pe_ix (ix_seqK (K := K) rfl) (pv 2) (pv 3) (fun _ _ => rfl)) pe_str) (pa_cons (pe_callR F_Ldraw (hr.mono (by first | decide | omega)) T.k_Ldraw rfl T.g__law_draw passL (pa_cons (pv 0) (pa_cons pe_int pa_nil))) pa_nil)) (by rfl))
 (pss_cons (ps_par (i := 7) (j := 8) (by rfl) sc_Lbent_lines.nd rfl rfl (by decide) rfl rfl (pa_cons (pe_callR F_Ldraw (hr.mono (by first | decide | omega)) T.k_Ldraw rfl T.g__law_draw passL (pa_cons (pv 0) (pa_cons (pe_callB (call_lenUK (K := K) rfl) rfl T.n_len (by decide +kernel) (pa_cons (pv 5) pa_nil)) pa_nil))) (pa_cons (pe_callR F_Ldraw (hr.mono (by first | decide | omega)) T.k_Ldraw rfl T.g__law_draw passL (pa_cons (pv 0) (pa_cons (pe_callB (call_lenUK (K := K) rfl) rfl T.n_len (by decide +kernel) (pa_cons (pv 5) pa_nil)) pa_nil))) pa_nil)) (by rfl))
 (C8.pss_cut (ps_if (pt_cmpR (op_eqUK (K := K) rfl hr.units) (pv 6) pe_int (nomark _))
 (pss_one (ps_set (i := 2) sc_Lbent_lines.nd rfl (by first | exact Or.inl rfl | exact Or.inr rfl) (pe_op (op_addUK (K := K) rfl) (pe_slice (sl_anyK (K := K) rfl) (pv 2) po_none (po_some (pv 3))) (pe_slice (sl_anyK (K := K) rfl) (pv 2) (po_some (pe_op (op_addUK (K := K) rfl) (pv 3) pe_int)) po_none))))
 pss_nil)
 (C8.pss_cut (ps_if (pt_cmpR (op_eqUK (K := K) rfl hr.units) (pv 6) pe_int (nomark _))
 (pss_one (ps_set (i := 2) sc_Lbent_lines.nd rfl (by first | exact Or.inl rfl | exact Or.inr rfl) (pe_op (op_addUK (K := K) rfl) (pe_op (op_addUK (K := K) rfl) (pe_slice (sl_anyK (K := K) rfl) (pv 2) po_none (po_some (pv 4))) (pe_slice (sl_anyK (K := K) rfl) (pv 2) (po_some (pv 3)) (po_some (pe_op (op_addUK (K := K) rfl) (pv 3) pe_int)))) (pe_slice (sl_anyK (K := K) rfl) (pv 2) (po_some (pv 4)) po_none))))
 pss_nil)
 (C8.pss_cut (ps_if (pt_cmpR (op_eqUK (K := K) rfl hr.units) (pv 6) pe_int (nomark _))
 (pss_one (ps_asg (pe_tup (pa_cons (pe_ix (ix_seqK (K := K) rfl) (pv 2) (pv 4) (fun _ _ => rfl)) (pa_cons (pe_ix (ix_seqK (K := K) rfl) (pv 2) (pv 3) (fun _ _ => rfl)) pa_nil))) (pg_tupK (K := K) (n := 2) rfl rfl (pgs_cons (pg_sub (pv 2) (pv 3) set_list) (pgs_cons (pg_sub (pv 2) (pv 4) set_list) pgs_nil)))))
 pss_nil)
 (C8.pss_cut (ps_if (pt_cmpR (op_eqUK (K := K) rfl hr.units) (pv 6) pe_int (nomark _))
 (pss_one (ps_set (i := 5) sc_Lbent_lines.nd rfl (by first | exact Or.inl rfl | exact Or.inr rfl) (pe_op (op_addUK (K := K) rfl) (pe_slice (sl_anyK (K := K) rfl) (pv 5) po_none (po_some (pv 7))) (pe_slice (sl_anyK (K := K) rfl) (pv 5) (po_some (pe_op (op_addUK (K := K) rfl) (pv 7) pe_int)) po_none))))
 pss_nil)
 (C8.pss_cut (ps_if (pt_cmpR (op_eqUK (K := K) rfl hr.units) (pv 6) pe_int (nomark _))
 (pss_one (ps_set (i := 5) sc_Lbent_lines.nd rfl (by first | exact Or.inl rfl | exact Or.inr rfl) (pe_op (op_addUK (K := K) rfl) (pe_op (op_addUK (K := K) rfl) (pe_slice (sl_anyK (K := K) rfl) (pv 5) po_none (po_some (pv 7))) (pe_slice (sl_anyK (K := K) rfl) (pv 5) (po_some (pv 7)) (po_some (pe_op (op_addUK (K := K) rfl) (pv 7) pe_int)))) (pe_slice (sl_anyK (K := K) rfl) (pv 5) (po_some (pv 7)) po_none))))
 pss_nil)
 (C8.pss_cut (ps_if (pt_cmpR (op_eqUK (K := K) rfl hr.units) (pv 6) pe_int (nomark _))
 (pss_one (ps_asg (pe_tup (pa_cons (pe_ix (ix_seqK (K := K) rfl) (pv 5) (pv 8) (fun _ _ => rfl)) (pa_cons (pe_ix (ix_seqK (K := K) rfl) (pv 5) (pv 7) (fun _ _ => rfl)) pa_nil))) (pg_tupK (K := K) (n := 2) rfl rfl (pgs_cons (pg_sub (pv 5) (pv 7) set_list) (pgs_cons (pg_sub (pv 5) (pv 8) set_list) pgs_nil)))))
 pss_nil)
 (C8.pss_cut (ps_if (pt_cmpR op_gt (pv 6) pe_int (nomark _))
 (pss_cons (ps_set (i := 9) sc_Lbent_lines.nd rfl (by first | exact Or.inl rfl | exact Or.inr rfl) (pe_lst (pa_cons pe_str (pa_cons pe_str (pa_cons pe_str (pa_cons pe_str (pa_cons pe_str (pa_cons pe_str (pa_cons pe_str (pa_cons pe_str (pa_cons pe_str (pa_cons pe_str (pa_cons pe_str (pa_cons pe_str (pa_cons pe_str (pa_cons (pe_ix (ix_seqK (K := K) rfl) (pv 5) (pv 8) (fun _ _ => rfl)) pa_nil))))))))))))))))
 (pss_cons (ps_set (i := 9) sc_Lbent_lines.nd rfl (by first | exact Or.inl rfl | exact Or.inr rfl) (pe_op (op_addUK (K := K) rfl) (pv 9) (pe_lst (pa_cons (pe_op op_mulT pe_str pe_int) (pa_cons (pe_op (op_addUK (K := K) rfl) pe_str (pe_op op_mulT pe_str pe_int)) (pa_cons (pe_op (op_addUK (K := K) rfl) pe_str (pe_op op_mulT pe_str pe_int)) (pa_cons pe_str pa_nil)))))))
 (pss_one (ps_asg (pe_callR F_Lpick (hr.mono (by first | decide | omega)) T.k_Lpick rfl T.g__law_pick passL (pa_cons (pv 0) (pa_cons (pv 9) pa_nil))) (pg_sub (pv 5) (pv 7) set_list)))))
 pss_nil)
 (C8.pss_cut (ps_if (pt_cmpR op_gt (pv 6) pe_int (nomark _))
 (pss_one (ps_asg (pe_join pe_str (pv 5)) (pg_sub (pv 2) (pv 3) set_list)))
 pss_nil)
 (pss_one (ps_ret (pe_join pe_str (pv 2)))))))))))))))), ?_⟩
    try dsimp only [cxOf]
    walk_at "go"
    refine ⟨_, _, rfl, rfl, by decide, (by show s.length + 2 ≤ 16777216; omega), fun p hp0 => ?_⟩
    have hwl : wt (Txt.split s "\n") ≤ s.length + 1 := by rw [nl_mk]; exact wt_split s 10
    have hne : Txt.split s "\n" ≠ [] := by rw [nl_mk]; exact split_ne s 10
    generalize Txt.split s "\n" = ls0 at hwl hne ⊢
    have hlen : 0 < ls0.length := List.length_pos_iff.mpr hne
    have hln := wt_len ls0
    have g1 := Gr.new (o := .lst (ls0.map V.str)) hp0
    have h1 : (upd H p (.lst (ls0.map V.str))) p = some (.lst (ls0.map V.str)) := upd_same
    have hpc := hp.free hp0
    replace hp := g1.pen hp
    generalize upd H p (.lst (ls0.map V.str)) = H1 at g1 h1 hp ⊢
    walk_at "go"
    rw [List.length_map]
    refine r_draw hp (by omega) (by omega) (by omega) fun v1 n1 H2 v10 v11 hn1 kp1 hp1 => ?_
    obtain ⟨at', rfl⟩ := Int.eq_ofNat_of_zero_le v10
    walk_at "go"
    refine r_lenL (SqL.of (kp1.l h1)) ?_
    walk_at "go"
    rw [List.length_map]
    refine r_draw hp1 (by omega) (by omega) (by omega) fun v2 n2 H3 v20 v21 hn2 kp2 hp2 => ?_
    obtain ⟨to, rfl⟩ := Int.eq_ofNat_of_zero_le v20
    have h3 := kp2.l (kp1.l h1)
    walk_at "go"
    obtain ⟨li, hli⟩ : ∃ li, ls0[at']? = some li := ⟨ls0[at']'(by omega), by simp⟩
    have hlm := List.mem_of_getElem? hli
    have hlw := wt_mem hlm
    refine r_ixL (SqL.of h3) (atI_nat (by rw [List.getElem?_map, hli]; rfl)) ?_
    refine ⟨⟨_, rfl⟩, _, _, rfl, rfl, by decide, (by show li.length + 2 ≤ 16777216; omega), fun q hq0 => ?_⟩
    have hww : wt (Txt.split li " ") ≤ li.length + 1 := by rw [sp_mk]; exact wt_split li 32
    have hne2 : Txt.split li " " ≠ [] := by rw [sp_mk]; exact split_ne li 32
    generalize Txt.split li " " = ws0 at hww hne2 ⊢
    have hlen2 : 0 < ws0.length := List.length_pos_iff.mpr hne2
    have hwn := wt_len ws0
    have b0 : BLs z H (upd H3 q (.lst (ws0.map V.str))) n2 p q ls0 ws0 := by
      have kk := (g1.kp.trans kp1).trans kp2
      have nq := Gr.new (o := .lst (ws0.map V.str)) hq0
      exact ⟨kk.trans nq.kp, nq.pen hp2, hp0, kk.f _ hq0, nq.e _ _ h3, upd_same, ne_of_none h3 hq0, hpc.2, (hp2.free hq0).2⟩
    generalize upd H3 q (.lst (ws0.map V.str)) = H4 at b0 ⊢
    walk_at "go"
    refine r_draw b0.pen (by omega) (by omega) (by omega) fun way n3 H5 w0 w8 hn3 kp3 hp3 => ?_
    replace b0 := b0.go kp3 hp3
    walk_at "go"
    refine r_lenL (SqL.of b0.lq) ?_
    walk_at "go"
    rw [List.length_map]
    refine r_draw b0.pen (by omega) (by omega) (by omega) fun v4 n4 H6 v40 v41 hn4 kp4 hp4 => ?_
    obtain ⟨ko, rfl⟩ := Int.eq_ofNat_of_zero_le v40
    replace b0 := b0.go kp4 hp4
    walk_at "go"
    refine r_lenL (SqL.of b0.lq) ?_
    walk_at "go"
    rw [List.length_map]
    refine r_draw b0.pen (by omega) (by omega) (by omega) fun v5 n5 H7 v50 v51 hn5 kp5 hp5 => ?_
    obtain ⟨jo, rfl⟩ := Int.eq_ofNat_of_zero_le v50
    replace b0 := b0.go kp5 hp5
    walk_at "go"
    have hN1 : wt ls0 ≤ s.length + 1 := hwl
    have hN2 : wt ws0 ≤ s.length + 1 := by omega
    generalize hN : s.length + 1 = N at hN1 hN2
    have hNb : N ≤ 1000001 := by omega
    -- 0
    refine r_cut (Mid z H n N s ls0 ws0 at' to ko jo way 1 0) ?_ ?_
    · walk_at "go"
      refine r_iteD (fun c => ?_) fun c => ?_
      · walk_at "go"
        refine r_slL (SqL.of b0.lp) fun r1 hr1 => ?_
        obtain ⟨l1, e1, w1⟩ := cut_strs ls0 none (some (at' : Int))
        rw [e1]
        have b1 := b0.new (o := .lst (l1.map V.str)) hr1
        have h1' : (upd H7 r1 (.lst (l1.map V.str))) r1 = some (.lst (l1.map V.str)) := upd_same
        generalize upd H7 r1 (.lst (l1.map V.str)) = H8 at b1 h1' ⊢
        walk_at "go"
        refine r_slL (SqL.of b1.lp) fun r2 hr2 => ?_
        obtain ⟨l2, e2, w2⟩ := cut_strs ls0 (some ((at' : Int) + 1)) none
        rw [e2]
        have b2 := b1.new (o := .lst (l2.map V.str)) hr2
        have h2' : (upd H8 r2 (.lst (l2.map V.str))) r2 = some (.lst (l2.map V.str)) := upd_same
        replace h1' := (Gr.new (o := .lst (l2.map V.str)) hr2).e _ _ h1'
        generalize upd H8 r2 (.lst (l2.map V.str)) = H9 at b2 h1' h2' ⊢
        have z1 := wt_len l1
        have z2 := wt_len l2
        refine r_catL h1' h2' (by rw [List.length_map, List.length_map]; show _ ≤ 16777216; omega) fun r3 hr3 => ?_
        rw [← List.map_append]
        have z3 := wt_app l1 l2
        exact ⟨n5, r3, q, l1 ++ l2, ws0, _, rfl, by omega, b2.repP hr3, by omega, by omega, fun h => by omega, fun _ => rfl⟩
      · walk_at "go"
        exact ⟨n5, p, q, ls0, ws0, _, rfl, by omega, b0, by omega, by omega, fun _ => rfl, fun _ => rfl⟩
    clear b0
    rintro σ1 K1 ⟨n6, p6, q6, ls, ws, o9, rfl, hn6, b0, wl, ww, el, ew⟩
    rw [ew w0] at b0 ww
    clear ew
    -- 1
    refine r_cut (Mid z H n N s ls0 ws0 at' to ko jo way 2 0) ?_ ?_
    · walk_at "go"
      refine r_iteD (fun c => ?_) fun c => ?_
      · rw [el (by omega)] at b0
        walk_at "go"
        refine r_slL (SqL.of b0.lp) fun r1 hr1 => ?_
        obtain ⟨l1, e1, w1⟩ := cut_strs ls0 none (some (to : Int))
        rw [e1]
        have b1 := b0.new (o := .lst (l1.map V.str)) hr1
        have h1' : (upd K1 r1 (.lst (l1.map V.str))) r1 = some (.lst (l1.map V.str)) := upd_same
        generalize upd K1 r1 (.lst (l1.map V.str)) = H8 at b1 h1' ⊢
        walk_at "go"
        refine r_slL (SqL.of b1.lp) fun r2 hr2 => ?_
        obtain ⟨l2, e2, w2⟩ := cut_strs ls0 (some (at' : Int)) (some ((at' : Int) + 1))
        rw [e2]
        have b2 := b1.new (o := .lst (l2.map V.str)) hr2
        have h2' : (upd H8 r2 (.lst (l2.map V.str))) r2 = some (.lst (l2.map V.str)) := upd_same
        replace h1' := (Gr.new (o := .lst (l2.map V.str)) hr2).e _ _ h1'
        generalize upd H8 r2 (.lst (l2.map V.str)) = H9 at b2 h1' h2' ⊢
        have z1 := wt_len l1
        have z2 := wt_len l2
        refine r_catL h1' h2' (by rw [List.length_map, List.length_map]; show _ ≤ 16777216; omega) fun r3 hr3 => ?_
        rw [← List.map_append]
        have z3 := wt_app l1 l2
        have b3 := b2.new (o := .lst ((l1 ++ l2).map V.str)) hr3
        have h3' : (upd H9 r3 (.lst ((l1 ++ l2).map V.str))) r3 = some (.lst ((l1 ++ l2).map V.str)) := upd_same
        generalize upd H9 r3 (.lst ((l1 ++ l2).map V.str)) = H10 at b3 h3' ⊢
        generalize l1 ++ l2 = l12 at h3' z3 ⊢
        walk_at "go"
        refine r_slL (SqL.of b3.lp) fun r4 hr4 => ?_
        obtain ⟨l3, e3, w3⟩ := cut_strs ls0 (some (to : Int)) none
        rw [e3]
        have b4 := b3.new (o := .lst (l3.map V.str)) hr4
        have h4' : (upd H10 r4 (.lst (l3.map V.str))) r4 = some (.lst (l3.map V.str)) := upd_same
        replace h3' := (Gr.new (o := .lst (l3.map V.str)) hr4).e _ _ h3'
        generalize upd H10 r4 (.lst (l3.map V.str)) = H11 at b4 h3' h4' ⊢
        have z4 := wt_len l12
        have z5 := wt_len l3
        refine r_catL h3' h4' (by rw [List.length_map, List.length_map]; show _ ≤ 16777216; omega) fun r5 hr5 => ?_
        rw [← List.map_append]
        have z6 := wt_app l12 l3
        exact ⟨n6, r5, q6, l12 ++ l3, ws0, _, rfl, by omega, b4.repP hr5, by omega, by omega, fun h => by omega, fun _ => rfl⟩
      · walk_at "go"
        exact ⟨n6, p6, q6, ls, ws0, _, rfl, by omega, b0, by omega, by omega, fun h => el (by omega), fun _ => rfl⟩
    clear b0 wl ww el
    rintro σ2 K2 ⟨n7, p7, q7, ls1, ws1, o9', rfl, hn7, b0, wl, ww, el, ew⟩
    rw [ew w0] at b0 ww
    clear ew
    -- 2
    refine r_cut (Mid z H n N s ls0 ws0 at' to ko jo way 3 0) ?_ ?_
    · walk_at "go"
      refine r_iteD (fun c => ?_) fun c => ?_
      · rw [el (by omega)] at b0
        obtain ⟨lt, hlt⟩ : ∃ lt, ls0[to]? = some lt := ⟨ls0[to]'(by omega), by simp⟩
        have hltw := wt_mem (List.mem_of_getElem? hlt)
        walk_at "go"
        refine r_ixL (SqL.of b0.lp) (atI_nat (by rw [List.getElem?_map, hlt]; rfl)) ?_
        walk_at "go"
        refine r_ixL (SqL.of b0.lp) (atI_nat (by rw [List.getElem?_map, hli]; rfl)) ?_
        walk_at "go"
        refine ⟨by show 2 ≤ 16777216; decide, fun t1 ht1 => ?_⟩
        replace b0 := b0.new (o := .tup [V.str lt, V.str li]) ht1
        refine r_gtup upd_same rfl ?_
        walk_at "go"
        refine r_setL b0.lp (ixn (by rw [List.length_map]; omega)) ?_
        rw [set_map]
        replace b0 := b0.setP (xs := ls0.set at' lt)
        walk_at "go"
        refine r_setL b0.lp (ixn (by rw [List.length_map, List.length_set]; omega)) ?_
        rw [set_map]
        replace b0 := b0.setP (xs := (ls0.set at' lt).set to li)
        have y1 := wt_set ls0 at' lt
        have y2 := wt_set (ls0.set at' lt) to li
        walk_at "go"
        exact ⟨n7, p7, q7, _, ws0, _, rfl, by omega, b0, by omega, by omega, fun h => by omega, fun _ => rfl⟩
      · walk_at "go"
        exact ⟨n7, p7, q7, ls1, ws0, _, rfl, by omega, b0, by omega, by omega, fun h => el (by omega), fun _ => rfl⟩
    clear b0 wl ww el
    rintro σ3 K3 ⟨n8, p8, q8, ls2, ws2, o9'', rfl, hn8, b0, wl, ww, el, ew⟩
    rw [ew w0] at b0 ww
    clear ew
    -- 3
    refine r_cut (Mid z H n N s ls0 ws0 at' to ko jo way 3 4) ?_ ?_
    · walk_at "go"
      refine r_iteD (fun c => ?_) fun c => ?_
      · walk_at "go"
        refine r_slL (SqL.of b0.lq) fun r1 hr1 => ?_
        obtain ⟨l1, e1, w1⟩ := cut_strs ws0 none (some (ko : Int))
        rw [e1]
        have b1 := b0.new (o := .lst (l1.map V.str)) hr1
        have h1' : (upd K3 r1 (.lst (l1.map V.str))) r1 = some (.lst (l1.map V.str)) := upd_same
        generalize upd K3 r1 (.lst (l1.map V.str)) = H8 at b1 h1' ⊢
        walk_at "go"
        refine r_slL (SqL.of b1.lq) fun r2 hr2 => ?_
        obtain ⟨l2, e2, w2⟩ := cut_strs ws0 (some ((ko : Int) + 1)) none
        rw [e2]
        have b2 := b1.new (o := .lst (l2.map V.str)) hr2
        have h2' : (upd H8 r2 (.lst (l2.map V.str))) r2 = some (.lst (l2.map V.str)) := upd_same
        replace h1' := (Gr.new (o := .lst (l2.map V.str)) hr2).e _ _ h1'
        generalize upd H8 r2 (.lst (l2.map V.str)) = H9 at b2 h1' h2' ⊢
        have z1 := wt_len l1
        have z2 := wt_len l2
        refine r_catL h1' h2' (by rw [List.length_map, List.length_map]; show _ ≤ 16777216; omega) fun r3 hr3 => ?_
        rw [← List.map_append]
        have z3 := wt_app l1 l2
        exact ⟨n8, p8, r3, ls2, l1 ++ l2, _, rfl, by omega, b2.repQ hr3, by omega, by omega, el, fun h => by omega⟩
      · walk_at "go"
        exact ⟨n8, p8, q8, ls2, ws0, _, rfl, by omega, b0, by omega, by omega, el, fun _ => rfl⟩
    clear b0 wl ww el
    rintro σ4 K4 ⟨n9, p9, q9, ls3, ws3, o9a, rfl, hn9, b0, wl, ww, el, ew⟩
    -- 4
    refine r_cut (Mid z H n N s ls0 ws0 at' to ko jo way 3 5) ?_ ?_
    · walk_at "go"
      refine r_iteD (fun c => ?_) fun c => ?_
      · rw [ew (by omega)] at b0
        walk_at "go"
        refine r_slL (SqL.of b0.lq) fun r1 hr1 => ?_
        obtain ⟨l1, e1, w1⟩ := cut_strs ws0 none (some (ko : Int))
        rw [e1]
        have b1 := b0.new (o := .lst (l1.map V.str)) hr1
        have h1' : (upd K4 r1 (.lst (l1.map V.str))) r1 = some (.lst (l1.map V.str)) := upd_same
        generalize upd K4 r1 (.lst (l1.map V.str)) = H8 at b1 h1' ⊢
        walk_at "go"
        refine r_slL (SqL.of b1.lq) fun r2 hr2 => ?_
        obtain ⟨l2, e2, w2⟩ := cut_strs ws0 (some (ko : Int)) (some ((ko : Int) + 1))
        rw [e2]
        have b2 := b1.new (o := .lst (l2.map V.str)) hr2
        have h2' : (upd H8 r2 (.lst (l2.map V.str))) r2 = some (.lst (l2.map V.str)) := upd_same
        replace h1' := (Gr.new (o := .lst (l2.map V.str)) hr2).e _ _ h1'
        generalize upd H8 r2 (.lst (l2.map V.str)) = H9 at b2 h1' h2' ⊢
        have z1 := wt_len l1
        have z2 := wt_len l2
        refine r_catL h1' h2' (by rw [List.length_map, List.length_map]; show _ ≤ 16777216; omega) fun r3 hr3 => ?_
        rw [← List.map_append]
        have z3 := wt_app l1 l2
        have b3 := b2.new (o := .lst ((l1 ++ l2).map V.str)) hr3
        have h3' : (upd H9 r3 (.lst ((l1 ++ l2).map V.str))) r3 = some (.lst ((l1 ++ l2).map V.str)) := upd_same
        generalize upd H9 r3 (.lst ((l1 ++ l2).map V.str)) = H10 at b3 h3' ⊢
        generalize l1 ++ l2 = l12 at h3' z3 ⊢
        walk_at "go"
        refine r_slL (SqL.of b3.lq) fun r4 hr4 => ?_
        obtain ⟨l3, e3, w3⟩ := cut_strs ws0 (some (ko : Int)) none
        rw [e3]
        have b4 := b3.new (o := .lst (l3.map V.str)) hr4
        have h4' : (upd H10 r4 (.lst (l3.map V.str))) r4 = some (.lst (l3.map V.str)) := upd_same
        replace h3' := (Gr.new (o := .lst (l3.map V.str)) hr4).e _ _ h3'
        generalize upd H10 r4 (.lst (l3.map V.str)) = H11 at b4 h3' h4' ⊢
        have z4 := wt_len l12
        have z5 := wt_len l3
        refine r_catL h3' h4' (by rw [List.length_map, List.length_map]; show _ ≤ 16777216; omega) fun r5 hr5 => ?_
        rw [← List.map_append]
        have z6 := wt_app l12 l3
        exact ⟨n9, p9, r5, ls3, l12 ++ l3, _, rfl, by omega, b4.repQ hr5, by omega, by omega, el, fun h => by omega⟩
      · walk_at "go"
        exact ⟨n9, p9, q9, ls3, ws3, _, rfl, by omega, b0, by omega, by omega, el, fun h => ew (by omega)⟩
    clear b0 wl ww el ew
    rintro σ5 K5 ⟨n10, p10, q10, ls4, ws4, o9b, rfl, hn10, b0, wl, ww, el, ew⟩
    obtain ⟨wj, hwj⟩ : ∃ wj, ws0[jo]? = some wj := ⟨ws0[jo]'(by omega), by simp⟩
    have hwjw := wt_mem (List.mem_of_getElem? hwj)
    -- 5
    refine r_cut (Mid z H n N s ls0 ws0 at' to ko jo way 3 6) ?_ ?_
    · walk_at "go"
      refine r_iteD (fun c => ?_) fun c => ?_
      · rw [ew (by omega)] at b0
        obtain ⟨wk, hwk⟩ : ∃ wk, ws0[ko]? = some wk := ⟨ws0[ko]'(by omega), by simp⟩
        have hwkw := wt_mem (List.mem_of_getElem? hwk)
        walk_at "go"
        refine r_ixL (SqL.of b0.lq) (atI_nat (by rw [List.getElem?_map, hwj]; rfl)) ?_
        walk_at "go"
        refine r_ixL (SqL.of b0.lq) (atI_nat (by rw [List.getElem?_map, hwk]; rfl)) ?_
        walk_at "go"
        refine ⟨by show 2 ≤ 16777216; decide, fun t1 ht1 => ?_⟩
        replace b0 := b0.new (o := .tup [V.str wj, V.str wk]) ht1
        refine r_gtup upd_same rfl ?_
        walk_at "go"
        refine r_setL b0.lq (ixn (by rw [List.length_map]; omega)) ?_
        rw [set_map]
        replace b0 := b0.setQ (xs := ws0.set ko wj)
        walk_at "go"
        refine r_setL b0.lq (ixn (by rw [List.length_map, List.length_set]; omega)) ?_
        rw [set_map]
        replace b0 := b0.setQ (xs := (ws0.set ko wj).set jo wk)
        have y1 := wt_set ws0 ko wj
        have y2 := wt_set (ws0.set ko wj) jo wk
        walk_at "go"
        exact ⟨n10, p10, q10, ls4, _, _, rfl, by omega, b0, by omega, by omega, el, fun h => by omega⟩
      · walk_at "go"
        exact ⟨n10, p10, q10, ls4, ws4, _, rfl, by omega, b0, by omega, by omega, el, fun h => ew (by omega)⟩
    clear b0 wl ww el ew
    rintro σ6 K6 ⟨n11, p11, q11, ls5, ws5, o9c, rfl, hn11, b0, wl, ww, el, ew⟩
    -- 6
    refine r_cut (Mid z H n N s ls0 ws0 at' to ko jo way 3 8) ?_ ?_
    · walk_at "go"
      refine r_iteD (fun c => ?_) fun c => ?_
      · rw [ew (by omega)] at b0
        walk_at "go"
        refine r_ixL (SqL.of b0.lq) (atI_nat (by rw [List.getElem?_map, hwj]; rfl)) ?_
        walk_at "go"
        refine ⟨by show 14 ≤ 16777216; decide, fun r1 hr1 => ?_⟩
        set_option maxRecDepth 4000 in
        have hw14 : ∀ v ∈ [V.str (Str.ofString ""), V.str (Str.ofString "-"), V.str (Str.ofString "0"), V.str (Str.ofString "-0"),
          V.str (Str.ofString "00"), V.str (Str.ofString "01"), V.str (Str.ofString "+1"), V.str (Str.ofString "-1"),
          V.str (Str.ofString "a"), V.str (Str.ofString "A"), V.str (Str.ofString "abcdefghi"),
          V.str (Str.ofString "1.0"), V.str (Str.ofString "1_0"), V.str wj], ∃ x : Str, v = .str x ∧ x.length ≤ wj.length + 100 := by
          intro v hv
          simp only [List.mem_cons, List.not_mem_nil, or_false] at hv
          rcases hv with h | h | h | h | h | h | h | h | h | h | h | h | h | h <;> subst h
          · exact ⟨_, rfl, Nat.le_trans (m := 100) (by decide) (by omega)⟩
          · exact ⟨_, rfl, Nat.le_trans (m := 100) (by decide) (by omega)⟩
          · exact ⟨_, rfl, Nat.le_trans (m := 100) (by decide) (by omega)⟩
          · exact ⟨_, rfl, Nat.le_trans (m := 100) (by decide) (by omega)⟩
          · exact ⟨_, rfl, Nat.le_trans (m := 100) (by decide) (by omega)⟩
          · exact ⟨_, rfl, Nat.le_trans (m := 100) (by decide) (by omega)⟩
          · exact ⟨_, rfl, Nat.le_trans (m := 100) (by decide) (by omega)⟩
          · exact ⟨_, rfl, Nat.le_trans (m := 100) (by decide) (by omega)⟩
          · exact ⟨_, rfl, Nat.le_trans (m := 100) (by decide) (by omega)⟩
          · exact ⟨_, rfl, Nat.le_trans (m := 100) (by decide) (by omega)⟩
          · exact ⟨_, rfl, Nat.le_trans (m := 100) (by decide) (by omega)⟩
          · exact ⟨_, rfl, Nat.le_trans (m := 100) (by decide) (by omega)⟩
          · exact ⟨_, rfl, Nat.le_trans (m := 100) (by decide) (by omega)⟩
          · exact ⟨_, rfl, by omega⟩
        have hl14 : [V.str (Str.ofString ""), V.str (Str.ofString "-"), V.str (Str.ofString "0"), V.str (Str.ofString "-0"),
          V.str (Str.ofString "00"), V.str (Str.ofString "01"), V.str (Str.ofString "+1"), V.str (Str.ofString "-1"),
          V.str (Str.ofString "a"), V.str (Str.ofString "A"), V.str (Str.ofString "abcdefghi"),
          V.str (Str.ofString "1.0"), V.str (Str.ofString "1_0"), V.str wj].length = 14 := rfl
        generalize [V.str (Str.ofString ""), V.str (Str.ofString "-"), V.str (Str.ofString "0"), V.str (Str.ofString "-0"),
          V.str (Str.ofString "00"), V.str (Str.ofString "01"), V.str (Str.ofString "+1"), V.str (Str.ofString "-1"),
          V.str (Str.ofString "a"), V.str (Str.ofString "A"), V.str (Str.ofString "abcdefghi"),
          V.str (Str.ofString "1.0"), V.str (Str.ofString "1_0"), V.str wj] = l14 at hw14 hl14 ⊢
        have b1 := b0.new (o := .lst l14) hr1
        have h1' : (upd K6 r1 (.lst l14)) r1 = some (.lst l14) := upd_same
        generalize upd K6 r1 (.lst l14) = K7 at b1 h1' ⊢
        walk_at "go"
        intro z1 hz1
        have y1 : z1.length = 80 := hz1
        walk_at "go"
        intro z2 hz2
        have y2 : z2.length = 80 := hz2
        refine r_addS (by rw [y2]; decide) ?_
        walk_at "go"
        intro z3 hz3
        have y3 : z3.length = 80 := hz3
        refine r_addS (by rw [y3]; decide) ?_
        walk_at "go"
        refine ⟨by show 4 ≤ 16777216; decide, fun r2 hr2 => ?_⟩
        have hw4 : ∀ v ∈ [V.str z1, V.str (Str.ofString "1" ++ z2), V.str (Str.ofString "-" ++ z3), V.str (Str.ofString "1000000000000000001")], ∃ x : Str, v = .str x ∧ x.length ≤ wj.length + 100 := by
          intro v hv
          simp only [List.mem_cons, List.not_mem_nil, or_false] at hv
          have q1 : (Str.ofString "1").length = 1 := by decide
          have q2 : (Str.ofString "-").length = 1 := by decide
          rcases hv with h | h | h | h <;> subst h
          · exact ⟨_, rfl, by omega⟩
          · exact ⟨_, rfl, by rw [len_app]; omega⟩
          · exact ⟨_, rfl, by rw [len_app]; omega⟩
          · exact ⟨_, rfl, Nat.le_trans (m := 100) (by decide) (by omega)⟩
        have hl4 : [V.str z1, V.str (Str.ofString "1" ++ z2), V.str (Str.ofString "-" ++ z3), V.str (Str.ofString "1000000000000000001")].length = 4 := rfl
        generalize [V.str z1, V.str (Str.ofString "1" ++ z2), V.str (Str.ofString "-" ++ z3), V.str (Str.ofString "1000000000000000001")] = l4 at hw4 hl4 ⊢
        have b2 := b1.new (o := .lst l4) hr2
        have h2' : (upd K7 r2 (.lst l4)) r2 = some (.lst l4) := upd_same
        replace h1' := (Gr.new (o := .lst l4) hr2).e _ _ h1'
        generalize upd K7 r2 (.lst l4) = K8 at b2 h1' h2' ⊢
        refine r_catL h1' h2' (by rw [hl14, hl4]; decide) fun r3 hr3 => ?_
        have b3 := b2.new (o := .lst (l14 ++ l4)) hr3
        have h3' : (upd K8 r3 (.lst (l14 ++ l4))) r3 = some (.lst (l14 ++ l4)) := upd_same
        generalize upd K8 r3 (.lst (l14 ++ l4)) = K9 at b3 h3' ⊢
        walk_at "go"
        refine r_pickL b3.pen (SqL.of h3') (by intro h; have := congrArg List.length h; rw [List.length_append, hl14] at this; simp at this) (by rw [List.length_append, hl14, hl4]; decide) (by omega) fun v n14 H14 hv hn14 kp14 hp14 => ?_
        obtain ⟨x, rfl, hx⟩ : ∃ x : Str, v = .str x ∧ x.length ≤ wj.length + 100 := by
          rcases List.mem_append.mp hv with h | h
          · exact hw14 _ h
          · exact hw4 _ h
        replace b3 := b3.go kp14 hp14
        walk_at "go"
        refine r_setL b3.lq (ixn (by rw [List.length_map]; omega)) ?_
        rw [set_map]
        replace b3 := b3.setQ (xs := ws0.set ko x)
        have y8 := wt_set ws0 ko x
        exact ⟨n14, p11, q11, ls5, _, _, rfl, by omega, b3, wl, by omega, el, fun h => by omega⟩
      · walk_at "go"
        exact ⟨n11, p11, q11, ls5, ws5, _, rfl, by omega, b0, by omega, by omega, el, fun h => ew (by omega)⟩
    clear b0 wl ww el ew
    rintro σ7 K7 ⟨n12, p12, q12, ls6, ws6, o9d, rfl, hn12, b0, wl, ww, el, ew⟩
    walk_at "go"
    refine r_cut (fun σ' H' => ∃ n' p q ls ws, ∃ o9 : Option V, σ' = [some (.ref z.a), some (.str s), some (.ref p), some (.int at'), some (.int to), some (.ref q), some (.int way), some (.int ko), some (.int jo), o9] ∧
      n' ≤ n + 50 ∧ BLs z H H' n' p q ls ws ∧ wt ls ≤ 4 * N + 301) ?_ ?_
    · walk_at "go"
      refine r_iteD (fun c => ?_) fun c => ?_
      · rw [el (by omega)] at b0
        walk_at "go"
        refine ⟨_, _, ws6, rfl, rfl, .inl (SqL.of b0.lq), ?_, ?_⟩
        · show _ + _ * 1 ≤ 16777216
          unfold wt at ww
          omega
        walk_at "go"
        have yj : (Txt.join " " ws6).length ≤ wt ws6 := by rw [sp_mk]; exact wt_join ws6
        generalize Txt.join " " ws6 = tj at yj ⊢
        refine r_setL b0.lp (ixn (by rw [List.length_map]; omega)) ?_
        rw [set_map]
        replace b0 := b0.setP (xs := ls0.set at' tj)
        have y1 := wt_set ls0 at' tj
        exact ⟨n12, p12, q12, _, ws6, _, rfl, by omega, b0, by omega⟩
      · walk_at "go"
        exact ⟨n12, p12, q12, ls6, ws6, _, rfl, by omega, b0, by omega⟩
    clear b0 wl ww el ew
    rintro σ8 K8 ⟨n13, p13, q13, ls7, ws7, o9e, rfl, hn13, b0, wl⟩
    walk_at "go"
    refine ⟨_, _, ls7, rfl, rfl, .inl (SqL.of b0.lp), ?_, ?_⟩
    · show _ + _ * 1 ≤ 16777216
      unfold wt at wl
      omega
    have yj : (Txt.join "\n" ls7).length ≤ wt ls7 := by rw [nl_mk]; exact wt_join ls7
    exact k _ n13 _ (by omega) (by omega) b0.kp b0.pen
end
end Tx

set_option maxRecDepth 100000
set_option maxHeartbeats 4000000
namespace Tx
open PySem PySem.Spec PyProof.Rows L2 My LamX
section
variable {P : Program} {w : World} {K : PySem.W.Frag} {mg : Str → Option Value} {base : Heap}
/-! ### _law_told -/
theorem pe_or {X : Cx} {e : Expr} {t1 t2 : TE} (h1 : PE X e t1) (h2 : PE X e t2) : PE X e (fun σ H Q => t1 σ H Q ∨ t2 σ H Q) := ⟨fun pins s σ H Q I h => h.elim (h1.run pins s σ H Q I) (h2.run pins s σ H Q I)⟩
theorem takes_len {X : Cx} {W : WX} (t : L2.Takes X W) : L2.Takes X (fun cls d σ H => σ.length = X.N.length → W cls d σ H) := fun u s' ⟨a, B, sI, pins, σ, H, cls, d, e, I, nb, up, sky, na, os, ag, w⟩ =>
  t u s' ⟨a, B, sI, pins, σ, H, cls, d, e, I, nb, up, sky, na, os, ag, w I.len⟩
/-- what is made of an error -/
def toldE (K : PySem.W.Frag) (Q : VK) : XK := fun cls d H => ∃ dd, d = some dd ∧
  ((cls = xPE K ∧ ∃ v, H dd = some (.xd [("line", v)]) ∧ ∀ p a, H a = none → H p = none → Q (.ref p) (upd H p (.tup [.str "parse", v, .bl true]))) ∨
   (cls = xDN K ∧ ∃ v, H dd = some (.xd [("value", v)]) ∧ ∀ p a, H a = none → H p = none → Q (.ref p) (upd H p (.tup [.str "twice", v, .bl true]))) ∨
   (cls = xTM K ∧ ∃ v, H dd = some (.xd [("limit", v)]) ∧ ∀ p a, H a = none → H p = none → Q (.ref p) (upd H p (.tup [.str "many", v, .bl true]))))
def TTold (K : PySem.W.Frag) : (XK → Hp → VK → Prop) → Hp → VK → Prop := fun tl H Q =>
  tl (toldE K Q) H (fun x H1 => ∃ a dx fs, x = .ref a ∧ H1 a = some (.ins (CP K) dx fs) ∧ spPP K (fun r => .str (rowS r)) [.ref a] H1 (fun y H2 => 2 ≤ sizeLine ∧ ∀ p, H2 p = none → Q (.ref p) (upd H2 p (.tup [.str "told", y]))) E0) ∨
  tl (toldE K Q) H (fun x H1 => ∃ a dx fs, x = .ref a ∧ H1 a = some (.ins (CF K) dx fs) ∧ spFText K [.ref a] H1 (fun y H2 => 2 ≤ sizeLine ∧ ∀ p, H2 p = none → Q (.ref p) (upd H2 p (.tup [.str "told", y]))) E0)
theorem call_isOK {Y : Cx} {K : PySem.W.Frag} {C a : Addr} {f : Str} {oe : Obj} {cls : Value} {d : Option Addr} (hK : Y.K = K) (c : ExcC K C) (hz : Zc cls d oe) (hf : ∃ vs, oe.data = .fields vs) (hp : (a, oe) ∈ Y.pn) : CallR Y (.builtin "isinstance") (Ow.rIsO K f C a cls d) := by
  subst hK
  exact Ow.call_isO c hz hf hp
theorem pe_oxFK {Y : Cx} {K : PySem.W.Frag} {C a : Addr} {f : Str} {newId initId B : String} {tl : List Value} {oe : Obj} {cls : Value} {d : Option Addr} {e : Expr} {te : TE} {pos : Pos} (hK : Y.K = K) (hP : Y.prog = PP) (T : Ox.XTxt PP K C f newId initId B tl) (hz : Zc cls d oe) (hf : ∃ vs, oe.data = .fields vs) (hp : (a, oe) ∈ Y.pn) (he : PE Y e te)
    (hb : attributeBase e f Y.env (eval e Y.env) = eval e Y.env := by rfl) : PE Y (.Attribute e f pos) (Ow.tOxF C a f cls d te) := by
  subst hK
  rw [← hP] at T
  exact Ow.pe_oxF T hz hf hp he hb
theorem told_gives {X : Cx} (T : Tx X.K X.mg) (hP : X.prog = PP) {k : Nat} (hr : Room (k + 7) X.A) {q : Str} {g : Addr} {cdg : Value} :
    GivesTo X N_Ltold "_law_told" (defScope s_Ltold) g cdg (defBody s_Ltold) "_law_call" q (TTold X.K) := by
  intro f c' s H Q tl act hc h
  have F_Fence_text := ok_ftext (P := X.prog) (w := X.w) (base := X.base) T
  have F_Painter_text := ok_ptext (P := X.prog) (w := X.w) (base := X.base) T
  have hr' : Room (k + 6) (X.A.deeper (envOfC "_law_told" (defScope s_Ltold) s.heap.objs.size g cdg)) := hr.deeper _
  refine ⟨_, pss_one (Ow.ps_try_asL (X := (cxOf C8.CX0 X.prog X.w X.K X.mg X.base N_Ltold "_law_told" (defScope s_Ltold) g cdg X.A X.stack s H C8.E0).nox) (n := "e") (i := 1) (Wout := fun _ _ _ _ => False)
      (tb := fun W D σ H => ∃ Ech : XK, (∀ cls d σ' H', Ech cls d H' → σ'.length = 2 → W cls d σ' H') ∧ σ[0]? = some (some (.ref f)) ∧ H c' = some (CodeO c' q) ∧
        (tl Ech H (fun x H1 => ∃ a dx fs, x = .ref a ∧ H1 a = some (.ins (CP X.K) dx fs) ∧ spPP X.K (fun r => .str (rowS r)) [.ref a] H1 (fun y H2 => 2 ≤ sizeLine ∧ ∀ p, H2 p = none → D.rt (.ref p) (upd H2 p (.tup [.str "told", y]))) E0) ∨
         tl Ech H (fun x H1 => ∃ a dx fs, x = .ref a ∧ H1 a = some (.ins (CF X.K) dx fs) ∧ spFText X.K [.ref a] H1 (fun y H2 => 2 ≤ sizeLine ∧ ∀ p, H2 p = none → D.rt (.ref p) (upd H2 p (.tup [.str "told", y]))) E0)))
      rfl rfl sc_Ltold.nd rfl rfl LamX.takes0 (fun W pn xe tk _ => ?_)
      (Ow.HdsAs.cons (c := xPE X.K) ⟨rfl, by decide, .inl T.g_ParseError⟩ (fun a oe cls d pn hz hf => pss_one (ps_ret (pe_tup (pa_cons pe_str (pa_cons (pe_oxFK (K := X.K) rfl hP T.x_ParseError hz hf List.mem_cons_self (pv 1)) (pa_cons (pe_callB (call_isOK (K := X.K) (f := "line") rfl T.ec_ParseError hz hf List.mem_cons_self) rfl T.n_isinstance (by decide +kernel) (pa_cons (pv 1) (pa_cons (pe_bltn (v := .ty "ValueError") rfl T.n_ValueError (by decide +kernel) rfl) pa_nil))) pa_nil))))))
      (Ow.HdsAs.cons (c := xDN X.K) ⟨rfl, by decide, .inl T.g_DuplicateName⟩ (fun a oe cls d pn hz hf => pss_one (ps_ret (pe_tup (pa_cons pe_str (pa_cons (pe_oxFK (K := X.K) rfl hP T.x_DuplicateName hz hf List.mem_cons_self (pv 1)) (pa_cons (pe_callB (call_isOK (K := X.K) (f := "value") rfl T.ec_DuplicateName hz hf List.mem_cons_self) rfl T.n_isinstance (by decide +kernel) (pa_cons (pv 1) (pa_cons (pe_bltn (v := .ty "ValueError") rfl T.n_ValueError (by decide +kernel) rfl) pa_nil))) pa_nil))))))
      (Ow.HdsAs.cons (c := xTM X.K) ⟨rfl, by decide, .inl T.g_TooMany⟩ (fun a oe cls d pn hz hf => pss_one (ps_ret (pe_tup (pa_cons pe_str (pa_cons (pe_oxFK (K := X.K) rfl hP T.x_TooMany hz hf List.mem_cons_self (pv 1)) (pa_cons (pe_callB (call_isOK (K := X.K) (f := "limit") rfl T.ec_TooMany hz hf List.mem_cons_self) rfl T.n_isinstance (by decide +kernel) (pa_cons (pv 1) (pa_cons (pe_bltn (v := .ty "OverflowError") rfl T.n_OverflowError (by decide +kernel) rfl) pa_nil))) pa_nil))))))
      Ow.HdsAs.nil)))), ?_⟩
  · refine ⟨fun pins s' σ H' D I h' => ?_⟩
    obtain ⟨Ech, hW, h1, h2, h3⟩ := h'
    refine (pss_one (ps_ret (pe_tup (pa_cons pe_str (pa_cons (pe_or
      (pe_propR (act (fun cls d σ H => σ.length = 2 → W cls d σ H) pn xe Ech _ _ (takes_len tk) hW) T.cl_Painter T.pr_Painter_text F_Painter_text (hr'.mono (by omega)) passL)
      (pe_propR (act (fun cls d σ H => σ.length = 2 → W cls d σ H) pn xe Ech _ _ (takes_len tk) hW) T.cl_Fence T.pr_Fence_text F_Fence_text (hr'.mono (by omega)) passL)) pa_nil))))).run pins s' σ H' D I ?_
    rcases h3 with h3 | h3
    · exact .inl ⟨h1, h2, h3⟩
    · exact .inr ⟨h1, h2, h3⟩
  · refine ⟨toldE X.K Q, fun cls d σ' H' ⟨dd, ed, hh⟩ hl => ?_, rfl, hc, h⟩
    subst ed
    obtain ⟨o0, o1, rfl⟩ : ∃ o0 o1, σ' = [o0, o1] := by
      match σ', hl with
      | [a, b], _ => exact ⟨a, b, rfl⟩
    rcases hh with ⟨rfl, v, hv, k⟩ | ⟨rfl, v, hv, k⟩ | ⟨rfl, v, hv, k⟩
    · refine ⟨true, T.xm_ParseError_ParseError, fun _ a ha => ?_, fun z => nomatch z⟩
      exact ⟨_, rfl, rfl, rfl, dd, v, rfl, hv, _, rfl, _, _, true, rfl, fun u h => h, rfl, ⟨dd, v, rfl, hv⟩, T.kt_ParseError_ValueError, (by show 3 ≤ 16777216; decide), fun p hp => k p a ha hp⟩
    · refine ⟨false, T.xm_DuplicateName_ParseError, fun z => (nomatch z), fun _ => ?_⟩
      refine ⟨true, T.xm_DuplicateName_DuplicateName, fun _ a ha => ?_, fun z => nomatch z⟩
      exact ⟨_, rfl, rfl, rfl, dd, v, rfl, hv, _, rfl, _, _, true, rfl, fun u h => h, rfl, ⟨dd, v, rfl, hv⟩, T.kt_DuplicateName_ValueError, (by show 3 ≤ 16777216; decide), fun p hp => k p a ha hp⟩
    · refine ⟨false, T.xm_TooMany_ParseError, fun z => (nomatch z), fun _ => ?_⟩
      refine ⟨false, T.xm_TooMany_DuplicateName, fun z => (nomatch z), fun _ => ?_⟩
      refine ⟨true, T.xm_TooMany_TooMany, fun _ a ha => ?_, fun z => nomatch z⟩
      exact ⟨_, rfl, rfl, rfl, dd, v, rfl, hv, _, rfl, _, _, true, rfl, fun u h => h, rfl, ⟨dd, v, rfl, hv⟩, T.kt_TooMany_OverflowError, (by show 3 ≤ 16777216; decide), fun p hp => k p a ha hp⟩
end
end Tx

set_option maxRecDepth 100000
set_option maxHeartbeats 4000000
namespace My
open PySem PySem.Spec PyProof.Rows L2
section
variable {P : Program} {w : World} {K : PySem.W.Frag} {mg : Str → Option Value} {base : Heap} {CX : CXT} {k : Nat} {f : Addr} {sp : Sp} {x qual : Str} {params : Arguments} {body : List Stmt} {scope : Scope} {N ps : List Str}
theorem codeAt_of {oc : Value} {od : Option Addr} {fd : FuncData} {osl : Array (Option Value)} {q : Str} (lk : K.lookup f = some ⟨oc, od, .func fd, osl⟩) (hc : PySem.W.codeIn K fd.code q = true) : fd.code = .ref (Hk.codeAt K f) := by
  unfold Hk.codeAt
  rw [lk]
  cases e : fd.code with
  | ref c =>
    show Value.ref c = Value.ref (match fd.code with | Value.ref c => c | _ => 0)
    rw [e]
  | _ => rw [e] at hc; cases hc
/-- a law's def that makes lambdas: its code object is known -/
theorem fnG_ofT (F : ∃ fd, FunD K x qual params body scope [] [] f fd) (S : FnScope N ps scope)
    (hb : ∀ (kV doc pm : Value) (an : Option Addr) (cdv ct : Value) (us : List Value), us.length = ps.length → bindArgs (PySem.W.fnOf x qual params body scope .none kV doc pm an cdv ct) ⟨us, []⟩ = pure (ps.zip us))
    (len : ∀ vs H Q E, sp vs H Q E → vs.length = ps.length)
    (hbody : ∀ (A : Around) (outer : List Env) (s : Shared) (H : Hp) (vs : List V) (Q : VK) (E : XK) (cdv : Value), cdv = .ref (Hk.codeAt K f) → (A.deeper (envOfC qual scope s.heap.objs.size f cdv)).guards = some [] → Room k (A.deeper (envOfC qual scope s.heap.objs.size f cdv)) → sp vs H Q E →
      ∃ t, PSs (cxOf CX P w K mg base N qual scope f cdv A outer s H E) body t ∧ t { nx := fun _ H' => Q .non H', rt := Q } (start N vs) H) :
    FnG P w K mg base CX (k + 1) f sp := by
  obtain ⟨fd, F⟩ := F
  obtain ⟨oc, od, dV, kV, doc, pm, an, cdv, ct, osl, rfl, lk, hcd, hd, hk⟩ := F.ex
  have ec : cdv = .ref (Hk.codeAt K f) := codeAt_of lk hcd
  intro A outer s H us vs Q E hr hg e0 r hsp
  rcases hd with ⟨_, hd⟩ | ⟨hd, _⟩
  · subst hd
    have hl : us.length = ps.length := by rw [← r.length]; exact len _ _ _ _ hsp
    refine StX.run_bnd lk hcd S hr e0 (G := fun ws H2 => ws = vs ∧ H2 = H) (fun A' Ex Q' h => ?_) fun s2 H2 ws hw hr' => ?_
    · obtain ⟨ds, rd, hbt⟩ := bindsR_all (hb kV doc pm an cdv ct) s us (e0.mod.kin.keeps fun b o e => (e0.bs b o e).1) hl
      cases rd
      rw [List.append_nil] at hbt
      refine hbt _ A' Ex _ ?_
      exact h s H vs us e0 Un.refl rfl (fun _ _ z => z) r (len _ _ _ _ hsp) ⟨rfl, rfl⟩
    · obtain ⟨e1, e2⟩ := hw
      subst e1 e2
      exact hbody A outer s2 _ ws Q E cdv ec (guards_deeper hg) hr' hsp
  · exact absurd rfl hd
end
end My
namespace Tx
open PySem PySem.Spec PyProof.Rows L2 My LamX
section
variable {P : Program} {w : World} {K : PySem.W.Frag} {mg : Str → Option Value} {base : Heap}
/-! ### what a text tells is the text -/
theorem readS_row {s : Str} {r : Rw} (h : readS s = some r) : rowS r = s := by
  by_cases hl : (Txt.split s " ").length = 4
  · obtain ⟨nm, a, b, c, e⟩ := four hl
    rw [readS_four e] at h
    split at h
    · cases ea : intIn 80 a with
      | none => rw [ea] at h; cases h
      | some i =>
        cases eb : intIn 80 b with
        | none => rw [ea, eb] at h; cases h
        | some j =>
          cases ec : intIn 80 c with
          | none => rw [ea, eb, ec] at h; cases h
          | some k =>
            rw [ea, eb, ec] at h
            have h : (if NumOk ⟨nm, i, j, k⟩ then some (⟨nm, i, j, k⟩ : Rw) else none) = some r := h
            split at h
            · cases h
              unfold rowS
              show Txt.join " " [nm, tS i, tS j, tS k] = s
              rw [intIn_inv ea, intIn_inv eb, intIn_inv ec, ← e, sp_mk]
              exact join_split s 32
            · cases h
    · cases h
  · rw [readS_short hl] at h
    cases h
theorem all_rows : ∀ {l : List Str}, (∀ s ∈ l, ∃ r, readS s = some r) → (l.filterMap readS).map rowS = l
  | [], _ => rfl
  | s :: l, h => by
    obtain ⟨r, hr⟩ := h s List.mem_cons_self
    rw [List.filterMap_cons, hr]
    show rowS r :: (List.filterMap readS l).map rowS = s :: l
    rw [all_rows fun x hx => h x (List.mem_cons_of_mem _ hx), readS_row hr]
theorem told_text {s : Str} {rs : List Rw} (h : dueL (linesOf s) = .told rs) : fenceS rs = s := by
  unfold dueL at h
  split at h
  · cases h
  · rename_i hb
    split at h
    · cases h
    · split at h
      · cases h
      · cases h
        have ha := all_rows (bad_none hb)
        unfold fenceS
        rw [ha]
        unfold linesOf
        by_cases h0 : s = ""
        · rw [if_pos h0, h0]
          decide
        · rw [if_neg h0, nl_mk]
          exact join_split s 10
theorem read_nl {t : Str} : readS (t ++ "\n") = none := by
  cases e : readS (t ++ "\n") with
  | none => rfl
  | some r =>
    have h1 := readS_row e
    have h2 := row_free (readS_ok e).2.2
    rw [h1, cl_app, nl_cl] at h2
    exact absurd (List.mem_append_right _ List.mem_cons_self) h2
/-! ### _law_told with a lambda -/
theorem pe_told {X : Cx} (T : Tx X.K X.mg) (hP : X.prog = PP) {k : Nat} (hr : Room (k + 8) X.A) {c Pt : Addr} (TB : TabB X.base X.mg c Pt) (hcode : X.env.code = .ref c) {q : Str} (hq : X.env.qual ++ "<lambda>" = q) {params : Arguments} {body : Expr} {scope : Scope} {t : XK → TE} {p lpos pos : Pos}
    (hg : Gl X "_law_told") (L : LamS X.env.scope scope) (hdef : defaultsOf params X.env = ([], []))
    (hbind : ∀ (q : Str) (cl : List (Str × Addr)) (pm cv ctv : Value), bindArgs (PySem.W.kla_fn "<lambda>" q params body scope cl pm cv ctv) ⟨[], []⟩ = pure [])
    (hbody : ∀ (A : Around) (outer : List Env) (s : Shared) (H : Hp) (E : XK) (f c' : Addr), Room (k + 6) (A.deeper (lamEnv X scope s.heap.objs.size f c')) → PE (lamCx X A outer s H E scope f c') body (t E)) :
    PE X (.Call (.Name "_law_told" p) [.Lambda params body scope lpos] [] pos) (tLam [(Pt, q)] (TTold X.K) t) := by
  subst hq
  obtain ⟨fd, F⟩ := T.f_Ltold
  obtain ⟨oc, od, dV, kV, doc, pm, an, cdv, ct, osl, rfl, lk, hcd, hd, hk⟩ := F.ex
  rcases hd with ⟨_, hd⟩ | ⟨hd, _⟩
  · subst hd
    refine pe_lamcall (a := "_law_call") (Ng := N_Ltold) (c := c) hg T.g__law_told F.kp lk hcd (Binds.all fun us hl => ?_) sc_Ltold rfl (.inl rfl) (told_gives (k := k) T hP (hr.mono (by omega))) TB hcode List.mem_cons_self (fun p hp _ => ?_) hr L hdef hbind hbody
    · match us, hl with
      | [_], _ => rfl
    · rcases List.mem_cons.mp hp with rfl | hp
      · rfl
      · exact (List.not_mem_nil hp).elim
  · exact absurd rfl hd
end
end Tx

set_option maxRecDepth 100000
set_option maxHeartbeats 4000000
namespace Tx
open PySem PySem.Spec PyProof.Rows L2 My LamX
section
variable {P : Program} {w : World} {K : PySem.W.Frag} {mg : Str → Option Value} {base : Heap}
/-! ### what stays when a lambda is made -/
theorem exN_l {H H' : Hp} (e : ExtN H H') {p : Addr} {xs : List V} (h : H p = some (.lst xs)) : H' p = some (.lst xs) := e _ _ h fun _ z => nomatch z
theorem exN_t {H H' : Hp} (e : ExtN H H') {p : Addr} {xs : List V} (h : H p = some (.tup xs)) : H' p = some (.tup xs) := e _ _ h fun _ z => nomatch z
theorem Pen.exN {z : PenI} {n : Nat} {H H' : Hp} (e : ExtN H H') (d : Pen H z n) : Pen H' z n := by
  obtain ⟨b, r, d, y⟩ := d
  exact ⟨b, r, ⟨e _ _ d.d fun _ z => (nomatch z), e _ _ d.c fun _ z => (nomatch z)⟩, y⟩
theorem Kn.exN {H H' : Hp} (e : ExtN H H') : ∀ {v : V}, Kn K H v → Kn K H' v
  | .non, _ => trivial
  | .bl _, _ => trivial
  | .int _, _ => trivial
  | .str _, h => h
  | .ref a, ⟨T, hT, h2⟩ => by
    refine ⟨T, ?_, h2⟩
    cases hT with
    | base b => cases b with
      | lst h => exact .base (.lst (e _ _ h fun _ z => nomatch z))
      | frz h => exact .base (.frz (e _ _ h fun _ z => nomatch z))
      | tup h => exact .base (.tup (e _ _ h fun _ z => nomatch z))
      | dK h => exact .base (.dK (e _ _ h fun _ z => nomatch z))
      | dT h => exact .base (.dT (e _ _ h fun _ z => nomatch z))
    | kList h c => exact .kList h c
    | kTuple h c => exact .kTuple h c
    | kDict h c => exact .kDict h c
    | fTuple h => exact .fTuple (e _ _ h fun _ z => nomatch z)
    | fDict h => exact .fDict (e _ _ h fun _ z => nomatch z)
    | set h => exact .set (e _ _ h fun _ z => nomatch z)
theorem tabs_kp {T : List (Addr × Str)} {H H' : Hp} (t : Tabs T H) (k : Kp H H') : Tabs T H' := fun p hp => by
  obtain ⟨ps, h1, h2, h3⟩ := t p hp
  refine ⟨ps, k.k _ _ rfl h1, h2, fun pos cv hc => ?_⟩
  obtain ⟨c, e1, e2⟩ := h3 pos cv hc
  exact ⟨c, e1, k.k _ _ rfl e2⟩
theorem tabs_gr {T : List (Addr × Str)} {H H' : Hp} (t : Tabs T H) (k : Gr H H') : Tabs T H' := t.ext k.e
theorem exN_gr {H H' : Hp} (k : Gr H H') : ExtN H H' := ExtN.of k.e
/-! ### told, of a fence and of a painter -/
def tupP (v : V) : List V := match readV v with
  | some _ => [.str "told", v]
  | none => [.str "parse", .int 0, .bl true]
theorem told_fence {H : Hp} {Q : VK} {v : V} (hv : Kn K H v) (hl : ∀ s, v = .str s → s.length ≤ 1000000) (k : ∀ p H', Gr H H' → H' p = some (.tup (tupD v (dueV v))) → Q (.ref p) H') :
    TTold K (fun E H' Q' => spFRead K [.ref (CF K), v] H' Q' E) H Q := by
  refine .inr ⟨v, rfl, hv, hl, ?_⟩
  cases e : dueV v with
  | parse i =>
    rw [e] at k
    exact fun d H1 g hd h => ⟨d, rfl, .inl ⟨rfl, .int i, h, fun p a ha hp => k p _ (g.then hp) upd_same⟩⟩
  | twice n =>
    rw [e] at k
    exact fun d H1 g hd h => ⟨d, rfl, .inr (.inl ⟨rfl, .str n, h, fun p a ha hp => k p _ (g.then hp) upd_same⟩)⟩
  | many =>
    rw [e] at k
    exact fun d H1 g hd h => ⟨d, rfl, .inr (.inr ⟨rfl, .int 40, h, fun p a ha hp => k p _ (g.then hp) upd_same⟩)⟩
  | told rs =>
    rw [e] at k
    obtain ⟨s, rfl⟩ : ∃ s, v = .str s := by
      cases v <;> first | exact ⟨_, rfl⟩ | cases e
    have ht := told_text (show dueL (linesOf s) = .told rs from e)
    intro f H1 hok g hf hF
    obtain ⟨dx, t, d, vs, h1, _⟩ := id hF
    refine ⟨f, dx, _, rfl, h1, f, rs, rfl, hF, fun H2 g2 => ⟨by decide, fun p hp => ?_⟩⟩
    rw [ht]
    exact k p _ ((g.trans g2).then hp) upd_same
theorem told_painter {H : Hp} {Q : VK} {v : V} (hv : Kn K H v) (hl : ∀ s, v = .str s → s.length + 2 ≤ sizeLine) (k : ∀ p H', Gr H H' → H' p = some (.tup (tupP v)) → Q (.ref p) H') :
    TTold K (fun E H' Q' => spPRead K [.ref (CP K), v] H' Q' E) H Q := by
  refine .inl ⟨v, rfl, hv, hl, fun r hr a H1 g ha hP => ?_, fun hn => ?_⟩
  · obtain ⟨s, rfl⟩ : ∃ s, v = .str s := by
      cases v <;> first | exact ⟨_, rfl⟩ | cases hr
    have hrow := readS_row (show readS s = some r from hr)
    obtain ⟨dx, t, h1, _⟩ := id hP
    refine ⟨a, dx, _, rfl, h1, a, r, rfl, hP, by decide, fun p hp => ?_⟩
    show Q (V.ref p) (upd H1 p (HO.tup [V.str (Str.ofString "told"), V.str (rowS r)]))
    rw [hrow]
    refine k p _ (g.then hp) ?_
    rw [upd_same]
    unfold tupP
    rw [hr]
  · exact fun d H1 g hd h => ⟨d, rfl, .inl ⟨rfl, .int 0, h, fun p a ha hp => k p _ (g.then hp) (by rw [upd_same]; unfold tupP; rw [hn])⟩⟩
/-! ### what is told, shown -/
theorem bad_lt : ∀ {l : List Str} {i j : Nat}, badFrom i l = some j → j < i + l.length
  | [], _, _, h => nomatch h
  | a :: l, i, j, h => by
    have h : (if (readS a).isSome = true then badFrom (i + 1) l else some i) = some j := h
    rw [List.length_cons]
    split at h
    · have := bad_lt h
      omega
    · cases h
      omega
theorem dup_in {l pre : List Str} {n : Str} (h : dupFrom pre l = some n) : n ∈ l := by
  induction l generalizing pre with
  | nil => cases h
  | cons a r ih =>
    have h : (if a ∈ pre then some a else dupFrom (pre ++ [a]) r) = some n := h
    split at h
    · cases h
      exact List.mem_cons_self
    · exact List.mem_cons_of_mem _ (ih h)
theorem read_small {s : Str} {r : Rw} (h : readS s = some r) : ∀ c ∈ cl s, c < 128 := by
  have h1 := readS_row h
  rw [← h1]
  exact fun c hc => row_small (readS_ok h).2.2 hc
theorem sh3 {a : Str} {x : PyData} : (PyData.tuple [.str a, x, .bool true]).shown.length = (reprText a).length + x.shown.length + 10 := by
  have e : (PyData.tuple [.str a, x, .bool true]).shown = ("(" : Str) ++ (reprText a ++ ", " ++ (x.shown ++ ", " ++ "True")) ++ (")" : String) := rfl
  rw [e]
  simp only [PySem.Str.length_append]
  have e3 : ("(" : Str).length = 1 := by decide
  have e4 : (", " : Str).length = 2 := by decide
  have e5 : (Str.ofString ")").length = 1 := by decide
  have e6 : ("True" : Str).length = 4 := by decide
  rw [e3, e4, e5, e6]
  omega
theorem sh2 {a b : Str} : (PyData.tuple [.str a, .str b]).shown.length = (reprText a).length + (reprText b).length + 4 := by
  have e : (PyData.tuple [.str a, .str b]).shown = ("(" : Str) ++ (reprText a ++ ", " ++ reprText b) ++ (")" : String) := rfl
  rw [e]
  simp only [PySem.Str.length_append]
  have e3 : ("(" : Str).length = 1 := by decide
  have e4 : (", " : Str).length = 2 := by decide
  have e5 : (Str.ofString ")").length = 1 := by decide
  rw [e3, e4, e5]
  omega
/-- a tuple that has the one text -/
def OneText (K : PySem.W.Frag) (xs : List V) : Prop := ∃ z : Str, ∀ (H : Hp) (p : Addr) (Q : VK), H p = some (.tup xs) → Q (.str z) H → rReprD K [.ref p] H Q
theorem one_int {a : Str} {i : Int} (ha : (reprText a).length ≤ 1000) (h1 : 0 ≤ i) (h2 : i ≤ 10 ^ 60) : OneText K [.str a, .int i, .bl true] := by
  refine ⟨(PyData.tuple [.str a, .int i, .bool true]).shown, fun H p Q hp q => ⟨_, _, rfl, .tup (SqT.of hp) (.cons (.str _) (.cons (.int _) (.cons (.bl _) .nil))), ?_, rfl, (show max 0 (max 0 (max 0 0)) + 1 ≤ 40 by decide), ?_, q⟩⟩
  · show (true && (decide (i.natAbs.log2 < 1920) && (true && true))) = true
    rw [decide_eq_true (log_small (by omega) (by omega))]
    rfl
  · rw [sh3]
    have := tS_small (i := i) (k := 61) (by omega) (by omega) (by decide)
    have e : (PyData.int i).shown = tS i := rfl
    rw [e]
    show _ ≤ 16777216
    omega
theorem one_str {a b : Str} (ha : (reprText a).length ≤ 1000) (hb : (reprText b).length ≤ 1000) : OneText K [.str a, .str b, .bl true] := by
  refine ⟨(PyData.tuple [.str a, .str b, .bool true]).shown, fun H p Q hp q => ⟨_, _, rfl, .tup (SqT.of hp) (.cons (.str _) (.cons (.str _) (.cons (.bl _) .nil))), rfl, rfl, (show max 0 (max 0 (max 0 0)) + 1 ≤ 40 by decide), ?_, q⟩⟩
  rw [sh3]
  have e : (PyData.str b).shown = reprText b := rfl
  rw [e]
  show _ ≤ 16777216
  omega
theorem one_two {a b : Str} (ha : (reprText a).length ≤ 1000) (hb : (reprText b).length ≤ 16000000) : OneText K [.str a, .str b] := by
  refine ⟨(PyData.tuple [.str a, .str b]).shown, fun H p Q hp q => ⟨_, _, rfl, .tup (SqT.of hp) (.cons (.str _) (.cons (.str _) .nil)), rfl, rfl, (show max 0 (max 0 0) + 1 ≤ 40 by decide), ?_, q⟩⟩
  rw [sh2]
  show _ ≤ 16777216
  omega
theorem due_text {v : V} (hl : ∀ s, v = .str s → s.length ≤ 1000000) : OneText K (tupD v (dueV v)) := by
  by_cases hs : isS v = true
  · obtain ⟨s, rfl⟩ : ∃ s, v = .str s := by
      cases v <;> first | exact ⟨_, rfl⟩ | cases hs
    have hl := hl s rfl
    have hw := (lines_weight s).1
    show OneText K (tupD (.str s) (dueL (linesOf s)))
    cases e : dueL (linesOf s) with
    | parse i =>
      have hb : badFrom 0 (linesOf s) = some i := by
        unfold dueL at e
        split at e
        · cases e
          assumption
        · split at e
          · cases e
          · split at e <;> cases e
      have := bad_lt hb
      exact one_int (by decide +kernel) (by omega) (by omega)
    | twice n =>
      have hb : dup (((linesOf s).filterMap readS).map Rw.nm) = some n := by
        unfold dueL at e
        split at e
        · cases e
        · split at e
          · cases e
            assumption
          · split at e <;> cases e
      obtain ⟨r, hr, rfl⟩ := List.mem_map.mp (dup_in hb)
      obtain ⟨x, _, hx⟩ := List.mem_filterMap.mp hr
      have hn := (readS_ok hx).2.2
      have := repr_le (s := r.nm) fun c hc => by have := (hn.2.2 c hc).2; omega
      have := hn.2.1
      exact one_str (by decide +kernel) (by omega)
    | many => exact one_int (by decide +kernel) (by decide) (by decide)
    | told rs =>
      have ht := told_text e
      have hb : badFrom 0 (linesOf s) = none := by
        unfold dueL at e
        split at e
        · cases e
        · assumption
      have hrs : ∀ r ∈ rs, IsNm r.nm := by
        have e2 : rs = (linesOf s).filterMap readS := by
          unfold dueL at e
          split at e
          · cases e
          · split at e
            · cases e
            · split at e <;> cases e
              rfl
        intro r hr
        rw [e2] at hr
        obtain ⟨x, _, hx⟩ := List.mem_filterMap.mp hr
        exact (readS_ok hx).2.2
      have := repr_le (s := s) fun c hc => by
        rw [← ht] at hc
        exact fence_small hrs hc
      exact one_two (by decide +kernel) (by omega)
  · have e : dueV v = .parse 0 := by
      cases v <;> first | rfl | exact absurd rfl hs
    rw [e]
    exact one_int (by decide +kernel) (by decide) (by decide)
theorem painter_text {v : V} (hl : ∀ s, v = .str s → s.length ≤ 1000000) : OneText K (tupP v) := by
  unfold tupP
  cases e : readV v with
  | none => exact one_int (by decide +kernel) (by decide) (by decide)
  | some r =>
    obtain ⟨s, rfl⟩ : ∃ s, v = .str s := by
      cases v <;> first | exact ⟨_, rfl⟩ | cases e
    have := repr_le (s := s) (read_small (show readS s = some r from e))
    have := hl s rfl
    exact one_two (by decide +kernel) (by omega)
end
end Tx

set_option maxRecDepth 100000
set_option maxHeartbeats 4000000
namespace Tx
open PySem PySem.Spec PyProof.Rows L2 My LamX
section
variable {P : Program} {w : World} {K : PySem.W.Frag} {mg : Str → Option Value} {base : Heap}
/-! ### law -/
def qLam : Str := ("law" : Str) ++ (".<locals>." : Str) ++ ("<lambda>" : Str)
theorem qLam_eq : ("law" : Str) ++ (".<locals>." : Str) ++ ("<lambda>" : Str) = qLam := rfl
abbrev tbL (K : PySem.W.Frag) : List (Addr × Str) := [(Hk.tabAt K (a_law K), qLam)]
theorem TTold_mono {tl tl' : XK → Hp → VK → Prop} {H : Hp} {Q : VK} (h : ∀ E H Q, tl' E H Q → tl E H Q) (t : TTold K tl' H Q) : TTold K tl H Q := t.imp (h _ _ _) (h _ _ _)
theorem r_neP {p q : Addr} {H : Hp} {Q : VK} (hp : H p = some (.tup [.str "parse", .int 0, .bl true])) (hq : H q = some (.tup [.str "parse", .int 0, .bl true])) (k : Q (.bl false) H) : rNeU K (.ref p) (.ref q) H Q := by
  refine .inr ⟨.tuple [.str "parse", .int 0, .bool true], .tuple [.str "parse", .int 0, .bool true], .tup (SqT.of hp) (.cons (.str _) (.cons (.int _) (.cons (.bl _) .nil))), .tup (SqT.of hq) (.cons (.str _) (.cons (.int _) (.cons (.bl _) .nil))), by decide +kernel, by decide +kernel, ?_⟩
  rw [SeqAt.eqv_refl _ (by decide +kernel)]
  exact k
def spLaw (K : PySem.W.Frag) : Sp := fun vs H Q _ => ∃ p, ∃ ns : List Int, vs = [.ref p] ∧ SqL K H p (ns.map V.int) ∧ Tabs (tbL K) H ∧ ∀ H1, Q (.bl true) H1
theorem ok_law (T : Tx K mg) (TB : TabB base mg (Hk.codeAt K (a_law K)) (Hk.tabAt K (a_law K))) : FnG PP w K mg base (L2.CX PP w) 10 (a_law K) (spLaw K) := by
  have F_Lpen := ok_pen (P := PP) (w := w) (base := base) T
  have F_Lpainters := ok_painters (P := PP) (w := w) (base := base) T
  have F_Lnames := ok_names (P := PP) (w := w) (base := base) T
  have F_Ldraw := ok_draw (P := PP) (w := w) (base := base) T
  have F_Lpick := ok_pick (P := PP) (w := w) (base := base) T
  have F_Lfence_text := ok_ltext (P := PP) (w := w) (base := base) T
  have F_Lbent_text := ok_bentT (P := PP) (w := w) (base := base) T
  have F_Lbent_lines := ok_bentL (P := PP) (w := w) (base := base) T
  have F_Lodd := ok_odd (P := PP) (w := w) (base := base) T
  have F_Ldue := ok_due (P := PP) (w := w) (base := base) T
  have F_Lis_painter := ok_isp (P := PP) (w := w) (base := base) T
  have F_Fence_read := ok_fread (w := w) (base := base) T
  have F_Painter_read := ok_pread (w := w) (base := base) T
  refine fnG_ofT T.f_law sc_law (fun _ _ _ _ _ _ us hl => match us, hl with | [_], _ => rfl) (fun vs H Q E h => ?_) fun A outer s H vs Q E cdv hcd hg hr h => ?_
  · obtain ⟨p, ns, rfl, _⟩ := h
    rfl
  · obtain ⟨p, ns, rfl, hl, ht0, k⟩ := h
    subst hcd
    refine ⟨_, (pss_cons (ps_set (i := 1) sc_law.nd rfl (by first | exact Or.inl rfl | exact Or.inr rfl) (pe_callR F_Lpen (hr.mono (by first | decide | omega)) T.k_Lpen rfl T.g__law_pen passL (pa_cons (pv 0) pa_nil)))
 (pss_cons (ps_for (passes_of rfl) rfl (pi_range1 rfl T.n_range (pa_cons pe_int pa_nil)) (pg_name (i := 2) sc_law.nd rfl (by first | exact Or.inl rfl | exact Or.inr rfl))
 (pss_cons (ps_set (i := 3) sc_law.nd rfl (by first | exact Or.inl rfl | exact Or.inr rfl) (pe_callR F_Lpainters (hr.mono (by first | decide | omega)) T.k_Lpainters rfl T.g__law_painters passL (pa_cons (pv 1) pa_nil)))
 (C8.pss_cut (ps_if (pt_cmpR (op_eqUK (K := K) rfl hr.units) (pv 2) pe_int (nomark _))
 (pss_one (ps_setLc (i := 3) (own := [("_law_word", 4)]) rfl sc_law.nd rfl rfl (sw_true rfl rfl rfl (by decide +kernel)) (pi_anyK (K := K) rfl (pe_callR F_Lnames (hr.mono (by first | decide | omega)) T.k_Lnames rfl T.g__law_names passL (pa_cons (pv 1) (pa_cons (pe_op (op_addUK (K := K) rfl) pe_int (pe_callR F_Ldraw (hr.mono (by first | decide | omega)) T.k_Ldraw rfl T.g__law_draw passL (pa_cons (pv 1) (pa_cons pe_int pa_nil)))) pa_nil)))) (blkOk_by (own := [("_law_word", 4)]) (N := N_law) (sc := defScope s_law) (by decide +kernel)) (fun _ _ _ _ _ => (pg_name (i := 4) sc_law.nd rfl (by first | exact Or.inl rfl | exact Or.inr rfl))) (fun _ _ _ _ _ => pts_nil) (fun _ _ _ _ _ => (pe_tup (pa_cons (pv 4) (pa_cons pe_int (pa_cons pe_int (pa_cons pe_int pa_nil))))))))
 pss_nil)
 (pss_cons (ps_set (i := 5) sc_law.nd rfl (by first | exact Or.inl rfl | exact Or.inr rfl) (pe_callR F_Lfence_text (hr.mono (by first | decide | omega)) T.k_Lfence_text rfl T.g__law_fence_text passL (pa_cons (pv 3) pa_nil)))
 (pss_cons (ps_set (i := 6) sc_law.nd rfl (by first | exact Or.inl rfl | exact Or.inr rfl) (pe_lst (pa_cons (pe_callR F_Lbent_text (hr.mono (by first | decide | omega)) T.k_Lbent_text rfl T.g__law_bent_text passL (pa_cons (pv 1) (pa_cons (pv 5) (pa_cons pe_str pa_nil)))) (pa_cons (pe_callR F_Lbent_lines (hr.mono (by first | decide | omega)) T.k_Lbent_lines rfl T.g__law_bent_lines passL (pa_cons (pv 1) (pa_cons (pv 5) pa_nil))) (pa_cons (pe_callR F_Lodd (hr.mono (by first | decide | omega)) T.k_Lodd rfl T.g__law_odd passL (pa_cons (pv 1) pa_nil)) (pa_cons (pv 5) pa_nil))))))
 (pss_cons (ps_expr (pe_bm PySem.F.plainAttrs_list PySem.F.slot_list_append PySem.F.type_list_append mt_append (pv 6) (pa_cons (pe_callR F_Lbent_lines (hr.mono (by first | decide | omega)) T.k_Lbent_lines rfl T.g__law_bent_lines passL (pa_cons (pv 1) (pa_cons (pe_ix (ix_seqK (K := K) rfl) (pv 6) pe_int (fun _ _ => rfl)) pa_nil))) pa_nil)))
 (pss_cons (ps_expr (pe_bm PySem.F.plainAttrs_list PySem.F.slot_list_append PySem.F.type_list_append mt_append (pv 6) (pa_cons (pe_callR F_Lbent_text (hr.mono (by first | decide | omega)) T.k_Lbent_text rfl T.g__law_bent_text passL (pa_cons (pv 1) (pa_cons (pe_ix (ix_seqK (K := K) rfl) (pv 6) pe_int (fun _ _ => rfl)) (pa_cons pe_str pa_nil)))) pa_nil)))
 (pss_cons (ps_set (i := 7) sc_law.nd rfl (by first | exact Or.inl rfl | exact Or.inr rfl) (pe_op (op_addUK (K := K) rfl) (pe_callR F_Lpick (hr.mono (by first | decide | omega)) T.k_Lpick rfl T.g__law_pick passL (pa_cons (pv 1) (pa_cons (pe_lst (pa_cons pe_str (pa_cons pe_str (pa_cons pe_str pa_nil)))) pa_nil))) (pe_op op_mulT pe_str pe_int)))
 (pss_cons (ps_expr (pe_bm PySem.F.plainAttrs_list PySem.F.slot_list_append PySem.F.type_list_append mt_append (pv 6) (pa_cons (pe_op (op_addUK (K := K) rfl) (pv 7) (pe_callR F_Lpick (hr.mono (by first | decide | omega)) T.k_Lpick rfl T.g__law_pick passL (pa_cons (pv 1) (pa_cons (pe_lst (pa_cons pe_str (pa_cons pe_str (pa_cons pe_str pa_nil)))) pa_nil)))) pa_nil)))
 (pss_cons (ps_for (passes_of rfl) rfl (pi_anyK (K := K) rfl (pv 6)) (pg_name (i := 8) sc_law.nd rfl (by first | exact Or.inl rfl | exact Or.inr rfl))
 (pss_cons (ps_if (pt_cmpR (op_neUK (K := K) rfl hr.units) (pe_callB (call_reprD hr hg) rfl T.n_repr (by decide +kernel) (pa_cons (pe_told (k := 0) T rfl (hr.mono (by first | decide | omega)) TB rfl (q := qLam) (by exact qLam_eq) rfl (lamS_by (sc := defScope s_law) (by decide +kernel)) rfl (fun _ _ _ _ _ => rfl) (fun A2 outer2 s2 H2 E2 f2 c2 hr => (ClX.pe_cmeth (pe_glob (v := .ref (He.ga K "Fence")) rfl T.g_Fence rfl) T.r_Fence T.cm_Fence_read F_Fence_read (hr.mono (by first | decide | omega)) (passC (L2.takes_of rfl rfl rfl rfl)) (pa_cons (pv 8) pa_nil)))) pa_nil)) (pe_callB (call_reprD hr hg) rfl T.n_repr (by decide +kernel) (pa_cons (pe_callR F_Ldue (hr.mono (by first | decide | omega)) T.k_Ldue rfl T.g__law_due passL (pa_cons (pv 8) pa_nil)) pa_nil)) (nomark _))
 (pss_one (ps_ret pe_bl))
 pss_nil)
 (C8.pss_cut (ps_set (i := 9) sc_law.nd rfl (by first | exact Or.inl rfl | exact Or.inr rfl) (pe_ifExp (pt_val (pe_callB call_isi rfl T.n_isinstance (by decide +kernel) (pa_cons (pv 8) (pa_cons (pe_bltn (v := .ty "str") rfl T.n_str (by decide +kernel) rfl) pa_nil)))) (pe_ix (ix_seqK (K := K) rfl) (pe_split (pv 8) pe_str) pe_int (fun _ _ => rfl)) (pv 8)))
 (pss_cons (ps_set (i := 10) sc_law.nd rfl (by first | exact Or.inl rfl | exact Or.inr rfl) (pe_tup (pa_cons pe_str (pa_cons pe_int (pa_cons pe_bl pa_nil)))))
 (C8.pss_cut (ps_if (PW.pt (pw_and (pt_val (pe_callB call_isi rfl T.n_isinstance (by decide +kernel) (pa_cons (pv 9) (pa_cons (pe_bltn (v := .ty "str") rfl T.n_str (by decide +kernel) rfl) pa_nil)))) (pw_and1 (pt_val (pe_callR F_Lis_painter (hr.mono (by first | decide | omega)) T.k_Lis_painter rfl T.g__law_is_painter passL (pa_cons (pv 9) pa_nil))))))
 (pss_one (ps_set (i := 10) sc_law.nd rfl (by first | exact Or.inl rfl | exact Or.inr rfl) (pe_tup (pa_cons pe_str (pa_cons (pv 9) pa_nil)))))
 pss_nil)
 (pss_one (ps_if (pt_cmpR (op_neUK (K := K) rfl hr.units) (pe_callB (call_reprD hr hg) rfl T.n_repr (by decide +kernel) (pa_cons (pe_told (k := 0) T rfl (hr.mono (by first | decide | omega)) TB rfl (q := qLam) (by exact qLam_eq) rfl (lamS_by (sc := defScope s_law) (by decide +kernel)) rfl (fun _ _ _ _ _ => rfl) (fun A2 outer2 s2 H2 E2 f2 c2 hr => (ClX.pe_cmeth (pe_glob (v := .ref (He.ga K "Painter")) rfl T.g_Painter rfl) T.r_Painter T.cm_Painter_read F_Painter_read (hr.mono (by first | decide | omega)) (passZ (takesCB (L2.takes_of rfl rfl rfl rfl))) (pa_cons (pv 9) pa_nil)))) pa_nil)) (pe_callB (call_reprD hr hg) rfl T.n_repr (by decide +kernel) (pa_cons (pv 10) pa_nil)) (nomark _))
 (pss_one (ps_ret pe_bl))
 pss_nil)))))))
 (pss_one (ps_if (PW.pt (pw_and (pt_cmpR (op_neUK (K := K) rfl hr.units) (pv 5) pe_str (nomark _)) (pw_and1 (pt_cmpR (op_neUK (K := K) rfl hr.units) (pe_told (k := 0) T rfl (hr.mono (by first | decide | omega)) TB rfl (q := qLam) (by exact qLam_eq) rfl (lamS_by (sc := defScope s_law) (by decide +kernel)) rfl (fun _ _ _ _ _ => rfl) (fun A2 outer2 s2 H2 E2 f2 c2 hr => (ClX.pe_cmeth (pe_glob (v := .ref (He.ga K "Painter")) rfl T.g_Painter rfl) T.r_Painter T.cm_Painter_read F_Painter_read (hr.mono (by first | decide | omega)) (passZ (takesCB (L2.takes_of rfl rfl rfl rfl))) (pa_cons (pe_op (op_addUK (K := K) rfl) (pv 5) pe_str) pa_nil)))) (pe_tup (pa_cons pe_str (pa_cons pe_int (pa_cons pe_bl pa_nil)))) (nomark _)))))
 (pss_one (ps_ret pe_bl))
 pss_nil))))))))))))
 (pss_one (ps_ret pe_bl)))), ?_⟩
    try dsimp only [cxOf]
    walk_at "go"
    refine ⟨p, ns, rfl, hl, fun z H1 g1 hp1 => ?_⟩
    have ht1 := tabs_gr ht0 g1
    walk_at "go"
    refine ⟨by decide, by decide, ?_⟩
    refine for_rng (n := 14) rfl (fun i σ' H' => ∃ n', ∃ o2 o3 o4 o5 o6 o7 o8 o9 o10 : Option V, σ' = [some (.ref p), some (.ref z.a), o2, o3, o4, o5, o6, o7, o8, o9, o10] ∧ n' ≤ 20000 * i ∧ Pen H' z n' ∧ Tabs (tbL K) H') ⟨0, _, _, _, _, _, _, _, _, _, rfl, by decide, hp1, ht1⟩ (fun i σ' H' hi ⟨n', o2, o3, o4, o5, o6, o7, o8, o9, o10, e, h1, h2, h3⟩ => ?_)
      fun σ' H' ⟨n', o2, o3, o4, o5, o6, o7, o8, o9, o10, e, h1, h2, h3⟩ => ?_
    · subst e
      walk_at "go"
      refine ⟨z, n', rfl, h2, by omega, fun v n1 H1 hR hn1 kp1 hp1 => ?_⟩
      obtain ⟨q, vs, rs, rfl, _, hq, hrow, hok⟩ := hR
      have ht1 := tabs_kp h3 kp1
      walk_at "go"
      refine r_cut (fun σ' H2 => ∃ q vs rs n2, ∃ o4 : Option V, σ' = [some (.ref p), some (.ref z.a), some (.int i), some (.ref q), o4, o5, o6, o7, o8, o9, o10] ∧ n2 ≤ 20000 * i + 12000 ∧ Pen H2 z n2 ∧ Tabs (tbL K) H2 ∧ H2 q = some (.lst vs) ∧ RowsAt H2 vs rs ∧ RowsW rs) ?_ ?_
      · walk_at "go"
        refine r_iteD (fun hz => ?_) fun hz => ?_
        · walk_at "go"
          refine r_iL ?_
          walk_at "go"
          refine r_draw hp1 (by decide) (by decide) (by omega) fun v2 n2 H2 v20 v21 hn2 kp2 hp2 => ?_
          have ht2 := tabs_kp ht1 kp2
          walk_at "go"
          obtain ⟨many, hm⟩ : ∃ many : Nat, 39 + v2 = (many : Int) := ⟨(39 + v2).toNat, by omega⟩
          rw [hm]
          refine ⟨z, n2, many, rfl, hp2, by omega, by omega, fun v n3 H3 hR hn3 kp3 hp3 => ?_⟩
          obtain ⟨q3, names, rfl, _, hq3, hok3⟩ := hR
          have ht3 := tabs_kp ht2 kp3
          refine ⟨_, rfl, ⟨_, SqL.of hq3⟩, fun D hD => ?_⟩
          have hne : q3 ≠ D := ne_of_none hq3 hD
          refine lc_list (xs := names.map V.str) (fun j H' => ∃ vs, H' D = some (.lst vs) ∧ Gr H3 H' ∧ RowsAt H' vs ((names.take j).map fun x => ⟨x, 0, 1, 2⟩)) ⟨[], upd_same, Gr.new hD, trivial⟩ (fun j H' hj ⟨vs, _, e, _⟩ => SqL.of (e.e _ _ hq3)) (fun j v H' hv ⟨vs, hd, e, hrow⟩ => ?_) fun H4 ⟨vs4, hd, e, hrow⟩ => ?_
          · rw [List.getElem?_map] at hv
            obtain ⟨x, hx, rfl⟩ := Option.map_eq_some_iff.mp hv
            walk_at "go"
            refine ⟨rfl, ?_⟩
            walk_at "go"
            refine ⟨by show 4 ≤ 16777216; decide, fun t ht => ?_⟩
            have gt := Gr.new (o := .tup [.str x, .int 0, .int 1, .int 2]) ht
            have hd2 := gt.e _ _ hd
            have hrow2 : RowsAt (upd H' t (.tup [.str x, .int 0, .int 1, .int 2])) (vs ++ [.ref t]) ((names.take j).map (fun x => (⟨x, 0, 1, 2⟩ : Rw)) ++ [⟨x, 0, 1, 2⟩]) := RowsAt.snoc (r := ⟨x, 0, 1, 2⟩) upd_same (hrow.ext gt.e)
            refine ⟨vs, hd2, ?_, vs ++ [.ref t], upd_same, (e.trans gt).mut hD, ?_⟩
            · have := hrow.len
              rw [List.length_map, List.length_take] at this
              have := hok3.1
              show _ < 16777216
              omega
            · rw [List.take_add_one, hx, List.map_append]
              exact RowsAt.put hd2 hrow2
          · walk_at "go"
            rw [List.length_map, List.take_of_length_le (Nat.le_refl _)] at hrow
            refine ⟨D, vs4, _, n3, _, rfl, by omega, e.pen hp3, tabs_gr ht3 e, hd, hrow, fun r hr => ?_, fun r hr => ?_, ?_⟩
            · obtain ⟨x, hx, rfl⟩ := List.mem_map.mp hr
              exact ⟨Int.le_refl 0, (by decide : (0 : Int) ≤ 10 ^ 30), (by decide : -(10 ^ 30) ≤ (1 : Int)), (by decide : (1 : Int) ≤ 10 ^ 30), (by decide : -(10 ^ 18) ≤ (2 : Int)), (by decide : (2 : Int) ≤ 10 ^ 18), (by decide : (2 : Int) ≠ 0)⟩
            · obtain ⟨x, hx, rfl⟩ := List.mem_map.mp hr
              exact hok3.2.2 x hx
            · rw [List.length_map, hok3.1]
              omega
        · walk_at "go"
          exact ⟨q, vs, rs, n1, _, rfl, by omega, hp1, ht1, hq, hrow, RowsW.of hok⟩
      clear ht1 hp1 hq hrow hok
      rintro σ2 H2 ⟨q2, vs2, rs2, n2, o4', rfl, hn2, hp2, ht2, hq2, hrow2, hok2⟩
      have hfl := fence_lenW hok2
      walk_at "go"
      refine ⟨q2, vs2, rs2, rfl, SqL.of hq2, hrow2, hok2, fun H3 g3 => ?_⟩
      generalize fenceS rs2 = text at hfl
      have ht3 := tabs_gr ht2 g3
      have hp3 := g3.pen hp2
      walk_at "go"
      refine ⟨z, n2, text, _, rfl, hp3, by omega, by omega, by decide +kernel, by decide +kernel, fun t1 n4 H4 l1 hn4 kp4 hp4 => ?_⟩
      have ht4 := tabs_kp ht3 kp4
      walk_at "go"
      refine ⟨z, n4, text, rfl, hp4, by omega, by omega, fun t2 n5 H5 l2 hn5 kp5 hp5 => ?_⟩
      have ht5 := tabs_kp ht4 kp5
      walk_at "go"
      refine ⟨z, n5, rfl, hp5, by omega, fun v n6 H6 hv hn6 kp6 hp6 => ?_⟩
      have ht6 := tabs_kp ht5 kp6
      walk_at "go"
      refine ⟨by show 4 ≤ 16777216; decide, fun q hq => ?_⟩
      have g7 := Gr.new (o := .lst [.str t1, .str t2, v, .str text]) hq
      have hq7 : (upd H6 q (.lst [.str t1, .str t2, v, .str text])) q = some (.lst [.str t1, .str t2, v, .str text]) := upd_same
      have hp7 := g7.pen hp6
      have kk7 := g7.kp
      have hqc := (hp6.free hq).2
      generalize upd H6 q (.lst [.str t1, .str t2, v, .str text]) = H7 at hq7 hp7 kk7 ⊢
      walk_at "go"
      refine ⟨ty_list hq7, ?_⟩
      walk_at "go"
      refine r_ixL (SqL.of hq7) (atI_nat (j := 1) rfl) ?_
      refine ⟨z, n6, t2, rfl, hp7, by omega, by omega, fun t3 n8 H8 l3 hn8 kp8 hp8 => ?_⟩
      have hq8 := kp8.l hq7
      have kk8 := (kk7.trans kp8).mut (o := .lst ([.str t1, .str t2, v, .str text] ++ [.str t3])) hq
      replace hp8 := hp8.mut (o := .lst ([.str t1, .str t2, v, .str text] ++ [.str t3])) (hp8.ne hq8) hqc
      walk_at "go"
      refine r_append hq8 (by show 4 < 16777216; decide) ?_
      have hq9 : (upd H8 q (.lst ([.str t1, .str t2, v, .str text] ++ [.str t3]))) q = some (.lst [.str t1, .str t2, v, .str text, .str t3]) := upd_same
      generalize upd H8 q (.lst ([.str t1, .str t2, v, .str text] ++ [.str t3])) = H9 at kk8 hp8 hq9 ⊢
      walk_at "go"
      refine ⟨ty_list hq9, ?_⟩
      walk_at "go"
      refine r_ixL (SqL.of hq9) (atI_nat (j := 1) rfl) ?_
      walk_at "go"
      refine ⟨z, n8, t2, _, rfl, hp8, by omega, by omega, by decide +kernel, by decide +kernel, fun t4 n10 H10 l4 hn10 kp10 hp10 => ?_⟩
      have hq10 := kp10.l hq9
      have kk10 := (kk8.trans kp10).mut (o := .lst ([.str t1, .str t2, v, .str text, .str t3] ++ [.str t4])) hq
      replace hp10 := hp10.mut (o := .lst ([.str t1, .str t2, v, .str text, .str t3] ++ [.str t4])) (hp10.ne hq10) hqc
      walk_at "go"
      refine r_append hq10 (by show 5 < 16777216; decide) ?_
      have hq11 : (upd H10 q (.lst ([.str t1, .str t2, v, .str text, .str t3] ++ [.str t4]))) q = some (.lst [.str t1, .str t2, v, .str text, .str t3, .str t4]) := upd_same
      generalize upd H10 q (.lst ([.str t1, .str t2, v, .str text, .str t3] ++ [.str t4])) = H11 at kk10 hp10 hq11 ⊢
      walk_at "go"
      refine ⟨by show 3 ≤ 16777216; decide, fun r12 hr12 => ?_⟩
      have g12 := Gr.new (o := .lst [V.str (Str.ofString "a 5 "), V.str (Str.ofString "a 5 -"), V.str (Str.ofString "a 5 5 ")]) hr12
      walk_at "go"
      refine r_pickL (g12.pen hp10) (SqL.of upd_same) (by simp) (by show 3 ≤ 1000; decide) (by omega) fun v13 n13 H13 hv13 hn13 kp13 hp13 => ?_
      obtain ⟨w13, rfl, hw13⟩ : ∃ x : Str, v13 = .str x ∧ x.length ≤ 10 := by
        simp only [List.mem_cons, List.not_mem_nil, or_false] at hv13
        rcases hv13 with h | h | h <;> subst h <;> exact ⟨_, rfl, by decide⟩
      have hq13 := kp13.l (g12.e _ _ hq11)
      have kk13 := (kk10.trans g12.kp).trans kp13
      clear kk10 kk8 kk7
      walk_at "go"
      intro s7 hs7
      have y7 : s7.length = 5000 := hs7
      refine r_addS (by rw [y7]; show _ ≤ 16777216; omega) ?_
      have y8 : (w13 ++ s7).length ≤ 5010 := by rw [len_app]; omega
      generalize w13 ++ s7 = far at y8 ⊢
      walk_at "go"
      refine ⟨ty_list hq13, ?_⟩
      walk_at "go"
      refine ⟨by show 3 ≤ 16777216; decide, fun r14 hr14 => ?_⟩
      have g14 := Gr.new (o := .lst [V.str (Str.ofString " 1"), V.str (Str.ofString ""), V.str (Str.ofString "\nb 0 0 1")]) hr14
      walk_at "go"
      refine r_pickL (g14.pen hp13) (SqL.of upd_same) (by simp) (by show 3 ≤ 1000; decide) (by omega) fun v15 n15 H15 hv15 hn15 kp15 hp15 => ?_
      obtain ⟨w15, rfl, hw15⟩ : ∃ x : Str, v15 = .str x ∧ x.length ≤ 10 := by
        simp only [List.mem_cons, List.not_mem_nil, or_false] at hv15
        rcases hv15 with h | h | h <;> subst h <;> exact ⟨_, rfl, by decide⟩
      have hq15 := kp15.l (g14.e _ _ hq13)
      have kk15 := (kk13.trans g14.kp).trans kp15
      refine r_addS (by show _ ≤ 16777216; omega) ?_
      have y9 : (far ++ w15).length ≤ 5020 := by rw [len_app]; omega
      generalize far ++ w15 = t5 at y9 ⊢
      have kk16 := kk15.mut (o := .lst ([.str t1, .str t2, v, .str text, .str t3, .str t4] ++ [.str t5])) hq
      have hp16 := hp15.mut (o := .lst ([.str t1, .str t2, v, .str text, .str t3, .str t4] ++ [.str t5])) (hp15.ne hq15) hqc
      walk_at "go"
      refine r_append hq15 (by show 6 < 16777216; decide) ?_
      have hq16 : (upd H15 q (.lst ([.str t1, .str t2, v, .str text, .str t3, .str t4] ++ [.str t5]))) q = some (.lst [.str t1, .str t2, v, .str text, .str t3, .str t4, .str t5]) := upd_same
      generalize upd H15 q (.lst ([.str t1, .str t2, v, .str text, .str t3, .str t4] ++ [.str t5])) = H16 at kk16 hp16 hq16 ⊢
      have ht16 := tabs_kp ht6 kk16
      have hv16 := hv.kp kk16
      have hth : ∀ x ∈ [V.str t1, V.str t2, v, V.str text, V.str t3, V.str t4, V.str t5], Kn K H16 x ∧ ∀ s, x = .str s → s.length ≤ 200000 := by
        have st : ∀ t : Str, t.length ≤ 200000 → Kn K H16 (.str t) ∧ ∀ s, V.str t = .str s → s.length ≤ 200000 := fun t h => ⟨by show t.length ≤ 16777216; omega, fun s e => by cases e; exact h⟩
        intro x hx
        simp only [List.mem_cons, List.not_mem_nil, or_false] at hx
        rcases hx with h | h | h | h | h | h | h <;> subst h
        · exact st _ (by omega)
        · exact st _ (by omega)
        · exact ⟨hv16.1, fun s e => Nat.le_trans (hv16.2.1 s e) (by decide)⟩
        · exact st _ (by omega)
        · exact st _ (by omega)
        · exact st _ (by omega)
        · exact st _ (by omega)
      clear kk15 kk13 kk16 hq15 hq13 hq11 hq10 hq9 hq8 hq7 hv hv16
      generalize [V.str t1, V.str t2, v, V.str text, V.str t3, V.str t4, V.str t5] = things at hth hq16
      walk_at "go"
      refine r_iL ?_
      walk_at "go"
      refine ⟨_, rfl, ⟨_, SqL.of hq16⟩, ?_⟩
      refine for_list (xs := things) (fun j σ' H' => ∃ o8 o9 o10 : Option V, σ' = [some (.ref p), some (.ref z.a), some (.int i), some (.ref q2), o4', some (.str text), some (.ref q), some (.str far), o8, o9, o10] ∧ ExtN H16 H' ∧ Tabs (tbL K) H') ⟨_, _, _, rfl, ExtN.refl _, ht16⟩ (fun j σ' H' hj ⟨_, _, _, _, e, _⟩ => SqL.of (exN_l e hq16)) (fun j v σ' H' hv ⟨o8', o9', o10', e, ex, htb⟩ => ?_) fun σ' H' ⟨o8', o9', o10', e, ex, htb⟩ => ?_
      · subst e
        obtain ⟨hkn, hlen⟩ := hth v (List.mem_of_getElem? hv)
        walk_at "go"
        refine ⟨htb, fun Ha ea ta => TTold_mono (fun E H Q h => ⟨rfl, _, rfl, h⟩) (told_fence (hkn.exN (ex.trans ea)) (fun s h => Nat.le_trans (hlen s h) (by decide)) fun pa Hb gb hpa => ?_)⟩
        have eb := (ex.trans ea).trans (exN_gr gb)
        have tb := tabs_gr ta gb
        obtain ⟨zd, hz⟩ := due_text (K := K) (v := v) fun s h => Nat.le_trans (hlen s h) (by decide)
        walk_at "go"
        refine hz _ _ _ hpa ?_
        walk_at "go"
        refine ⟨v, rfl, hkn.exN eb, fun s h => Nat.le_trans (hlen s h) (by decide), fun pb Hc gc _ hpb => ?_⟩
        have ec := eb.trans (exN_gr gc)
        have tc := tabs_gr tb gc
        walk_at "go"
        refine hz _ _ _ hpb ?_
        walk_at "go"
        refine r_iteN (fun h => absurd rfl h) fun _ => ?_
        clear hz hpa hpb ea ta gb tb eb gc
        refine r_cut (fun σ' H' => ∃ y : V, σ' = [some (.ref p), some (.ref z.a), some (.int i), some (.ref q2), o4', some (.str text), some (.ref q), some (.str far), some v, some y, o10'] ∧ ExtN H16 H' ∧ Tabs (tbL K) H' ∧ Kn K H' y ∧ ∀ s, y = .str s → s.length ≤ 200000) ?_ ?_
        · walk_at "go"
          refine r_isi (hkn.exN ec).kitS ⟨_, rfl, ?_⟩
          by_cases hsv : isS v = true
          · rw [hsv]
            obtain ⟨sv, rfl⟩ : ∃ sv, v = .str sv := by
              cases v <;> first | exact ⟨_, rfl⟩ | cases hsv
            have hsl := hlen sv rfl
            walk_at "go"
            refine ⟨_, _, rfl, rfl, by decide, (by show sv.length + 2 ≤ 16777216; omega), fun L hL => ?_⟩
            have hne : Txt.split sv "\n" ≠ [] := by rw [nl_mk]; exact split_ne sv 10
            have hea : ∀ l ∈ Txt.split sv "\n", l.length ≤ sv.length := fun l hl => by
              rw [nl_mk] at hl
              exact split_each hl
            have gL := Gr.new (o := .lst ((Txt.split sv "\n").map V.str)) hL
            have hL1 : (upd Hc L (.lst ((Txt.split sv "\n").map V.str))) L = some (.lst ((Txt.split sv "\n").map V.str)) := upd_same
            generalize upd Hc L (.lst ((Txt.split sv "\n").map V.str)) = HL at gL hL1 ⊢
            generalize Txt.split sv "\n" = parts at hne hea hL1 ⊢
            obtain ⟨s0, rest, rfl⟩ : ∃ s0 rest, parts = s0 :: rest := by
              cases parts with
              | nil => exact absurd rfl hne
              | cons a r => exact ⟨a, r, rfl⟩
            have h0 := hea s0 List.mem_cons_self
            walk_at "go"
            refine r_ixL (SqL.of hL1) (atI_nat (j := 0) rfl) ?_
            walk_at "go"
            exact ⟨.str s0, rfl, ec.trans (exN_gr gL), tabs_gr tc gL, by show s0.length ≤ 16777216; omega, fun s e => by cases e; omega⟩
          · have hsv : isS v = false := by simpa using hsv
            rw [hsv]
            walk_at "go"
            exact ⟨v, rfl, ec, tc, hkn.exN ec, hlen⟩
        rintro σd Hd ⟨y, rfl, ed, td, hky, hly⟩
        walk_at "go"
        refine ⟨by show 3 ≤ 16777216; decide, fun pe hpe => ?_⟩
        have ge := Gr.new (o := .tup [V.str (Str.ofString "parse"), V.int 0, V.bl true]) hpe
        have hpe1 : (upd Hd pe (.tup [V.str (Str.ofString "parse"), V.int 0, V.bl true])) pe = some (.tup [V.str (Str.ofString "parse"), V.int 0, V.bl true]) := upd_same
        have ee := ed.trans (exN_gr ge)
        have te := tabs_gr td ge
        have hke := hky.exN (exN_gr ge)
        generalize upd Hd pe (.tup [V.str (Str.ofString "parse"), V.int 0, V.bl true]) = HE at hpe1 ee te hke ⊢
        walk_at "go"
        refine r_cut (fun σ' H' => ∃ pf : Addr, σ' = [some (.ref p), some (.ref z.a), some (.int i), some (.ref q2), o4', some (.str text), some (.ref q), some (.str far), some v, some y, some (.ref pf)] ∧ ExtN H16 H' ∧ Tabs (tbL K) H' ∧ Kn K H' y ∧ H' pf = some (.tup (tupP y))) ?_ ?_
        · walk_at "go"
          refine r_isi hke.kitS ⟨_, rfl, ?_⟩
          by_cases hsy : isS y = true
          · rw [hsy]
            obtain ⟨sy, rfl⟩ : ∃ sy, y = .str sy := by
              cases y <;> first | exact ⟨_, rfl⟩ | cases hsy
            have hsl := hly sy rfl
            walk_at "go"
            refine ⟨sy, rfl, (by show sy.length + 2 ≤ 16777216; omega), fun H1 g1 => ?_⟩
            walk_at "go"
            cases er : readS sy with
            | some r =>
              rw [if_pos (show (some r).isSome = true from rfl)]
              walk_at "go"
              refine ⟨by show 2 ≤ 16777216; decide, fun pf hpf => ?_⟩
              have gf := Gr.new (o := .tup [V.str (Str.ofString "told"), V.str sy]) hpf
              refine ⟨pf, rfl, (ee.trans (exN_gr g1)).trans (exN_gr gf), tabs_gr (tabs_gr te g1) gf, (hke.exN (exN_gr g1)).exN (exN_gr gf), ?_⟩
              rw [upd_same]
              unfold tupP
              rw [show readV (.str sy) = some r from er]
            | none =>
              walk_at "go"
              refine ⟨pe, rfl, ee.trans (exN_gr g1), tabs_gr te g1, hke.exN (exN_gr g1), ?_⟩
              rw [g1.e _ _ hpe1]
              unfold tupP
              rw [show readV (.str sy) = none from er]
          · have hsy : isS y = false := by simpa using hsy
            rw [hsy]
            walk_at "go"
            refine ⟨pe, rfl, ee, te, hke, ?_⟩
            rw [hpe1]
            unfold tupP
            have er : readV y = none := by
              cases y <;> first | rfl | cases hsy
            rw [er]
        rintro σf Hf ⟨pf, rfl, ef, tf, hkf, hpf⟩
        walk_at "go"
        refine ⟨tf, fun Ha ea ta => TTold_mono (fun E H Q h => ⟨rfl, _, rfl, h⟩) (told_painter (hkf.exN ea) (fun s h => by have := hly s h; show _ ≤ 16777216; omega) fun pg Hg gg hpg => ?_)⟩
        have eg := ea.trans (exN_gr gg)
        obtain ⟨zp, hzp⟩ := painter_text (K := K) (v := y) fun s h => Nat.le_trans (hly s h) (by decide)
        walk_at "go"
        refine hzp _ _ _ hpg ?_
        walk_at "go"
        refine hzp _ _ _ (exN_t eg hpf) ?_
        walk_at "go"
        refine r_iteN (fun h => absurd rfl h) fun _ => ?_
        walk_at "go"
        exact ⟨_, _, _, rfl, ef.trans eg, tabs_gr ta gg⟩
      · subst e
        walk_at "go"
        have hp17 := Pen.exN ex hp16
        by_cases hx : text = ""
        · rw [if_neg (by rw [decide_eq_true hx]; decide)]
          walk_at "go"
          exact ⟨n15, _, _, _, _, _, _, _, _, _, rfl, by omega, hp17, htb⟩
        · rw [if_pos (by rw [decide_eq_false hx]; rfl)]
          walk_at "go"
          have hln : (text ++ "\n").length = text.length + 1 := by
            rw [len_app]
            rfl
          refine ⟨htb, fun Ha ea ta => TTold_mono (fun E H Q h => (by
            refine ⟨rfl, _, rfl, ?_⟩
            walk_at "go"
            exact r_addS (a := text) (b := "\n") (by show text.length + 1 ≤ 16777216; omega) h)) (told_painter (K := K) (v := .str (text ++ "\n")) (by show (text ++ "\n").length ≤ 16777216; omega) (fun s h => by cases h; show (text ++ "\n").length + 2 ≤ 16777216; omega) fun pg Hg gg hpg => ?_)⟩
          have eg := ea.trans (exN_gr gg)
          have ep : tupP (.str (text ++ "\n")) = [.str "parse", .int 0, .bl true] := by
            unfold tupP
            rw [show readV (.str (text ++ "\n")) = none from read_nl]
          rw [ep] at hpg
          walk_at "go"
          refine ⟨by show 3 ≤ 16777216; decide, fun pr hpr => ?_⟩
          have gr := Gr.new (o := .tup [V.str (Str.ofString "parse"), V.int 0, V.bl true]) hpr
          refine r_neP (gr.e _ _ hpg) upd_same ?_
          walk_at "go"
          exact ⟨n15, _, _, _, _, _, _, _, _, _, rfl, by omega, Pen.exN (exN_gr gr) (Pen.exN eg hp17), tabs_gr (tabs_gr ta gg) gr⟩
    · subst e
      walk_at "go"
      exact k _
end
end Tx

end

open PySem PySem.W PySem.Calls PyProof.Rows
set_option maxRecDepth 100000 in
set_option maxHeartbeats 0 in
theorem PySem.Challenge.cw_paintposts_k84_texts_that_are_no_fence_holds : PySem.Challenge.rw_paintposts_k84_texts_that_are_no_fence.Holds := by
  w_on; o_law
  refine HandSHeadRun.head_any (r := OpenLaw.row PySem.Challenge.rw_paintposts_k84_texts_that_are_no_fence) (q := view (OpenLaw.row PySem.Challenge.rw_paintposts_k84_texts_that_are_no_fence).prog [50]) (H := Tx.hk) (ob := Tx.ob) (M := 20000) (loose := Tx.looseL) (d := HandSHeadRun.topDef (OpenLaw.row PySem.Challenge.rw_paintposts_k84_texts_that_are_no_fence).prog 50) (kwd := []) Tx.ob_eq
    (by kernel_rfl) (fun s => by kernel_rfl) Tx.run (by kernel_rfl) (by kernel_rfl) (by kernel_rfl) (by rfl) (by first | assumption | decide +kernel) (by decide +kernel) ⟨rfl, rfl, rfl, rfl, rfl, by decide +kernel⟩ ?hw ?hc
  case hw => w_witness2
  case hc =>
    refine My.walk_GT (l := PySem.Challenge.rw_paintposts_k84_texts_that_are_no_fence) (n := 63) (k := 10) rfl (by decide) (by kernel_rfl) ⟨rfl, by decide, by decide⟩ fun w mg fa h Y G e0 => ?_
    obtain ⟨K, KX, c⟩ := Y
    have T := Tx.tx_of KX G c
    have e1 : mg ("law" : PySem.Str) = some (.ref fa) := by
      have e : (HandSHeadRun.topDef (OpenLaw.row PySem.Challenge.rw_paintposts_k84_texts_that_are_no_fence).prog 50).name = ("law" : PySem.Str) := by kernel_rfl
      rw [← e]
      exact e0
    obtain rfl : fa = Tx.a_law K := by
      have z := T.g_law
      rw [e1] at z
      cases z
      rfl
    obtain ⟨c1, c2, c3, _⟩ := c.2.2 Tx.a_law List.mem_cons_self
    exact ⟨K, Hk.codeAt K (Tx.a_law K), Hk.tabAt K (Tx.a_law K), Tx.spLaw K, KX, c3, c2, c1, fun H p ns _ hT rd => ⟨p, ns, rfl, rd, fun q hq => by
      rcases List.mem_cons.mp hq with rfl | hq
      · exact LamX.TabS.nil hT
      · exact (List.not_mem_nil hq).elim, fun _ => rfl⟩, fun base _ _ TB => Tx.ok_law T TB⟩
