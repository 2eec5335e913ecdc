import PyProof.Rows.All
import Wide.All
import OpenK.AllK
import Wide.FinOn
import KE.KStateDown
import HandS.ForMost
import HandS.ForExc
import HandS.Wide
import HandS.Flow
import HandS.Style
import HandS.Defaults
import HandS.Star
import HandS.MethStar
import HandS.Property
import HandS.ClsMeth
import HandS.OwnEq
import HandS.IsInst
import HandS.FStr
import HandS.DictComp
import HandS.RaiseMore
import HandS.TupAny
import HandS.Deep
import HandS.Codes
import HandS.SuiteRaise
import HandS.TryMany
import HandS.HeadEnd
import HandS.HeadHook1
import HandS.HeadHook2
import HandS.HeadNt
import HandS.Head0
import HandS.Head1
import HandS.Head2
import KE.DatumIndex
import KE.GoesEnum
import KE.GoesMore
import HandS.Conv
import PySem.Challenge.RW_paintposts_k83_whole_texts_of_all_fences
set_option Elab.async false
set_option linter.all false
set_option maxRecDepth 100000
set_option maxHeartbeats 4000000
/-! the head's facts by one Bool -/
namespace Hk
open PySem PySem.W PySem.Calls PyProof.Rows He He5
/-- a property's getter -/
def pgA (K : Frag) (C : Addr) (f : PySem.Str) : Addr := match recIn K (ma K C f) "property" with
  | some (.ref g :: _) => g
  | _ => 0
def gloB (K : Frag) (x : PySem.Str) : Bool := eqO (nsIn K mainGlobals x) (some (some (.ref (ga K x))))
def aliB (K : Frag) (x y : PySem.Str) : Bool := eqO (nsIn K mainGlobals x) (some (some (.ref (ga K y))))
def freeB (K : Frag) (x : PySem.Str) : Bool := eqO (nsIn K mainGlobals x) (some none)
def intB (K : Frag) (x : PySem.Str) (i : Int) : Bool := (Fa.int x i).ok K
def strB (K : Frag) (x z : PySem.Str) : Bool := (Fa.str x z).ok K
def clsB (K : Frag) (x : PySem.Str) : Bool := (Fa.cls x).ok K
def mkrB (K : Frag) (x : PySem.Str) : Bool := (Fa.mkr x).ok K
def noatB (K : Frag) (x f : PySem.Str) : Bool := (Fa.noat x f).ok K
def methB (K : Frag) (x m : PySem.Str) : Bool := (Fa.meth x m).ok K
def conB (K : Frag) (C : Addr) (f : PySem.Str) (i : Int) : Bool := (match findIn K (.ref C) f with
  | some (some (.int j t)) => decide (j = i) && eqO (specialIn K (.int j t) "__get__") (some none)
  | _ => false) && !(copiedNames.contains f)
def propB (K : Frag) (C : Addr) (f : PySem.Str) : Bool := eqO (findIn K (.ref C) f) (some (some (.ref (ma K C f)))) && (eqO (specialIn K (.ref (ma K C f)) "__get__") (some (some (.builtin "property.__get__"))) &&
  (decide (takesIn K (.ref (ma K C f)) = some true) && (match recIn K (ma K C f) "property" with
    | some (.ref _ :: _) => true
    | _ => false)))
def creadB (K : Frag) (C : Addr) : Bool := readsIn K C (.type "type") && eqO (specialIn K (.ref C) "__getattribute__") (some (some (.builtin "type.__getattribute__")))
def cmetB (K : Frag) (C : Addr) (m : PySem.Str) : Bool := wrapB K C "classmethod" "classmethod.__get__" m && fnIn K (wf K C "classmethod" m)
section
variable {K : Frag} {h : Heap} {mg : PySem.Str → Option Value}
theorem glo_of (X : K.In h) (G : h.Ns mainGlobals mg) {x : PySem.Str} (c : gloB K x = true) : mg x = some (.ref (ga K x)) := PySem.W.mg_of X G (eqO_ok c)
theorem ali_of (X : K.In h) (G : h.Ns mainGlobals mg) {x y : PySem.Str} (c : aliB K x y = true) : mg x = some (.ref (ga K y)) := PySem.W.mg_of X G (eqO_ok c)
theorem free_of (X : K.In h) (G : h.Ns mainGlobals mg) {x : PySem.Str} (c : freeB K x = true) : mg x = none := PySem.W.mg_none_of X G (eqO_ok c)
theorem int_of (X : K.In h) (G : h.Ns mainGlobals mg) {x : PySem.Str} {i : Int} (c : intB K x i = true) : ∃ u, mg x = some u ∧ L2.RelV (.int i) u := by
  obtain ⟨t, e⟩ := int_ok X G c
  exact ⟨_, e, t, rfl⟩
theorem str_of (X : K.In h) (G : h.Ns mainGlobals mg) {x z : PySem.Str} (c : strB K x z = true) : ∃ u, mg x = some u ∧ L2.RelV (.str z) u := by
  obtain ⟨t, e⟩ := str_ok X G c
  exact ⟨_, e, t, rfl⟩
theorem con_of {C : Addr} {f : PySem.Str} {i : Int} (c : conB K C f i = true) : ∃ u, L2.Con K C f (.int i) u := by
  obtain ⟨c1, c2⟩ := ba c
  cases e : findIn K (.ref C) f with
  | none => rw [e] at c1; cases c1
  | some o =>
    rw [e] at c1
    cases o with
    | none => cases c1
    | some v =>
      cases v with
      | int j t =>
        obtain ⟨d1, d2⟩ := ba c1
        have ej : j = i := of_decide_eq_true d1
        subst ej
        exact ⟨_, e, ⟨t, rfl⟩, eqO_ok d2, by simpa using c2⟩
      | _ => cases c1
theorem prop_of {C : Addr} {f : PySem.Str} (c : propB K C f = true) : L2.PropOf K C f (ma K C f) (pgA K C f) := by
  obtain ⟨c1, c⟩ := ba c
  obtain ⟨c2, c⟩ := ba c
  obtain ⟨c3, c4⟩ := ba c
  refine ⟨eqO_ok c1, eqO_ok c2, of_decide_eq_true c3, ?_⟩
  unfold pgA
  split at c4
  · rename_i g r e
    rw [e]
    exact ⟨r, rfl⟩
  · cases c4
theorem cread_of {C : Addr} (c : creadB K C = true) : ClX.CRead K C (.type "type") := by
  obtain ⟨c1, c2⟩ := ba c
  exact ⟨c1, eqO_ok c2⟩
theorem cmet_of' {C : Addr} {m : PySem.Str} (c : cmetB K C m = true) : ClX.CMet K C (.type "type") m (ma K C m) (wf K C "classmethod" m) := by
  obtain ⟨c1, c2⟩ := ba c
  exact cmet_of c1 c2
end
/-! the Hook -/
def obsM (ck : Frag → Bool) (fn : List DefA) (K : Frag) : He.AlD := (ck K && fn.all fun d => d.ok K, fn.map fun d => fnA K (d.at_ K))
def valM (fn : List DefA) : He.AlD := (true, fn.map DefA.val)
def SaysM (ck : Frag → Bool) (fn : List DefA) (K : Frag) : Prop := obsM ck fn K = valM fn
def obsMG (n : Nat) (ck : Frag → Bool) (fn : List DefA) (g : Addr → Option Obj) : He.AlD := obsM ck fn (frG g (asA g n))
def hookM (n : Nat) (ck : Frag → Bool) (fn : List DefA) : PySem.W.Hook where
  α := He.AlD
  obs := fun s => obsMG n ck fn s.heap.get?
  val := fun _ => valM fn
  says := fun _ h => ∃ K : Frag, K.In h ∧ SaysM ck fn K
  of := fun _ _ e => ⟨_, frG_in, e⟩
  keeps := fun _ _ _ ⟨K, hK, c⟩ k => ⟨K, Frag.In.keeps hK k, c⟩
theorem obsMG_eq {n : Nat} {ck : Frag → Bool} {fn : List DefA} {g : Addr → Option Obj} {s : Shared} (h : ∀ a, g a = s.heap.get? a) : obsMG n ck fn g = (hookM n ck fn).obs s := by
  have e : g = s.heap.get? := funext h
  rw [e] <;> rfl
section
variable {ck : Frag → Bool} {fn : List DefA} {K : Frag}
theorem SaysM.ck_ (c : SaysM ck fn K) : ck K = true := (ba (show (ck K && fn.all fun d => d.ok K) = true from congrArg (fun z : He.AlD => z.1) c)).1
theorem SaysM.def_ (c : SaysM ck fn K) (i : Nat) {d : DefA} (h : fn[i]? = some d := by rfl) : ∃ fd, L2.FunD K d.name d.qual d.params d.body d.scope (d.dvs K) (d.kws K) (d.at_ K) fd := by
  have c2 := (ba (show (ck K && fn.all fun d => d.ok K) = true from congrArg (fun z : He.AlD => z.1) c)).2
  have e : fn.map (fun d => fnA K (d.at_ K)) = fn.map DefA.val := congrArg (fun z : He.AlD => z.2) c
  have e2 : (fn.map fun d => fnA K (d.at_ K))[i]? = (fn.map DefA.val)[i]? := by rw [e]
  rw [List.getElem?_map, List.getElem?_map, h] at e2
  exact DefA.funD (Option.some.inj e2) (List.all_eq_true.mp c2 d (List.mem_of_getElem? h))
end
end Hk

set_option maxRecDepth 100000
set_option maxHeartbeats 4000000
/-! rules of my own: promises by position (with and without known guards), own operators, unions -/
namespace My
open PySem PySem.Spec PyProof.Rows L2

abbrev CXp (P : Program) (w : World) : CXT := L2.CX P w
/-- as FnR, called where no repr is under way -/
def FnG (P : Program) (w : World) (K : PySem.W.Frag) (mg : Str → Option Value) (base : Heap) (CX : CXT) (k : Nat) (f : Addr) (sp : Sp) : Prop :=
  ∀ (A : Around) (outer : List Env) (s : Shared) (H : Hp) (us : List Value) (vs : List V) (Q : VK) (E : XK), Room k A → A.guards = some [] →
    Env0 P w K mg base A outer s H → Vals vs us → sp vs H Q E → codeAny (model P w) A (.call (.ref f) ⟨us, []⟩) (CR CX outer P w H s Q E) s
section
variable {P : Program} {w : World} {K : PySem.W.Frag} {mg : Str → Option Value} {base : Heap} {CX : CXT} {k : Nat} {f : Addr} {sp : Sp} {x qual : Str} {params : Arguments} {body : List Stmt} {scope : Scope} {N ps : List Str} {dvs : List V} {kws : List (Str × V)}
theorem guards_deeper {A : Around} {env : Env} (h : A.guards = some []) : (A.deeper env).guards = some [] := by
  first
    | exact h
    | simpa [Around.deeper] using h
/-- how the arguments bind: the written ones, then the defaults -/
def BindsR (K : PySem.W.Frag) (fd : FuncData) (ps : List Str) (n : Nat) (dvs : List V) : Prop :=
  ∀ (s : Shared) (us : List Value), K.In s.heap → us.length = n → ∃ ds : List Value, Vals dvs ds ∧ BindsTo s fd ⟨us, []⟩ (ps.zip (us ++ ds))
theorem fn_any {n : Nat} {G : Around → Prop} (F : ∃ fd, FunD K x qual params body scope dvs kws f fd) (S : FnScope N ps scope)
    (hb : ∀ fd, FunD K x qual params body scope dvs kws f fd → BindsR K fd ps n dvs) (len : ∀ vs H Q E, sp vs H Q E → vs.length = n) (hn : n + dvs.length = ps.length)
    (hbody : ∀ (A : Around) (outer : List Env) (s : Shared) (H : Hp) (vs : List V) (Q : VK) (E : XK) (cdv : Value), G A → Room k (A.deeper (envOfC qual scope s.heap.objs.size f cdv)) → sp vs H Q E →
      ∃ t, PSs (cxOf (L2.CX P w) P w K mg base N qual scope f cdv A outer s H E) body t ∧ t { nx := fun _ H' => Q .non H', rt := Q } (start N (vs ++ dvs)) H) :
    ∀ (A : Around) (outer : List Env) (s : Shared) (H : Hp) (us : List Value) (vs : List V) (Q : VK) (E : XK), G A → Room (k + 1) A →
      Env0 P w K mg base A outer s H → Vals vs us → sp vs H Q E → codeAny (model P w) A (.call (.ref f) ⟨us, []⟩) (CR (L2.CX P w) outer P w H s Q E) s := by
  intro A outer s H us vs Q E hG hr e0 r hsp
  obtain ⟨fd, F⟩ := F
  have hB := hb fd F
  obtain ⟨oc, od, dV, kV, doc, pm, an, cdv, ct, osl, rfl, lk, hcd, _, _⟩ := F.ex
  have hl : us.length = n := by rw [← r.length]; exact len _ _ _ _ hsp
  obtain ⟨ds, rd, hbt⟩ := hB s us (e0.mod.kin.keeps fun b o e => (e0.bs b o e).1) hl
  refine StX.run_bnd lk hcd S hr e0 (G := fun ws H2 => ws = vs ++ dvs ∧ H2 = H) (fun A' Ex Q' h => ?_) fun s2 H2 ws hw hr' => ?_
  · refine hbt _ A' Ex _ ?_
    exact h s H (vs ++ dvs) (us ++ ds) e0 Un.refl rfl (fun _ _ z => z) (r.append rd) (by rw [List.length_append, len _ _ _ _ hsp, hn]) ⟨rfl, rfl⟩
  · obtain ⟨e1, e2⟩ := hw
    subst e1 e2
    exact hbody A outer s2 _ vs Q E cdv hG hr' hsp
/-- a def without defaults -/
theorem bindsR_all {fd : FuncData} (h : ∀ us : List Value, us.length = ps.length → bindArgs fd ⟨us, []⟩ = pure (ps.zip us)) : BindsR K fd ps ps.length [] := fun s us _ hl =>
  ⟨[], .nil, by rw [List.append_nil]; exact .of_eq (h us hl)⟩
end
section
variable {P : Program} {w : World} {K : PySem.W.Frag} {mg : Str → Option Value} {base : Heap} {k : Nat} {f : Addr} {sp : Sp} {x qual : Str} {params : Arguments} {body : List Stmt} {scope : Scope} {N ps : List Str}
/-- a def of the text keeps its promise (no defaults) -/
theorem fnR_of (F : ∃ fd, FunD K x qual params body scope [] [] f fd) (S : FnScope N ps scope)
    (hb : ∀ (kV doc pm : Value) (an : Option Addr) (cdv ct : Value) (us : List Value), us.length = ps.length → bindArgs (PySem.W.fnOf x qual params body scope .none kV doc pm an cdv ct) ⟨us, []⟩ = pure (ps.zip us))
    (len : ∀ vs H Q E, sp vs H Q E → vs.length = ps.length)
    (hbody : ∀ (A : Around) (outer : List Env) (s : Shared) (H : Hp) (vs : List V) (Q : VK) (E : XK) (cdv : Value), Room k (A.deeper (envOfC qual scope s.heap.objs.size f cdv)) → sp vs H Q E →
      ∃ t, PSs (cxOf (L2.CX P w) P w K mg base N qual scope f cdv A outer s H E) body t ∧ t { nx := fun _ H' => Q .non H', rt := Q } (start N vs) H) :
    FnR P w K mg base (L2.CX P w) (k + 1) f sp := fun A outer s H us vs Q E hr e0 r hs =>
  fn_any (G := fun _ => True) (n := ps.length) F S (fun fd F' => by
    obtain ⟨oc, od, dV, kV, doc, pm, an, cdv, ct, osl, rfl, lk, hcd, hd, _⟩ := F'.ex
    rcases hd with ⟨_, hd⟩ | ⟨hd, _⟩
    · subst hd
      exact bindsR_all (hb kV doc pm an cdv ct)
    · exact absurd rfl hd) len rfl (fun A outer s H vs Q E cdv _ hr' h => by rw [List.append_nil]; exact hbody A outer s H vs Q E cdv hr' h) A outer s H us vs Q E trivial hr e0 r hs
theorem fnG_of (F : ∃ fd, FunD K x qual params body scope [] [] f fd) (S : FnScope N ps scope)
    (hb : ∀ (kV doc pm : Value) (an : Option Addr) (cdv ct : Value) (us : List Value), us.length = ps.length → bindArgs (PySem.W.fnOf x qual params body scope .none kV doc pm an cdv ct) ⟨us, []⟩ = pure (ps.zip us))
    (len : ∀ vs H Q E, sp vs H Q E → vs.length = ps.length)
    (hbody : ∀ (A : Around) (outer : List Env) (s : Shared) (H : Hp) (vs : List V) (Q : VK) (E : XK) (cdv : Value), (A.deeper (envOfC qual scope s.heap.objs.size f cdv)).guards = some [] → Room k (A.deeper (envOfC qual scope s.heap.objs.size f cdv)) → sp vs H Q E →
      ∃ t, PSs (cxOf (L2.CX P w) P w K mg base N qual scope f cdv A outer s H E) body t ∧ t { nx := fun _ H' => Q .non H', rt := Q } (start N vs) H) :
    FnG P w K mg base (L2.CX P w) (k + 1) f sp := fun A outer s H us vs Q E hr hg e0 r hs =>
  fn_any (G := fun A => A.guards = some []) (n := ps.length) F S (fun fd F' => by
    obtain ⟨oc, od, dV, kV, doc, pm, an, cdv, ct, osl, rfl, lk, hcd, hd, _⟩ := F'.ex
    rcases hd with ⟨_, hd⟩ | ⟨hd, _⟩
    · subst hd
      exact bindsR_all (hb kV doc pm an cdv ct)
    · exact absurd rfl hd) len rfl (fun A outer s H vs Q E cdv hg hr' h => by rw [List.append_nil]; exact hbody A outer s H vs Q E cdv (guards_deeper hg) hr' h) A outer s H us vs Q E hg hr e0 r hs
/-- one default that fills up -/
theorem fnR_of1 {d : V} (F : ∃ fd, FunD K x qual params body scope [d] [] f fd) (S : FnScope N ps scope)
    (hb : ∀ fd, FunD K x qual params body scope [d] [] f fd → BindsR K fd ps 1 [d]) (hps : ps.length = 2)
    (len : ∀ vs H Q E, sp vs H Q E → vs.length = 1)
    (hbody : ∀ (A : Around) (outer : List Env) (s : Shared) (H : Hp) (vs : List V) (Q : VK) (E : XK) (cdv : Value), Room k (A.deeper (envOfC qual scope s.heap.objs.size f cdv)) → sp vs H Q E →
      ∃ t, PSs (cxOf (L2.CX P w) P w K mg base N qual scope f cdv A outer s H E) body t ∧ t { nx := fun _ H' => Q .non H', rt := Q } (start N (vs ++ [d])) H) :
    FnR P w K mg base (L2.CX P w) (k + 1) f sp := fun A outer s H us vs Q E hr e0 r hs =>
  fn_any (G := fun _ => True) (n := 1) F S hb len (by rw [hps]; rfl) (fun A outer s H vs Q E cdv _ hr' h => hbody A outer s H vs Q E cdv hr' h) A outer s H us vs Q E trivial hr e0 r hs
theorem bindsR_of1 {fd : FuncData} {d : V} {ds : List Value} (hb : Binds K fd ps ds) (hd : Vals [d] ds) (hps : ps.length = 2) : BindsR K fd ps 1 [d] := fun s us hK hl =>
  ⟨ds, hd, hb s us hK (by rw [List.length_append, hl, ← hd.length, hps]; rfl)⟩
/-- def f(*v) behind further parameters -/
theorem fnR_star {pv : Str} (F : ∃ fd, FunD K x qual params body scope [] [] f fd) (S : FnScope N (ps ++ [pv]) scope)
    (hb : ∀ (kV doc pm : Value) (an : Option Addr) (cdv ct : Value) (us rest : List Value), us.length = ps.length → bindArgs (PySem.W.fnOf x qual params body scope .none kV doc pm an cdv ct) ⟨us ++ rest, []⟩ = (newTuple rest >>= fun t => pure (ps.zip us ++ [(pv, t)])))
    (hbody : ∀ (A : Around) (outer : List Env) (s : Shared) (H : Hp) (vs : List V) (Q : VK) (E : XK) (cdv : Value), Room k (A.deeper (envOfC qual scope s.heap.objs.size f cdv)) → sp vs H Q E →
      ∃ t, PSs (cxOf (L2.CX P w) P w K mg base N qual scope f cdv A outer s H E) body t ∧ t { nx := fun _ H' => Q .non H', rt := Q } (start N vs) H) :
    FnR P w K mg base (L2.CX P w) (k + 1) f (fun vs H Q E => ∃ ws rest, vs = ws ++ rest ∧ ws.length = ps.length ∧ rest.length ≤ sizeLine ∧ ∀ p, H p = Option.none → sp (ws ++ [V.ref p]) (upd H p (.tup rest)) Q E) := by
  obtain ⟨fd, F⟩ := F
  obtain ⟨oc, od, dV, kV, doc, pm, an, cdv, ct, osl, rfl, lk, hcd, hd, _⟩ := F.ex
  rcases hd with ⟨_, hd⟩ | ⟨hd, _⟩
  · subst hd
    exact StX.fn_star lk hcd S StX.cxUp (hb kV doc pm an cdv ct) fun A outer s H vs Q E hr h => hbody A outer s H vs Q E cdv hr h
  · exact absurd rfl hd
end

/-! ### calls -/
section
variable {X : Cx} {CX : CXT} {k : Nat} {f C : Addr} {sp : Sp} {E : XK} {x m : Str} {p pos apos sp_ : Pos} {e o : Expr} {es : List Expr} {ta te : TE} {t : TA}
def tCallR (sp : Sp) (E : XK) (t : TA) : TE := fun σ H Q => t σ H fun vs H1 => sp vs H1 Q E
theorem pe_callR (F : FnR X.prog X.w X.K X.mg X.base CX k f sp) (hr : Room k X.A) (hk : PySem.W.keepIn X.K (.ref f) = true) (hg : Gl X x) (hm : X.mg x = some (.ref f)) (hx : Passes CX X E) (ha : PA X (e :: es) t) (hd : (x == ("__debug__" : Str)) = false := by decide)
    (he : starEach (e :: es) X.env = (false, eval e X.env) :: starEach es X.env := by rfl) (hst : (backTo pos (starEach es X.env)).any (·.1) = false := by rfl) :
    PE X (.Call (.Name x p) (e :: es) [] pos) (tCallR sp E t) := by
  refine ⟨fun pins s σ H Q I h => ?_⟩
  refine wpAny_Call_Name_kw (ld_glob I hg hm ?_ hd)
  exact PySem.W.callWith_K (h₀ := X.base) I.ok.mod.kin hk (thn (ha.run pos pins s σ H _ I h) fun us s1 ⟨vs, H1, I1, r, q⟩ => ⟨I1.kIn, wpAny_call (run_fnR F hr hx I1 r q)⟩) he hst
theorem pe_callR0 (F : FnR X.prog X.w X.K X.mg X.base CX k f sp) (hr : Room k X.A) (hk : PySem.W.keepIn X.K (.ref f) = true) (hg : Gl X x) (hm : X.mg x = some (.ref f)) (hx : Passes CX X E) (hd : (x == ("__debug__" : Str)) = false := by decide) :
    PE X (.Call (.Name x p) [] [] pos) (tCallR sp E tNil) := by
  refine ⟨fun pins s σ H Q I h => ?_⟩
  refine wpAny_Call_Name_kw (ld_glob I hg hm ?_ hd)
  exact PySem.W.callWith_K0 I.kIn hk (wpAny_call (run_fnR (us := []) F hr hx I .nil h))
theorem run_fnG {pins : List (Addr × Obj)} {σ : L2.St} {H : Hp} {s : Shared} {Q : VK} {us : List Value} {vs : List V} (F : FnG X.prog X.w X.K X.mg X.base CX k f sp) (hr : Room k X.A) (hgd : X.A.guards = some []) (hx : Passes CX X E) (I : Inv X pins σ H s) (r : Vals vs us) (h : sp vs H Q E) :
    codeAny (model X.prog X.w) X.A (.call (.ref f) ⟨us, []⟩) (fun r s' => match r with | .ok (.ret v) => EP X pins σ Q v s' | .ok _ => False | .error e => X.xe e s') s := by
  refine codeAny_mono (F X.A X.stack s H us vs Q E hr hgd I.env0 r h) fun r s' hq => ?_
  cases r with
  | error e => exact hx pins σ H s e s' I hq
  | ok fl => cases fl with
    | ret u => exact I.after hq
    | next => exact False.elim hq
    | brk => exact False.elim hq
    | cont => exact False.elim hq
theorem pe_callG (F : FnG X.prog X.w X.K X.mg X.base CX k f sp) (hr : Room k X.A) (hgd : X.A.guards = some []) (hk : PySem.W.keepIn X.K (.ref f) = true) (hg : Gl X x) (hm : X.mg x = some (.ref f)) (hx : Passes CX X E) (ha : PA X (e :: es) t) (hd : (x == ("__debug__" : Str)) = false := by decide)
    (he : starEach (e :: es) X.env = (false, eval e X.env) :: starEach es X.env := by rfl) (hst : (backTo pos (starEach es X.env)).any (·.1) = false := by rfl) :
    PE X (.Call (.Name x p) (e :: es) [] pos) (tCallR sp E t) := by
  refine ⟨fun pins s σ H Q I h => ?_⟩
  refine wpAny_Call_Name_kw (ld_glob I hg hm ?_ hd)
  exact PySem.W.callWith_K (h₀ := X.base) I.ok.mod.kin hk (thn (ha.run pos pins s σ H _ I h) fun us s1 ⟨vs, H1, I1, r, q⟩ => ⟨I1.kIn, wpAny_call (run_fnG F hr hgd hx I1 r q)⟩) he hst
/-- C() -/
theorem pe_makeR0 (M : Mk X.K C f) (F : FnR X.prog X.w X.K X.mg X.base CX k f sp) (hr : Room (k + 1) X.A) (hg : Gl X x) (hm : X.mg x = some (.ref C)) (hx : Passes CX X E) (hdb : (x == ("__debug__" : Str)) = false := by decide) :
    PE X (.Call (.Name x p) [] [] pos) (StX.tMakeR C sp E tNil) := by
  refine ⟨fun pins s σ H Q I h => ?_⟩
  refine wpAny_Call_Name_kw (ld_glob I hg hm ?_ hdb)
  exact PySem.W.callWith_K0 I.kIn M.kp (StX.run_makeR (us := []) M F hr hx I .nil h)
/-- C( *y) -/
def tMakeS1 (K : PySem.W.Frag) (C : Addr) (sp : Sp) (E : XK) (te : TE) : TE := fun σ H Q => te σ H fun y H1 => ∃ a xs, y = V.ref a ∧ (SqT K H1 a xs ∨ SqL K H1 a xs) ∧ ∀ x dx, H1 x = Option.none → H1 dx = Option.none → dx ≠ x →
  sp (V.ref x :: xs) (upd (upd H1 dx (.own x)) x (.ins C dx [])) (fun v H2 => v = .non ∧ Q (.ref x) H2) E
/-- a local name that holds the class -/
theorem pe_makeV1 {i : Nat} (M : Mk X.K C f) (F : FnR X.prog X.w X.K X.mg X.base CX k f sp) (hr : Room (k + 1) X.A) (hx : Passes CX X E) (he : PE X e te) (hf : PE X (.Name x p) (tVar i))
    (hst : starEach [.Starred e sp_] X.env = [(true, eval e X.env)] := by rfl)
    (ht : eval (.Call (.Name x p) [.Starred e sp_] [] pos) X.env = (do callWith pos (← eval (.Name x p) X.env) [] (backTo pos (starEach [.Starred e sp_] X.env)) (backToKw pos (keywordEach [] X.env))) := by rfl) :
    PE X (.Call (.Name x p) [.Starred e sp_] [] pos) (fun σ H Q => σ[i]? = some (some (.ref C)) ∧ tMakeS1 X.K C sp E te σ H Q) := by
  refine ⟨fun pins s σ H Q I h => ?_⟩
  obtain ⟨h0, h⟩ := h
  refine Call_ (thn (hf.run pins s σ H (fun v H1 => v = .ref C ∧ H1 = H) I ⟨_, h0, rfl, rfl⟩) fun u s1 z => ?_) ht
  obtain ⟨v, H1, I1, rv, ev, eH⟩ := z
  subst ev eH
  obtain rfl : u = Value.ref C := rv
  refine PySem.W.callWith_S (h₀ := X.base) I1.ok.mod.kin M.kp (thn (he.run pins s1 σ _ _ I1 h) fun u s2 z => ?_) hst
  obtain ⟨y, H2, I2, ry, a, xs, ey, hxs, q⟩ := z
  subst ey
  obtain rfl : u = Value.ref a := ry
  exact StX.star_any I2 hxs fun us s3 I3 rv => ⟨I3.kIn, StX.run_makeR M F hr hx I3 rv q⟩
/-- C( *y, e, ..), C a name of the module -/
theorem pe_makeS {rest : List Expr} (M : Mk X.K C f) (F : FnR X.prog X.w X.K X.mg X.base CX k f sp) (hr : Room (k + 1) X.A) (hg : Gl X x) (hm : X.mg x = some (.ref C)) (hx : Passes CX X E) (ha : PA X rest t) (hdb : (x == ("__debug__" : Str)) = false := by decide)
    (hst : (backTo pos (starEach rest X.env)).any (·.1) = true := by rfl) (hne : rest ≠ [] := by exact fun z => nomatch z)
    (hcw : ∀ {s : Shared} {Q : Value → Shared → Prop}, wpAny (model X.prog X.w) X.A (spliced (backTo pos (starEach rest X.env))) (fun vs s₁ => X.K.In s₁.heap ∧ wpAny (model X.prog X.w) X.A (call (.ref C) vs) Q X.xe s₁) X.xe s →
      wpAny (model X.prog X.w) X.A (callWith pos (.ref C) [] (backTo pos (starEach rest X.env)) []) Q X.xe s) :
    PE X (.Call (.Name x p) rest [] pos) (StX.tMakeR C sp E t) := by
  refine ⟨fun pins s σ H Q I h => ?_⟩
  refine wpAny_Call_Name_kw (ld_glob I hg hm ?_ hdb)
  exact hcw (thn (ha.run pos pins s σ H _ I h) fun us s1 ⟨vs, H1, I1, r, q⟩ => ⟨I1.kIn, StX.run_makeR M F hr hx I1 r q⟩)
/-- o.m() -/
theorem pe_methR0 {pl : Sem Bool} (he : PE X o ta) (c : Cls X.K C) (hm : Meth X.K C m f) (F : FnR X.prog X.w X.K X.mg X.base CX k f sp) (hr : Room k X.A) (hx : Passes CX X E)
    (ht : eval (.Call (.Attribute o m apos) [] [] pos) X.env = (do
      let ov ← eval o X.env
      standAt apos.atName
      let (f, first) ← holding [ov] (getMethod ov m pl)
      callWith pos f first (backTo pos (starEach [] X.env)) (backToKw pos (keywordEach [] X.env))) := by rfl) :
    PE X (.Call (.Attribute o m apos) [] [] pos) (tMethR C m sp E ta tNil) := by
  refine ⟨fun pins s σ H Q I h => ?_⟩
  refine PySem.W.methodCall_KW (pl := pl) (thn (he.run pins s σ H _ I h) fun u s1 z => ?_) ht
  obtain ⟨x, H1, I1, rx, a, dx, fs, ex, ea, l, q⟩ := z
  subst ex
  obtain rfl : u = Value.ref a := rx
  refine getmeth_ok I1 ea c hm l ?_
  exact PySem.W.callWith_K0 (first := [.ref a]) I1.kIn hm.kp (wpAny_call (run_fnR (us := [.ref a]) (vs := [.ref a]) F hr hx I1 (.cons rfl .nil) q))
/-- e.f, a property -/
def tPropR (C : Addr) (sp : Sp) (E : XK) (ta : TE) : TE := fun σ H Q => ta σ H fun x H1 => ∃ a dx fs, x = .ref a ∧ H1 a = some (.ins C dx fs) ∧ sp [.ref a] H1 Q E
theorem pe_propR {fn : Str} {pr : Addr} (he : PE X e ta) (c : Cls X.K C) (hp : PropOf X.K C fn pr f) (F : FnR X.prog X.w X.K X.mg X.base CX k f sp) (hr : Room (k + 1) X.A) (hx : Passes CX X.nox E)
    (hab : attributeBase e fn X.env (eval e X.env) = eval e X.env := by rfl) : PE X (.Attribute e fn pos) (tPropR C sp E ta) := by
  refine ⟨fun pins s σ H Q I h => ?_⟩
  refine attr_of hab (thn (he.run pins s σ H _ I h) fun u s1 z => ?_)
  obtain ⟨x, H1, I1, rx, a, dx, fs, ex, ea, q⟩ := z
  subst ex
  obtain rfl : u = Value.ref a := rx
  obtain ⟨mA, O, _, _, _, _⟩ := ins_get I1.hok ea
  obtain ⟨od, J, _⟩ := O.look
  obtain ⟨rest, hrec⟩ := hp.rec_
  have hc : (PySem.W.clsIn X.K C).isSome = true := by
    obtain ⟨cd, hc, _⟩ := PySem.W.any_some c.hd
    rw [hc]
    rfl
  have I2 := I1.tok (s1.toks + 1)
  refine PySem.W.get_bind I1.kIn J (PySem.W.plainGet_of (c.get fn)).1 (PySem.W.findObj_data hc hp.at_ hp.get hp.tak) (PySem.W.plainGet_of (c.get fn)).2 (wpAny_call (PySem.W.prop_get (s := { s1 with toks := s1.toks + 1 }) I1.kIn hrec ?_))
  refine codeAny_mono (F X.A.in1 X.stack { s1 with toks := s1.toks + 1 } H1 [.ref a] [.ref a] Q E hr.in1 I2.env0.in1 (.cons rfl .nil) q) fun r s' hq => ?_
  cases r with
  | error er => exact False.elim (hx pins σ H1 { s1 with toks := s1.toks + 1 } er s' (I2.wish _) hq)
  | ok fl => cases fl with
    | ret u =>
      obtain ⟨v, H', I3, rv, q3⟩ := I2.after hq
      show wpAny _ _ (handedOut u) _ _ _
      rw [PySem.W.handedOut_of (handed_of rv)]
      exact wpAny_pure ⟨v, H', I3, rv, q3⟩
    | next => exact False.elim hq
    | brk => exact False.elim hq
    | cont => exact False.elim hq
end
end My

set_option maxRecDepth 100000
set_option maxHeartbeats 4000000
namespace My
open PySem PySem.Spec PyProof.Rows L2

/-! ### an instance's own def of an operator -/
section
variable {X : Cx} {CX : CXT} {pins : List (Addr × Obj)} {σ : L2.St} {H : Hp} {s : Shared} {a C dx g : Addr} {fs : List (Str × V)} {n : Nat} {sp : Sp} {E : XK}
theorem run_below {A : Around} {Q : VK} {us : List Value} {ws : List V} (F : FnR X.prog X.w X.K X.mg X.base CX n g sp) (hr : Room n A) (e0 : Env0 X.prog X.w X.K X.mg X.base A X.stack s H) (hx : Passes CX X E) (I : Inv X pins σ H s) (r : Vals ws us) (h : sp ws H Q E) :
    wpAny (model X.prog X.w) A (call (.ref g) us) (EP X pins σ Q) X.xe s := by
  refine wpAny_call (codeAny_mono (F A X.stack s H us ws Q E hr e0 r h) fun r s' hq => ?_)
  cases r with
  | error e => exact hx pins σ H s e s' I hq
  | ok fl => cases fl with
    | ret u => exact I.after hq
    | next => exact False.elim hq
    | brk => exact False.elim hq
    | cont => exact False.elim hq
theorem ins_at (I : Inv X pins σ H s) (ea : H a = some (.ins C dx fs)) : ∃ od, PySem.W.InstAt s.heap a (PySem.W.instObj C dx) C (some od) := by
  obtain ⟨mA, O, _⟩ := ins_get I.hok ea
  obtain ⟨od, J, _⟩ := O.look
  exact ⟨od, J⟩
/-- v in o, v not in o -/
def rInOwn (C : Addr) (sp : Sp) (E : XK) (neg : Bool) : R2 := fun x y H Q => ∃ a dx fs, y = .ref a ∧ H a = some (.ins C dx fs) ∧ sp [y, x] H (fun z H' => ∃ b, z = .bl b ∧ Q (.bl (if neg then !b else b)) H') E
theorem op_inOwn (hs : PySem.W.findIn X.K (.ref C) "__contains__" = some (some (.ref g))) (hf : PySem.W.isFn X.K (.ref g) = true) (F : FnR X.prog X.w X.K X.mg X.base CX n g sp) (hr : Room n X.A) (hx : Passes CX X E) : OpR X (compareOp .In) (rInOwn C sp E false) := by
  intro pins s σ H x y v u Q I rx ry h
  obtain ⟨a, dx, fs, rfl, ea, q⟩ := h
  cases (show u = Value.ref a from ry)
  obtain ⟨od, J⟩ := ins_at I ea
  obtain ⟨m, hF⟩ := I.fr
  refine PySem.W.in_K hF I.ok.mod.kin J hs hf (thn (run_below (us := [.ref a, v]) (ws := [.ref a, x]) F hr I.env0 hx I (.cons rfl (.cons rx .nil)) q) fun w s' z => ?_)
  obtain ⟨z0, H', I', rz, b, ez, q'⟩ := z
  subst ez
  cases (show w = Value.bool b from rz)
  exact wpAny_truthy_bool ⟨.bl b, H', I', rfl, q'⟩
theorem op_notInOwn (hs : PySem.W.findIn X.K (.ref C) "__contains__" = some (some (.ref g))) (hf : PySem.W.isFn X.K (.ref g) = true) (F : FnR X.prog X.w X.K X.mg X.base CX n g sp) (hr : Room n X.A) (hx : Passes CX X E) : OpR X (compareOp .NotIn) (rInOwn C sp E true) := by
  intro pins s σ H x y v u Q I rx ry h
  obtain ⟨a, dx, fs, rfl, ea, q⟩ := h
  cases (show u = Value.ref a from ry)
  obtain ⟨od, J⟩ := ins_at I ea
  obtain ⟨m, hF⟩ := I.fr
  refine PySem.W.notIn_K hF I.ok.mod.kin J hs hf (thn (run_below (us := [.ref a, v]) (ws := [.ref a, x]) F hr I.env0 hx I (.cons rfl (.cons rx .nil)) q) fun w s' z => ?_)
  obtain ⟨z0, H', I', rz, b, ez, q'⟩ := z
  subst ez
  cases (show w = Value.bool b from rz)
  exact wpAny_truthy_bool ⟨.bl (!b), H', I', rfl, q'⟩
/-- o[i] -/
def rIxOwn (C : Addr) (sp : Sp) (E : XK) : R2 := fun x y H Q => ∃ a dx fs, x = .ref a ∧ H a = some (.ins C dx fs) ∧ sp [x, y] H Q E
theorem pe_ixOwn {o i : Expr} {ta tb : TE} {pos : Pos} (hs : PySem.W.findIn X.K (.ref C) "__getitem__" = some (some (.ref g))) (hf : PySem.W.isFn X.K (.ref g) = true) (hfn : PySem.W.fnIn X.K g = true)
    (F : FnR X.prog X.w X.K X.mg X.base CX n g sp) (hr : Room (n + 1) X.A) (hx : Passes CX X E) (ha : PE X o ta) (hb : PE X i tb)
    (hev : ∀ (s : Shared) (Q E' : Value → Shared → Prop), wpAny (model X.prog X.w) X.A (eval o X.env) (fun ov s1 => wpAny (model X.prog X.w) X.A (eval i X.env) (fun iv s2 => wpAny (model X.prog X.w) X.A (subscriptTail o i ov iv) Q E' s2) E' s1) E' s → wpAny (model X.prog X.w) X.A (eval (.Subscript o i pos) X.env) Q E' s)
    (hsl : ∀ x v : Value, subscripted i true x v = runValue (.builtin "lifetime.subscript" ⟨[x, v], []⟩)) :
    PE X (.Subscript o i pos) (tOp (rIxOwn C sp E) ta tb) := by
  refine ⟨fun pins s σ H Q I h => ?_⟩
  refine hev _ _ _ (thn (ha.run pins s σ H _ I h) fun ov s1 z => ?_)
  obtain ⟨x, H1, I1, rx, h1⟩ := z
  refine thn (hb.run pins s1 σ H1 _ I1 h1) fun iv s2 z => ?_
  obtain ⟨y, H2, I2, ry, a, dx, fs, rfl, ea, q⟩ := z
  cases (show ov = Value.ref a from rx)
  obtain ⟨od, J⟩ := ins_at I2 ea
  obtain ⟨m, hF⟩ := I2.fr
  exact PySem.W.sub_K hF I2.ok.mod.kin J hs hfn hf (run_below (us := [.ref a, iv]) (ws := [.ref a, y]) F hr.in1 I2.env0.in1 hx I2 (.cons rfl (.cons ry .nil)) q) (hsl _ _)
end

/-! ### x op y by x's own def, y of another kind -/
namespace Bo
open PySem.W Builtin
section
variable {prog : Program} {w : World} {A : Around} {E : Value → Shared → Prop} {s : Shared} {K : Frag} {x C L f : Addr} {h₀ : Heap} {m : Str → Option Value} {ox : Obj} {od : Option Obj}
theorem called_fn {M : Model} {h : Heap} {t : Value} {name : Str} {f : Addr} : Looks M h (calledByName t name (some (.ref f))) true := .now
theorem called_none {M : Model} {h : Heap} {t : Value} {name : Str} : Looks M h (calledByName t name none) false := .now
theorem inPy {M : Model} {h : Heap} {nm : String} {D g : Addr} (X : K.In h) (hs : findIn K (.ref D) (PySem.dunder nm) = some (some (.ref g))) (hr : findIn K (.ref D) (dunderR nm) = some none) : Looks M h (numberSlotInPython (.ref D) nm) true := by
  intro A Q E s k q
  unfold numberSlotInPython
  refine wpAny_bind (looks_findIn X hs A _ E s k ?_)
  refine wpAny_bind (called_fn A _ E s k ?_)
  refine wpAny_bind (looks_findIn X hr A _ E s k ?_)
  refine wpAny_bind (called_none A _ E s k ?_)
  exact wpAny_pure q
/-- y is an instance of another class (not below) that has a def for op too, neither class one for the reflected op -/
theorem binop2 {nm : String} {b : Value} {D g : Addr} {Q : Option Value → Shared → Prop} {cdC cdD : ClassData} {rC rD : List Value} (F : Fr h₀ L s.heap m) (X₀ : K.In h₀) (I : InstAt s.heap x ox C od) (hb : Looks (model prog w) s.heap (typeOf b) (.ref D)) (hne : C ≠ D)
    (hcC : clsIn K C = some cdC) (hmC : cdC.mro = .ref C :: rC) (hcD : clsIn K D = some cdD) (hmD : cdD.mro = .ref D :: rD)
    (hs : findIn K (.ref C) (PySem.dunder nm) = some (some (.ref f))) (hf : isFn K (.ref f) = true) (hsD : findIn K (.ref D) (PySem.dunder nm) = some (some (.ref g)))
    (hrC : findIn K (.ref C) (dunderR nm) = some none) (hrD : findIn K (.ref D) (dunderR nm) = some none) (hsub : subIn K (.ref D) (.ref C) = some false)
    (h : wpAny (model prog w) A (call (.ref f) [.ref x, b]) (fun v s' => v ≠ .notImplemented ∧ Q (some v) s') E s) : wpAny (model prog w) A (binaryOp1 nm (.ref x) b) Q E s := by
  have X := X₀.keeps F.keep
  have hn : (Value.ref C == Value.ref D) = false := by simp [hne]
  unfold binaryOp1
  refine wpAny_bind (I.type.here (wpAny_bind (hb.here (wpAny_bind ((fills_K X hcC hmC hs).here ?_)))))
  rw [hn]
  simp only [Bool.false_eq_true, if_false]
  refine wpAny_bind ((fills_K X hcD hmD hsD).here ?_)
  simp only [Bool.and_self, if_true]
  refine wpAny_bind (m := isSubtype (.ref D) (.ref C)) ((looks_subIn X hsub).here ?_)
  simp only [Bool.false_eq_true, if_false]
  simp only [Bool.false_eq_true, if_false, Bool.not_false, Bool.and_self, if_true]
  refine wpAny_bind (m := numberSlotInPython (.ref C) nm) ((inPy X hs hrC).here ?_)
  simp only [if_true]
  refine wpAny_bind (m := numberSlotInPython (.ref D) nm) ((inPy X hsD hrD).here ?_)
  simp only [Bool.not_true, Bool.false_eq_true, if_false]
  refine wpAny_bind (m := tryMethod (.ref x) (PySem.dunder nm) b) ?_
  unfold tryMethod
  refine wpAny_bind (special_fn X I hs (beq_iff_eq.mp hf) (wpAny_mono h (fun v s' hv => ?_) fun _ _ e => e))
  cases v <;> first | exact absurd rfl hv.1 | exact wpAny_pure (wpAny_pure hv.2)
end
end Bo
end My

set_option maxRecDepth 100000
set_option maxHeartbeats 4000000
namespace PySem
/-! enumerate(v), v anything that an iterator begins on -/
theorem my_enum_new {v : Value} {o : Obj} {H : Heap → Prop} (B : Begins v o H) :
    Meets (Builtin.«enumerate.__new__» ⟨[.type "enumerate", v], []⟩) (fun _ R s => H s.heap ∧
      R (.ok (.ret (.ref (s.heap.push o).objs.size)))
        { s with heap := (s.heap.push o).push { cls := .type "enumerate", data := .fields #[.none, .bool false, .ref s.heap.objs.size, rawInt 0, .none, .none] } }) :=
  .of_wp fun prog w A R s hh => by
    obtain ⟨hp, g, d, tk, os⟩ := s
    obtain ⟨h1, hq⟩ := hh
    have hsub := sub_enumerate
    have it : ∀ {A' : Around} {E : Value → Shared → Prop} {Q : Value → Shared → Prop}, Q (.ref hp.objs.size) ⟨hp.push o, g, d, tk, os⟩ →
        wpAny (model prog w) A' (pyIter v) Q E ⟨hp, g, d, tk, os⟩ := fun q => B.iter prog w _ _ ⟨hp, g, d, tk, os⟩ _ h1 q
    wp_walk using it
    refine wpAny_stack_any fun st => wpAny_pure ?_
    split
    · rename_i c _ _ _ _ _
      cases (c == Value.type "enumerate") <;> (wp_walk using it; exact ⟨_, rfl, hq⟩)
    · wp_walk using it
      exact ⟨_, rfl, hq⟩
theorem my_enum {prog : Program} {w : World} {A : Around} {E : Value → Shared → Prop} {s : Shared} {v : Value} {o : Obj} {H : Heap → Prop} {Q : Value → Shared → Prop} (B : Begins v o H) (h1 : H s.heap)
    (h : ∀ h', IsEnum h' (s.heap.objs.size + 1) s.heap.objs.size 0 .none → h'.get? s.heap.objs.size = some o → h'.objs.size = s.heap.objs.size + 2 →
      (∀ b u, s.heap.get? b = some u → h'.get? b = some u) → Q (.ref (s.heap.objs.size + 1)) { s with heap := h' }) :
    wpAny (model prog w) A (call (.type "enumerate") [v]) Q E s := by
  refine callType_new F.called_enumerate (by decide) (F.typeCall_enumerate_1 _) (F.newCall_enumerate_1 _) (fun obj => F.args_object_init_2 obj _) F.entry_enumerate_new (my_enum_new B) ⟨h1, ?_⟩
  have hz : (s.heap.push o).objs.size = s.heap.objs.size + 1 := Heap.size_push ..
  show _ ∧ _
  rw [hz]
  have he := Heap.get?_push_size (s.heap.push o) (o := { cls := .type "enumerate", data := .fields #[.none, .bool false, .ref s.heap.objs.size, rawInt 0, .none, .none] }) rfl
  rw [hz] at he
  refine ⟨⟨_, he, rfl⟩, h _ he (Heap.get?_push_of_some _ (Heap.get?_push_size _ B.free)) ?_ fun b u z => Heap.get?_push_of_some _ (Heap.get?_push_of_some _ z)⟩
  rw [Heap.size_push, hz]
end PySem
namespace My
open PySem PySem.Spec PyProof.Rows L2
/-! ### enumerate(tuple) -/
def IteT (K : PySem.W.Frag) (a : Addr) : It :=
  ⟨fun i H => ∃ (xs : List V) (x : V), SqT K H a xs ∧ xs[i]? = some x, fun i H v H' => ∃ T x, v = .ref T ∧ H T = none ∧ H' = upd H T (.tup [.int (i : Nat), x]) ∧ ∀ xs, SqT K H a xs → xs[i]? = some x,
    fun i H => ∃ xs : List V, SqT K H a xs ∧ xs.length = i⟩
theorem turn_enumT {P : Program} {w : World} {K : PySem.W.Frag} {elts : List Expr} {kk : Nat} {tpos : Pos} (a e it : Addr) :
    Turn P w K (.Tuple elts kk tpos) (IteT K a) [e, it] e (fun i h => (∃ old, IsEnum h e it ((i : Nat) : Int) old) ∧ h.IsTupleIter it a i ∧ e ≠ it ∧ a ≠ it ∧ a ≠ e) where
  mem := by simp
  obj := fun i h st b hb => by
    obtain ⟨⟨old, he⟩, ⟨o, ho, hc, hd⟩, _⟩ := st
    have e' : b = e ∨ b = it := by simpa using hb
    rcases e' with z | z
    · subst z
      exact ⟨_, he, fun v q => by cases q⟩
    · subst z
      exact ⟨o, ho, fun v q => by rw [hd] at q; cases q⟩
  keep := fun i h h' st k => by
    obtain ⟨⟨old, he⟩, hi, hne⟩ := st
    exact ⟨⟨old, k e (by simp) _ he⟩, hi.at fun o q => k it (by simp) o q, hne⟩
  item := by
    intro X hP hw hK hc i pins s σ H E I hf st hg
    subst hP hw hK
    obtain ⟨⟨old, he⟩, hit, hne, hai, hae⟩ := st
    obtain ⟨xs, x, hq, hx⟩ := hg
    obtain ⟨its, rv, p, hz⟩ := I.tuple hq
    obtain ⟨u, hu, ru⟩ := rv.get hx
    have hel : e < s.heap.objs.size := Heap.lt_size he
    have hil : it < s.heap.objs.size := by
      obtain ⟨_, q, _⟩ := hit
      exact Heap.lt_size q
    have hlt : i < its.toArray.size := by
      obtain ⟨h1, _⟩ := List.getElem?_eq_some_iff.mp hu
      simpa using h1
    have hal : a < s.heap.objs.size := p.lt
    refine wpAny_pyNext_enum_itemD (n := its.toArray.size) (Draws.tuple (by exact I.ok.hd hc) it a hai its.toArray) he ⟨hit, p⟩ hlt hne (by simp [hne, Ne.symm hae]) fun v h' tk hv ho hst hT hsz hk => ?_
    have ev : v = u := by
      have q : its[i]? = some v := by simpa using hv
      rw [hu] at q
      exact (Option.some.inj q).symm
    subst ev
    refine ⟨_, rfl, wpAny_letOwnedTupleGo_enum (s := { s with heap := h', toks := tk + 1 }) ho fun h'' he' sb => ?_⟩
    have hT2 : h''.get? s.heap.objs.size = some { cls := .type "tuple", data := .seq #[.int i tk, v] } := (sb.2 _ (Nat.ne_of_gt hel)).trans hT
    have new : ObjOk X.prog X.w (upd H s.heap.objs.size (.tup [.int (i : Nat), x])) h'' s.heap.objs.size (.tup [.int (i : Nat), x]) :=
      ⟨by show 2 ≤ sizeLine; decide, [.int i tk, v], .cons ⟨_, rfl⟩ (.cons ru .nil), ⟨_, hT2, rfl, _, rfl⟩⟩
    have I1 : Inv X pins σ (upd H s.heap.objs.size (.tup [.int (i : Nat), x])) { s with heap := h'', toks := tk + 1 } :=
      I.turnedNew (ch := [e, it]) (fun b ob hb q => by
        have b1 : b ≠ e := fun z => hb (by simp [z])
        have b2 : b ≠ it := fun z => hb (by simp [z])
        exact (sb.2 b b1).trans (hk b ob b1 b2 q)) hf (Nat.le_refl _) new
    refine ⟨.ref s.heap.objs.size, _, I1, rfl, ⟨_, x, rfl, I.hok.fresh (Nat.le_refl _), rfl, fun ys hy => by rw [I.tuple_inj hy hq]; exact hx⟩, ⟨⟨v, ?_⟩, hst.1.at fun o q => (sb.2 it (Ne.symm hne)).trans q, hne, hai, hae⟩, fun b hb => ?_⟩
    · have e1 : ((i + 1 : Nat) : Int) = (i : Int) + 1 := by omega
      rw [e1]
      exact he'
    · have hb' : b < s.heap.objs.size := by
        have e' : b = e ∨ b = it := by simpa using hb
        rcases e' with z | z
        · exact z ▸ hel
        · exact z ▸ hil
      rw [upd_ne (Nat.ne_of_lt hb')]
      exact (hf b hb).1
  done := by
    intro X hP hw hK hc i pins s σ H E I hf st hg
    subst hP hw hK
    obtain ⟨⟨old, he⟩, hit, hne, hai, hae⟩ := st
    obtain ⟨xs, hq, hx⟩ := hg
    obtain ⟨its, rv, p, hz⟩ := I.tuple hq
    obtain ⟨f0, f1, f2, f3, f4, f5⟩ := hf it (by simp)
    have hl := rv.length
    refine wpAny_pyNext_enum_endD (n := its.toArray.size) (Draws.tuple (by exact I.ok.hd hc) it a hai its.toArray) he ⟨?_, p⟩ fun h' eb => ⟨rfl, I.turned (t' := s.toks) (fun b o hb q => eb b o hb q) f0 f1 f3 f4 f5⟩
    have en : its.toArray.size = i := by simp; omega
    rw [en]
    exact hit
  self := fun A i s Q E st h => by
    obtain ⟨⟨_, he⟩, _⟩ := st
    exact wpAny_pyIter_enum he h
def iEnumA (K : PySem.W.Frag) (ta : TA) : TI := fun σ H R => ta σ H fun vs H1 => ∃ a xs, vs = [.ref a] ∧ ((SqL K H1 a xs ∧ R (Ite K a) H1) ∨ (SqT K H1 a xs ∧ R (IteT K a) H1))
theorem pi_enumA {X : Cx} {e : Expr} {ta : TA} {p pos tpos : Pos} {elts : List Expr} {kk : Nat} (hg : Gl X "enumerate") (hm : X.mg "enumerate" = none) (ha : PA X [e] ta) (hs : starEach [e] X.env = [(false, eval e X.env)] := by rfl) :
    PI X (.Tuple elts kk tpos) (.Call (.Name "enumerate" p) [e] [] pos) (iEnumA X.K ta) := by
  refine ⟨fun pins s σ H R I h => ?_⟩
  refine Call_ (ld_blt I hg hm boot_enumerate (PyProof.Rows.callWith_type1 (thn (ha.run pos pins s σ H _ I h) fun us s1 z => ?_) hs rfl))
  obtain ⟨vs, H1, I1, r1, a, xs, ex, q⟩ := z
  subst ex
  cases r1 with
  | cons r rr =>
    cases rr
    cases r
    have fp : ∀ b ∈ [s1.heap.objs.size + 1, s1.heap.objs.size], FpOk X pins H1 b := fun b hb => by
      have e' : b = s1.heap.objs.size + 1 ∨ b = s1.heap.objs.size := by simpa using hb
      have hle : s1.heap.objs.size ≤ b := by
        rcases e' with z | z
        · rw [z]
          exact Nat.le_succ _
        · rw [z]
          exact Nat.le_refl _
      exact I1.fpOk hle (I1.hok.fresh hle)
    rcases q with ⟨hq, q⟩ | ⟨hq, q⟩
    · obtain ⟨its, rv, p', hz⟩ := I1.list hq
      refine call_enumerate_list p'.isList fun h' he hit hsz hk => wpAny_pyIter_enum he ?_
      exact ⟨s1.heap.objs.size + 1, [s1.heap.objs.size + 1, s1.heap.objs.size], _, _, H1, rfl, I1.kept (t' := s1.toks) hk, turn_enum a (s1.heap.objs.size + 1) s1.heap.objs.size, ⟨⟨.none, he⟩, hit, Nat.succ_ne_self _⟩, fp, q⟩
    · obtain ⟨its, rv, p', hz⟩ := I1.tuple hq
      have hal : a < s1.heap.objs.size := p'.lt
      refine my_enum (begins_tuple a its.toArray) p' fun h' he hit hsz hk => wpAny_pyIter_enum he ?_
      exact ⟨s1.heap.objs.size + 1, [s1.heap.objs.size + 1, s1.heap.objs.size], _, _, H1, rfl, I1.kept (t' := s1.toks) hk, turn_enumT a (s1.heap.objs.size + 1) s1.heap.objs.size,
        ⟨⟨.none, he⟩, ⟨_, hit, rfl, rfl⟩, Nat.succ_ne_self _, Nat.ne_of_lt hal, Nat.ne_of_lt (Nat.lt_succ_of_lt hal)⟩, fp, q⟩
theorem for_enumT {K : PySem.W.Frag} {a : Addr} {xs : List V} {g : TG} {tb : TS} {D : Ends} {σ : L2.St} {H : Hp} (Pv : Nat → L2.St → Hp → Prop) (h0 : Pv 0 σ H) (hl : ∀ i σ H, i ≤ xs.length → Pv i σ H → SqT K H a xs)
    (hs : ∀ i x σ H T, xs[i]? = some x → Pv i σ H → H T = none → g (.ref T) σ (upd H T (.tup [.int (i : Nat), x])) fun σ2 H2 => tb { D with nx := Pv (i + 1), ct := Pv (i + 1), bk := D.nx } σ2 H2)
    (hd : ∀ σ H, Pv xs.length σ H → D.nx σ H) :
    ∃ W : Nat → Nat → L2.St → Hp → Prop, (∃ m, W 0 m σ H) ∧ ∀ i m σ H, W i m σ H →
      ((IteT K a).stop i H ∧ D.nx σ H) ∨ ((IteT K a).go i H ∧ ∃ N : L2.St → Hp → Prop, (∀ σ' H', N σ' H' → ∃ m', m' < m ∧ W (i + 1) m' σ' H') ∧ ∀ x H', (IteT K a).yld i H x H' → g x σ H' fun σ2 H2 => tb { D with nx := N, ct := N, bk := D.nx } σ2 H2) := by
  refine ⟨fun i m σ H => m = xs.length - i ∧ i ≤ xs.length ∧ Pv i σ H, ⟨xs.length, by simp, Nat.zero_le _, h0⟩, ?_⟩
  rintro i m σ H ⟨rfl, hi, p⟩
  have q := hl i σ H hi p
  by_cases hlt : i < xs.length
  · refine .inr ⟨⟨xs, xs[i], q, by simp [hlt]⟩, fun σ' H' => Pv (i + 1) σ' H', fun σ' H' z => ⟨xs.length - (i + 1), by omega, rfl, hlt, z⟩, ?_⟩
    rintro x H' ⟨T, y, rfl, hT, rfl, hy⟩
    exact hs i y σ H T (hy xs q) p hT
  · have e : i = xs.length := by omega
    subst e
    exact .inl ⟨⟨xs, q, rfl⟩, hd σ H p⟩
theorem for_enumL {K : PySem.W.Frag} {a : Addr} {xs : List V} {g : TG} {tb : TS} {D : Ends} {σ : L2.St} {H : Hp} (Pv : Nat → L2.St → Hp → Prop) (h0 : Pv 0 σ H) (hl : ∀ i σ H, i ≤ xs.length → Pv i σ H → SqL K H a xs)
    (hs : ∀ i x σ H T, xs[i]? = some x → Pv i σ H → H T = none → g (.ref T) σ (upd H T (.tup [.int (i : Nat), x])) fun σ2 H2 => tb { D with nx := Pv (i + 1), ct := Pv (i + 1), bk := D.nx } σ2 H2)
    (hd : ∀ σ H, Pv xs.length σ H → D.nx σ H) :
    ∃ W : Nat → Nat → L2.St → Hp → Prop, (∃ m, W 0 m σ H) ∧ ∀ i m σ H, W i m σ H →
      ((Ite K a).stop i H ∧ D.nx σ H) ∨ ((Ite K a).go i H ∧ ∃ N : L2.St → Hp → Prop, (∀ σ' H', N σ' H' → ∃ m', m' < m ∧ W (i + 1) m' σ' H') ∧ ∀ x H', (Ite K a).yld i H x H' → g x σ H' fun σ2 H2 => tb { D with nx := N, ct := N, bk := D.nx } σ2 H2) := by
  refine ⟨fun i m σ H => m = xs.length - i ∧ i ≤ xs.length ∧ Pv i σ H, ⟨xs.length, by simp, Nat.zero_le _, h0⟩, ?_⟩
  rintro i m σ H ⟨rfl, hi, p⟩
  have q := hl i σ H hi p
  by_cases hlt : i < xs.length
  · refine .inr ⟨⟨xs, xs[i], q, by simp [hlt]⟩, fun σ' H' => Pv (i + 1) σ' H', fun σ' H' z => ⟨xs.length - (i + 1), by omega, rfl, hlt, z⟩, ?_⟩
    rintro x H' ⟨T, y, rfl, hT, rfl, hy⟩
    exact hs i y σ H T (hy xs q) p hT
  · have e : i = xs.length := by omega
    subst e
    exact .inl ⟨⟨xs, q, Nat.le_refl _⟩, hd σ H p⟩

/-! ### unions, repr -/
section
variable {X : Cx}
def rMulS : R2 := fun x y H Q => ∃ (a : Str) (n : Int), x = .str a ∧ y = .int n ∧ 2 ≤ n ∧ n ≤ 1000 ∧ 0 < a.length ∧ a.length ≤ 1000 ∧ (⟨(List.replicate n.toNat a.cps).foldl (· ++ ·) #[]⟩ : Str).length ≤ sizeLine ∧ Q (.str ⟨(List.replicate n.toNat a.cps).foldl (· ++ ·) #[]⟩) H
theorem op_mulS : OpR X (binaryOp .Mult) rMulS := by
  intro pins s σ H x y v u Q I rx ry h
  obtain ⟨a, n, rfl, rfl, h2, h1000, h0, hl, hz, q⟩ := h
  obtain ⟨t, rfl⟩ := rx
  obtain ⟨t', rfl⟩ := ry
  have hn1 : ¬ n < 1 := by omega
  have hb1 : (n == 1 || a.length == 0) = false := by
    have e1 : (n == 1) = false := by simpa using (show n ≠ 1 by omega)
    have e2 : (a.length == 0) = false := by simpa using (show a.length ≠ 0 by omega)
    rw [e1, e2]
    rfl
  have hm : a.length * n.toNat ≤ 1000 * 1000 := Nat.mul_le_mul hl (by omega)
  refine P.mul_str ?_ (fun _ _ => ?_) (fun _ _ => ?_) ?_
  · have e1 : decide (n < -(2 ^ 63 : Int)) = false := decide_eq_false (by omega)
    have e2 : decide (n ≥ 2 ^ 63) = false := decide_eq_false (by omega)
    rw [e1, e2]
    rfl
  · have hd : (1000 : Int) ≤ (2 ^ 63 - 1) / n := by
      rw [Int.le_ediv_iff_mul_le (by omega)]
      omega
    omega
  · have z : a.length * n.toNat ≤ sizeLine := Nat.le_trans hm (by decide)
    first
      | exact decide_eq_false (Nat.not_lt.mpr z)
      | (unfold Builtin.tooLong; exact decide_eq_false (Nat.not_lt.mpr z))
      | (unfold Builtin.Str.tooLong; exact decide_eq_false (Nat.not_lt.mpr z))
  · rw [if_neg hn1, if_neg (by rw [hb1]; decide)]
    refine ⟨?_, .str _, H, I.tok _, ⟨_, rfl⟩, q⟩
    exact hz
def rReprD (K : PySem.W.Frag) : List V → Hp → VK → Prop := fun xs H Q => ∃ v d, xs = [v] ∧ Dp K H v d ∧ d.showable = true ∧ d.hasDict = false ∧ d.depth ≤ 40 ∧ d.shown.length ≤ sizeLine ∧ Q (.str d.shown) H
theorem call_reprD {k : Nat} (hr : Room k X.A) (hg : X.A.guards = some []) : CallR X (.builtin "repr") (rReprD X.K) := by
  intro pins s σ H xs us Q I r h
  obtain ⟨v, d, rfl, hd, hs, hk, hdep, hz, q⟩ := h
  cases r with
  | @cons _ u _ ur ru rr =>
    cases rr
    have hu := hr.units
    obtain ⟨as, hR⟩ := Dp.reads I d v u hd ru
    cases hd with
    | non =>
      cases (show u = Value.none from ru)
      exact PySem.P.repr_of_none ⟨.str _, H, I.tok _, ⟨_, rfl⟩, q⟩
    | bl b =>
      cases (show u = Value.bool b from ru)
      exact PySem.P.repr_of_bool ⟨.str _, H, I.tok _, ⟨_, rfl⟩, q⟩
    | int i =>
      obtain ⟨t, rfl⟩ := (show ∃ t, u = Value.int i t from ru)
      exact PySem.P.repr_of_int (by simpa [PyData.showable] using hs) ⟨.str _, H, I.tok _, ⟨_, rfl⟩, q⟩
    | str z =>
      obtain ⟨t, rfl⟩ := (show ∃ t, u = Value.str z t from ru)
      exact PySem.P.repr_of_str ⟨.str _, H, I.tok _, ⟨_, rfl⟩, q⟩ hz
    | @lst a ys ds h1 h2 =>
      cases (show u = Value.ref a from ru)
      exact repr_of_reads' hR hs (fun z => by rw [hk] at z; cases z) hg (by omega) (fun _ _ e => e) (fun h' u tk k => ⟨.str _, H, I.kept (t' := tk) k, ⟨_, rfl⟩, q⟩) hz
    | @tup a ys ds h1 h2 =>
      cases (show u = Value.ref a from ru)
      exact repr_of_reads' hR hs (fun z => by rw [hk] at z; cases z) hg (by omega) (fun _ _ e => e) (fun h' u tk k => ⟨.str _, H, I.kept (t' := tk) k, ⟨_, rfl⟩, q⟩) hz
end
end My

set_option maxRecDepth 100000
set_option maxHeartbeats 4000000
namespace My
open PySem PySem.Spec PyProof.Rows L2

/-! ### unions by name -/
section
variable {X : Cx}
def rAddU (K : PySem.W.Frag) : R2 := fun x y H Q => (∃ i j, x = .int i ∧ y = .int j ∧ Q (.int (i + j)) H) ∨ ((∃ i j, x = .str i ∧ y = .str j ∧ i.length + j.length ≤ sizeLine ∧ Q (.str (i ++ j)) H) ∨ (rCat x y H Q ∨ rCatA K x y H Q))
theorem op_addU : OpR X (binaryOp .Add) (rAddU X.K) := op_add.or (op_add_str.or (op_cat.or op_catA))
def rMulU : R2 := fun x y H Q => (∃ i j, x = .int i ∧ y = .int j ∧ CMul i j ∧ Q (.int (i * j)) H) ∨ rMulS x y H Q
theorem op_mulU : OpR X (binaryOp .Mult) rMulU := op_mul.or op_mulS
def rEqU (K : PySem.W.Frag) : R2 := fun x y H Q => rEq x y H Q ∨ rEqD K x y H Q
def rNeU (K : PySem.W.Frag) : R2 := fun x y H Q => rNe x y H Q ∨ rNeD K x y H Q
theorem op_eqU (hu : X.A.units + 64 < cLine) : OpR X (compareOp .Eq) (rEqU X.K) := op_eq.or (op_eqD hu)
theorem op_neU (hu : X.A.units + 64 < cLine) : OpR X (compareOp .NotEq) (rNeU X.K) := op_ne.or (op_neD hu)
def rLenU (K : PySem.W.Frag) : List V → Hp → VK → Prop := fun xs H Q => (∃ p ys, xs = [.ref p] ∧ (SqL K H p ys ∨ SqT K H p ys) ∧ Q (.int ys.length) H) ∨ (∃ z, xs = [.str z] ∧ z.length ≤ sizeLine ∧ Q (.int z.length) H)
theorem call_lenU : CallR X (.builtin "len") (rLenU X.K) := call_len_seq.or call_len_str
def rStrU : List V → Hp → VK → Prop := fun xs H Q => (∃ i, xs = [.int i] ∧ i.natAbs.log2 < 1920 ∧ Q (.str (toString i)) H) ∨ (∃ a, xs = [.str a] ∧ Q (.str a) H)
theorem call_strU : CallR X (.type "str") rStrU := call_str_int.or SkE.call_str_str
def rIntU : List V → Hp → VK → Prop := fun xs H Q => ((∃ i, xs = [.int i] ∧ Q (.int i) H) ∨ ∃ k, xs = [.bl k] ∧ Q (.int (if k then 1 else 0)) H) ∨ (∃ a n, xs = [.str a] ∧ PySem.intText? a = some n ∧ a.length ≤ 640 ∧ Q (.int n) H)
theorem call_intU : CallR X (.type "int") rIntU := call_int1.or call_int_str
def rSlU (K : PySem.W.Frag) : V → Option Int → Option Int → Hp → VK → Prop := fun x lo hi H Q => rSlL K x lo hi H Q ∨ (rSlS x lo hi H Q ∨ rSlA K x lo hi H Q)
theorem sl_any : SlR X (rSlU X.K) := sl_list.or (sl_str.or sl_tupA)
end

/-! ### readings, step by step -/
section
variable {K : PySem.W.Frag} {σ : L2.St} {H : Hp} {Q : VK} {QT : Bool → Hp → Prop} {QA : List V → Hp → Prop} {D : Ends} {ta tb te : TE} {t u : TT} {v x y : V} {r : R2} {tl : TA} {ts us : TS} {g : TG} {i j : Nat}
theorem r_var (h : σ[i]? = some (some v)) (q : Q v H) : tVar i σ H Q := ⟨v, h, q⟩
theorem r_c (q : Q v H) : tC v σ H Q := q
theorem r_op (h : ta σ H fun x H1 => tb σ H1 fun y H2 => r x y H2 Q) : tOp r ta tb σ H Q := h
theorem r_un {r : V → Hp → VK → Prop} (h : ta σ H fun x H1 => r x H1 Q) : tUn r ta σ H Q := h
theorem r_cb {r : List V → Hp → VK → Prop} (h : tl σ H fun vs H1 => r vs H1 Q) : tCB r tl σ H Q := h
theorem r_callR {sp : Sp} {E : XK} (h : tl σ H fun vs H1 => sp vs H1 Q E) : tCallR sp E tl σ H Q := h
theorem r_nil (q : QA [] H) : tNil σ H QA := q
theorem r_cons (h : ta σ H fun x H1 => tl σ H1 fun xs H2 => QA (x :: xs) H2) : tCons ta tl σ H QA := h
theorem r_tup (h : tl σ H fun xs H1 => xs.length ≤ sizeLine ∧ ∀ p, H1 p = none → Q (.ref p) (upd H1 p (.tup xs))) : tTup tl σ H Q := h
theorem r_lst (h : tl σ H fun xs H1 => xs.length ≤ sizeLine ∧ ∀ p, H1 p = none → Q (.ref p) (upd H1 p (.lst xs))) : tLst tl σ H Q := h
theorem r_dget (h : ta σ H fun x H1 => tb σ H1 fun y H2 => ∃ a v, x = .ref a ∧ DGet H2 a y (some v) ∧ Q v H2) : tDGet ta tb σ H Q := h
theorem r_test (h : ta σ H fun x H' => ∃ k, x = .bl k ∧ QT k H') : tTest ta σ H QT := h
theorem r_tB (h : ta σ H fun x H' => ∃ k, x = .bl k ∧ QT k H') : tB ta σ H QT := h
theorem r_not (h : t σ H fun c H1 => QT (!c) H1) : tNot t σ H QT := h
theorem r_notV (h : ta σ H fun x H1 => ∃ c, x = .bl c ∧ Q (.bl (!c)) H1) : tNotV ta σ H Q := h
theorem r_and (h : t σ H fun c H1 => if c = true then u σ H1 QT else QT false H1) : tAnd t u σ H QT := h
theorem r_or (h : t σ H fun c H1 => if c = true then QT true H1 else u σ H1 QT) : tOr t u σ H QT := h
theorem r_andV (h : ta σ H fun x H1 => ∃ c, x = .bl c ∧ if c = true then tb σ H1 Q else Q (.bl false) H1) : tAndV ta tb σ H Q := h
theorem r_orV (h : ta σ H fun x H1 => ∃ c, x = .bl c ∧ if c = true then Q (.bl true) H1 else tb σ H1 Q) : tOrV ta tb σ H Q := h
theorem r_if (h : t σ H fun c H1 => if c = true then ta σ H1 Q else tb σ H1 Q) : tIf t ta tb σ H Q := h
theorem r_sl {r : V → Option Int → Option Int → Hp → VK → Prop} {tl th : TO} (h : te σ H fun x H1 => tl σ H1 fun l H2 => th σ H2 fun u H3 => r x l u H3 Q) : tSl r te tl th σ H Q := h
theorem r_part {QO : Option Int → Hp → Prop} (h : ta σ H fun x H1 => ∃ i, x = .int i ∧ QO (some i) H1) : tPart ta σ H QO := h
theorem r_nopart {QO : Option Int → Hp → Prop} (h : QO none H) : tNoPart σ H QO := h
theorem r_bm {T : String} {r : V → List V → Hp → VK → Prop} (h : ta σ H fun x H1 => tyV K T x H1 ∧ tl σ H1 fun xs H2 => r x xs H2 Q) : tBM K T r ta tl σ H Q := h
theorem r_bm0 {T : String} {r : V → List V → Hp → VK → Prop} (h : ta σ H fun x H1 => tyV K T x H1 ∧ r x [] H1 Q) : tBM0 K T r ta σ H Q := h
theorem r_fld {f : Str} (h : ta σ H fun x H1 => ∃ a C dx fs v, x = .ref a ∧ H1 a = some (.ins C dx fs) ∧ Cls K C ∧ NoAttr K C f ∧ fs.lookup f = some v ∧ Q v H1) : tFld K ta f σ H Q := h
theorem r_propR {C : Addr} {sp : Sp} {E : XK} (h : ta σ H fun x H1 => ∃ a dx fs, x = .ref a ∧ H1 a = some (.ins C dx fs) ∧ sp [.ref a] H1 Q E) : tPropR C sp E ta σ H Q := h
theorem r_methR {C : Addr} {m : Str} {sp : Sp} {E : XK} (h : ta σ H fun x H1 => ∃ a dx fs, x = .ref a ∧ H1 a = some (.ins C dx fs) ∧ fs.lookup m = none ∧ tl σ H1 fun vs H2 => sp (x :: vs) H2 Q E) : tMethR C m sp E ta tl σ H Q := h
theorem r_makeR {C : Addr} {sp : Sp} {E : XK} (h : tl σ H fun vs H1 => ∀ x dx, H1 x = Option.none → H1 dx = Option.none → dx ≠ x → sp (V.ref x :: vs) (upd (upd H1 dx (.own x)) x (.ins C dx [])) (fun v H2 => v = .non ∧ Q (.ref x) H2) E) : StX.tMakeR C sp E tl σ H Q := h
theorem r_cmeth {C : Addr} {sp : Sp} {E : XK} (h : ta σ H fun x H1 => x = .ref C ∧ tl σ H1 fun vs H2 => sp (.ref C :: vs) H2 Q E) : ClX.tCMeth C sp E ta tl σ H Q := h
theorem r_star (h : ta σ H fun x H1 => ∃ p xs, x = V.ref p ∧ (SqT K H1 p xs ∨ SqL K H1 p xs) ∧ tl σ H1 fun ys H2 => QA (xs ++ ys) H2) : StX.tStar K ta tl σ H QA := h
theorem r_m0 {r : V → List V → Hp → VK → Prop} (h : ta σ H fun x H1 => (∃ a, x = .str a) ∧ r x [] H1 Q) : tM0 r ta σ H Q := h
theorem r_m1 {r : V → List V → Hp → VK → Prop} (h : ta σ H fun x H1 => (∃ a, x = .str a) ∧ tb σ H1 fun y H2 => r x [y] H2 Q) : tM1 r ta tb σ H Q := h
theorem r_chain {r r' : R2} {tc : TE} (h : ta σ H fun x H1 => tb σ H1 fun y H2 => r x y H2 fun z H3 => ∃ k, z = .bl k ∧ (if k = true then tc σ H3 fun w' H4 => r' y w' H4 Q else Q (.bl false) H3)) : tChain r r' ta tb tc σ H Q := h
-- statements
theorem r_cut (Mid : L2.St → Hp → Prop) (h : ts { D with nx := Mid } σ H) (k : ∀ σ' H', Mid σ' H' → us D σ' H') : C8.tCut ts us D σ H := ⟨Mid, h, k⟩
theorem r_seq (h : ts { D with nx := us D } σ H) : tSeq ts us D σ H := h
theorem r_next (h : D.nx σ H) : tNext D σ H := h
theorem r_drop (h : te σ H fun _ H1 => D.nx σ H1) : tDrop te D σ H := h
theorem r_ret (h : te σ H D.rt) : tRet te D σ H := h
theorem r_retN (h : D.rt .non H) : tRetN D σ H := h
theorem r_brk (h : D.bk σ H) : tBreak D σ H := h
theorem r_cont (h : D.ct σ H) : tCont D σ H := h
theorem r_ifS {tc : TT} (h : tc σ H fun b H1 => if b = true then ts D σ H1 else us D σ H1) : tIfS tc ts us D σ H := h
theorem r_asg (h : te σ H fun x H1 => g x σ H1 D.nx) : tAsg te g D σ H := h
theorem r_gname {QS : L2.St → Hp → Prop} (h : QS (σ.set i (some v)) H) : gName i v σ H QS := h
theorem r_par (h : tl σ H fun vs H1 => ∃ v w, vs = [v, w] ∧ D.nx ((σ.set i (some v)).set j (some w)) H1) : tPar i j tl D σ H := h
theorem r_gnil {QS : L2.St → Hp → Prop} (h : QS σ H) : gNil [] σ H QS := ⟨rfl, h⟩
theorem r_gcons {QS : L2.St → Hp → Prop} {gs : TGs} {vs : List V} (h : g v σ H fun σ' H' => gs vs σ' H' QS) : gCons g gs (v :: vs) σ H QS := ⟨v, vs, rfl, h⟩
theorem r_fldS {f : Str} {tv : TE} (h : tv σ H fun y H1 => ta σ H1 fun x H2 => ∃ a C dx fs, x = .ref a ∧ H2 a = some (.ins C dx fs) ∧ Cls K C ∧ NoAttr K C f ∧ fs.length < 1000 ∧ D.nx σ (upd H2 a (.ins C dx (putF f y fs)))) : sFld K ta tv f D σ H := h
theorem r_dput {tv : TE} (h : tv σ H fun v H1 => ta σ H1 fun x H2 => tb σ H2 fun y H3 => ∃ a H4, x = .ref a ∧ DPut H3 a y v H4 ∧ D.nx σ H4) : sDPut ta tb tv D σ H := h
theorem r_dgetV {a : Addr} {P : V → Prop} (h : DGet H a y (some v)) (q : P v) : ∃ b z, V.ref a = V.ref b ∧ DGet H b y (some z) ∧ P z := ⟨a, v, rfl, h, q⟩
theorem r_dputV {a : Addr} {H' : Hp} {P : Hp → Prop} (h : DPut H a y v H') (q : P H') : ∃ b H4, V.ref a = V.ref b ∧ DPut H b y v H4 ∧ P H4 := ⟨a, H', rfl, h, q⟩
theorem r_ex1 {α : Type} {a : α} {P : α → Prop} (q : P a) : ∃ b, a = b ∧ P b := ⟨a, rfl, q⟩
theorem r_gsub {s : TSet} {QS : L2.St → Hp → Prop} (h : ta σ H fun o H1 => tb σ H1 fun i H2 => s o i v H2 fun H3 => QS σ H3) : gSub ta tb s v σ H QS := h
-- by values
theorem r_I0 {f : Int → Int → V} {a b : Int} (q : Q (f a b) H) : rI0 f (.int a) (.int b) H Q := ⟨a, b, rfl, rfl, q⟩
theorem r_I {C : Int → Int → Prop} {f : Int → Int → V} {a b : Int} (c : C a b) (q : Q (f a b) H) : rI C f (.int a) (.int b) H Q := ⟨a, b, rfl, rfl, c, q⟩
theorem r_U {f : Int → V} {a : Int} (q : Q (f a) H) : rU f (.int a) H Q := ⟨a, rfl, q⟩
theorem r_addI {a b : Int} (q : Q (.int (a + b)) H) : rAddU K (.int a) (.int b) H Q := .inl ⟨a, b, rfl, rfl, q⟩
theorem r_addS {a b : Str} (c : a.length + b.length ≤ sizeLine) (q : Q (.str (a ++ b)) H) : rAddU K (.str a) (.str b) H Q := .inr (.inl ⟨a, b, rfl, rfl, c, q⟩)
theorem r_catL {p q : Addr} {xs ys : List V} (h1 : H p = some (.lst xs)) (h2 : H q = some (.lst ys)) (c : xs.length + ys.length ≤ sizeLine) (k : ∀ r, H r = none → Q (.ref r) (upd H r (.lst (xs ++ ys)))) : rAddU K (.ref p) (.ref q) H Q := .inr (.inr (.inl ⟨p, q, xs, ys, rfl, rfl, h1, h2, c, k⟩))
theorem r_mulI {a b : Int} (c : CMul a b) (q : Q (.int (a * b)) H) : rMulU (.int a) (.int b) H Q := .inl ⟨a, b, rfl, rfl, c, q⟩
theorem r_eqI {a b : Int} (q : Q (.bl (decide (a = b))) H) : rEqU K (.int a) (.int b) H Q := .inl ⟨rfl, by
  have e : decide (V.int a = V.int b) = decide (a = b) := by simp
  rw [e]
  exact q⟩
theorem r_eqS {a b : Str} (q : Q (.bl (decide (a = b))) H) : rEqU K (.str a) (.str b) H Q := .inl ⟨rfl, by
  have e : decide (V.str a = V.str b) = decide (a = b) := by simp
  rw [e]
  exact q⟩
theorem r_neI {a b : Int} (q : Q (.bl (!decide (a = b))) H) : rNeU K (.int a) (.int b) H Q := .inl ⟨rfl, by
  have e : decide (V.int a = V.int b) = decide (a = b) := by simp
  rw [e]
  exact q⟩
theorem r_neS {a b : Str} (q : Q (.bl (!decide (a = b))) H) : rNeU K (.str a) (.str b) H Q := .inl ⟨rfl, by
  have e : decide (V.str a = V.str b) = decide (a = b) := by simp
  rw [e]
  exact q⟩
theorem r_intI {a : Int} (q : Q (.int a) H) : rIntU [.int a] H Q := .inl (.inl ⟨a, rfl, q⟩)
theorem r_strI {a : Int} (c : a.natAbs.log2 < 1920) (q : Q (.str (toString a)) H) : rStrU [.int a] H Q := .inl ⟨a, rfl, c, q⟩
theorem r_strS {a : Str} (q : Q (.str a) H) : rStrU [.str a] H Q := .inr ⟨a, rfl, q⟩
theorem r_lenL {p : Addr} {ys : List V} (h : SqL K H p ys) (q : Q (.int ys.length) H) : rLenU K [.ref p] H Q := .inl ⟨p, ys, rfl, .inl h, q⟩
theorem r_lenT {p : Addr} {ys : List V} (h : SqT K H p ys) (q : Q (.int ys.length) H) : rLenU K [.ref p] H Q := .inl ⟨p, ys, rfl, .inr h, q⟩
theorem r_lenS {z : Str} (h : z.length ≤ sizeLine) (q : Q (.int z.length) H) : rLenU K [.str z] H Q := .inr ⟨z, rfl, h, q⟩
theorem r_ixL {p : Addr} {ys : List V} {n : Int} (h : SqL K H p ys) (e : atI ys n = some v) (q : Q v H) : rIx K (.ref p) (.int n) H Q := .inl ⟨p, ys, n, v, rfl, rfl, h, e, q⟩
theorem r_ixT {p : Addr} {ys : List V} {n : Int} (h : SqT K H p ys) (e : atI ys n = some v) (q : Q v H) : rIx K (.ref p) (.int n) H Q := .inr (.inl ⟨p, ys, n, v, rfl, rfl, h, e, q⟩)
theorem r_ixS {z : Str} {n : Int} {c : Nat} (h : z.length ≤ sizeLine) (e : atI z.cps.toList n = some c) (q : Q (.str ⟨#[c]⟩) H) : rIx K (.str z) (.int n) H Q := .inr (.inr ⟨z, n, c, rfl, rfl, h, e, q⟩)
theorem r_slL {p : Addr} {ys : List V} {lo hi : Option Int} (h : SqL K H p ys) (q : ∀ p, H p = none → Q (.ref p) (upd H p (.lst (cutV ys lo hi)))) : rSlU K (.ref p) lo hi H Q := .inl ⟨p, ys, rfl, h, q⟩
theorem r_slS {z : Str} {lo hi : Option Int} (h : z.length ≤ sizeLine) (q : Q (.str (cutS z lo hi)) H) : rSlU K (.str z) lo hi H Q := .inr (.inl ⟨z, rfl, h, q⟩)
theorem r_bl {b : Bool} {Qb : Bool → Prop} (q : Qb b) : ∃ k, V.bl b = V.bl k ∧ Qb k := ⟨b, rfl, q⟩
theorem r_int1 {n : Int} {Qb : Int → Prop} (q : Qb n) : ∃ k, V.int n = V.int k ∧ Qb k := ⟨n, rfl, q⟩
theorem r_two {v w : V} {P : V → V → Prop} (q : P v w) : ∃ a b, [v, w] = [a, b] ∧ P a b := ⟨v, w, rfl, q⟩
theorem r_ints1 {n : Int} {P : Int → Prop} (q : P n) : ∃ k, [V.int n] = [V.int k] ∧ P k := ⟨n, rfl, q⟩
theorem r_ints2 {n m : Int} {P : Int → Int → Prop} (q : P n m) : ∃ k l, [V.int n, V.int m] = [V.int k, V.int l] ∧ P k l := ⟨n, m, rfl, q⟩
theorem r_str1 {z : Str} {P : Prop} (q : P) : (∃ a, V.str z = V.str a) ∧ P := ⟨⟨z, rfl⟩, q⟩
theorem r_iteD {p A B : Prop} [Decidable p] (h1 : p → A) (h2 : ¬ p → B) : if decide p = true then A else B := by
  by_cases h : p
  · rw [if_pos (decide_eq_true h)]
    exact h1 h
  · rw [if_neg (by simpa using h)]
    exact h2 h
theorem r_iteN {p A B : Prop} [Decidable p] (h1 : ¬ p → A) (h2 : p → B) : if (!decide p) = true then A else B := by
  by_cases h : p
  · rw [if_neg (by simp [h])]
    exact h2 h
  · rw [if_pos (by simp [h])]
    exact h1 h
theorem r_iteT {A B : Prop} (h : A) : if true = true then A else B := by
  rw [if_pos rfl]
  exact h
theorem r_iteF {A B : Prop} (h : B) : if false = true then A else B := by
  rw [if_neg Bool.false_ne_true]
  exact h
theorem r_iteB {b : Bool} {A B : Prop} (h1 : b = true → A) (h2 : b = false → B) : if b = true then A else B := by
  cases b with
  | true => exact r_iteT (h1 rfl)
  | false => exact r_iteF (h2 rfl)
end

/-! ### what calls keep: all but the source of drawn numbers -/
def penlike : HO → Bool
  | .dK ((_, .ref _) :: _) => true
  | _ => false
structure Kp (H H' : Hp) : Prop where
  k : ∀ b o, penlike o = false → H b = some o → H' b = some o
  f : ∀ b, H' b = none → H b = none
theorem Kp.refl (H : Hp) : Kp H H := ⟨fun _ _ _ h => h, fun _ h => h⟩
theorem Kp.trans {H H1 H2 : Hp} (a : Kp H H1) (b : Kp H1 H2) : Kp H H2 := ⟨fun c o n h => b.k c o n (a.k c o n h), fun c h => a.f c (b.f c h)⟩
theorem Kp.new {H : Hp} {p : Addr} {o : HO} (h : H p = none) : Kp H (upd H p o) := ⟨fun a u _ e => by rw [upd_ne (ne_of_none e h)]; exact e, fun b e => by
  by_cases hb : b = p
  · rw [hb]
    exact h
  · rw [upd_ne hb] at e
    exact e⟩
/-- an object that H does not know may change -/
theorem Kp.mut {H H' : Hp} {p : Addr} {o : HO} (e : Kp H H') (h : H p = none) : Kp H (upd H' p o) := ⟨fun a u n ha => by rw [upd_ne (ne_of_none ha h)]; exact e.k a u n ha, fun b eb => by
  by_cases hb : b = p
  · rw [hb]
    exact h
  · rw [upd_ne hb] at eb
    exact e.f b eb⟩
theorem Kp.then {H H1 : Hp} {p : Addr} {o : HO} (e : Kp H H1) (h : H1 p = none) : Kp H (upd H1 p o) := e.trans (Kp.new h)
theorem Kp.l {H H' : Hp} (e : Kp H H') {p : Addr} {xs : List V} (h : H p = some (.lst xs)) : H' p = some (.lst xs) := e.k _ _ rfl h
theorem Kp.t {H H' : Hp} (e : Kp H H') {p : Addr} {xs : List V} (h : H p = some (.tup xs)) : H' p = some (.tup xs) := e.k _ _ rfl h
theorem Kp.i {H H' : Hp} (e : Kp H H') {p C dx : Addr} {fs : List (Str × V)} (h : H p = some (.ins C dx fs)) : H' p = some (.ins C dx fs) := e.k _ _ rfl h
theorem Kp.rdL {K : PySem.W.Frag} {H H' : Hp} (e : Kp H H') {p : Addr} {xs : List V} (h : SqL K H p xs) : SqL K H' p xs := by
  rcases h with (h | ⟨o, h⟩) | h
  · exact .inl (.inl (e.k _ _ rfl h))
  · exact .inl (.inr ⟨o, e.k _ _ rfl h⟩)
  · exact .inr h
theorem Kp.rdT {K : PySem.W.Frag} {H H' : Hp} (e : Kp H H') {p : Addr} {xs : List V} (h : SqT K H p xs) : SqT K H' p xs := by
  rcases h with (h | ⟨o, h⟩) | h
  · exact .inl (.inl (e.k _ _ rfl h))
  · exact .inl (.inr ⟨o, e.k _ _ rfl h⟩)
  · exact .inr h
mutual
theorem Kp.dp {K : PySem.W.Frag} {H H' : Hp} (e : Kp H H') : ∀ (d : PyData) (v : V), Dp K H v d → Dp K H' v d
  | _, _, .non => .non
  | _, _, .bl b => .bl b
  | _, _, .int i => .int i
  | _, _, .str x => .str x
  | .list ds, _, .lst h a => .lst (e.rdL h) (Kp.dpAll e ds _ a)
  | .tuple ds, _, .tup h a => .tup (e.rdT h) (Kp.dpAll e ds _ a)
theorem Kp.dpAll {K : PySem.W.Frag} {H H' : Hp} (e : Kp H H') : ∀ (ds : List PyData) (vs : List V), DpAll K H vs ds → DpAll K H' vs ds
  | _, _, .nil => .nil
  | d :: ds, _, .cons h r => .cons (Kp.dp e d _ h) (Kp.dpAll e ds _ r)
end

/-! ### the source of drawn numbers -/
def penKV (c : Addr) (b r : Int) : List (Key × V) := [(.inr "cells", .ref c), (.inr "begun", .int b), (.inr "rest", .int r)]
structure PenD (H : Hp) (a c : Addr) (ns : List Int) (b r : Int) : Prop where
  d : H a = some (.dK (penKV c b r))
  c : H c = some (.lst (ns.map V.int))
/-- the source: its dict, its list of cells, the cells -/
structure PenI where
  a : Addr
  c : Addr
  ns : List Int
def Pen (H : Hp) (z : PenI) (n : Nat) : Prop := ∃ b r, PenD H z.a z.c z.ns b r ∧ 0 ≤ b ∧ b ≤ n ∧ 0 ≤ r
theorem PenD.cells {H : Hp} {a c : Addr} {ns : List Int} {b r : Int} (p : PenD H a c ns b r) : DGet H a (.str "cells") (some (.ref c)) := by
  have h := DGet.k (k := .inr "cells") p.d
  exact h
theorem PenD.begun {H : Hp} {a c : Addr} {ns : List Int} {b r : Int} (p : PenD H a c ns b r) : DGet H a (.str "begun") (some (.int b)) := by
  have h := DGet.k (k := .inr "begun") p.d
  exact h
theorem PenD.rest {H : Hp} {a c : Addr} {ns : List Int} {b r : Int} (p : PenD H a c ns b r) : DGet H a (.str "rest") (some (.int r)) := by
  have h := DGet.k (k := .inr "rest") p.d
  exact h
theorem PenD.putBegun {H : Hp} {a c : Addr} {ns : List Int} {b r : Int} (p : PenD H a c ns b r) (b' : Int) : DPut H a (.str "begun") (.int b') (upd H a (.dK (penKV c b' r))) := by
  have h := DPut.k (k := .inr "begun") (v := .int b') p.d (by show 3 < sizeLine; decide)
  exact h
theorem PenD.putRest {H : Hp} {a c : Addr} {ns : List Int} {b r : Int} (p : PenD H a c ns b r) (r' : Int) : DPut H a (.str "rest") (.int r') (upd H a (.dK (penKV c b r'))) := by
  have h := DPut.k (k := .inr "rest") (v := .int r') p.d (by show 3 < sizeLine; decide)
  exact h
theorem PenD.upd {H : Hp} {a c : Addr} {ns : List Int} {b r : Int} (p : PenD H a c ns b r) (b' r' : Int) : PenD (L2.upd H a (.dK (penKV c b' r'))) a c ns b' r' :=
  ⟨upd_same, by rw [upd_ne (ne_of p.c p.d (by intro q; cases q))]; exact p.c⟩
theorem PenD.kp {H : Hp} {a c : Addr} {ns : List Int} {b r : Int} (p : PenD H a c ns b r) (b' r' : Int) : Kp H (L2.upd H a (.dK (penKV c b' r'))) :=
  ⟨fun x o n h => by
    have hx : x ≠ a := fun z => by
      rw [z, p.d] at h
      cases h
      cases n
    rw [upd_ne hx]
    exact h, fun x h => by
    by_cases hx : x = a
    · rw [hx, upd_same] at h
      cases h
    · rw [upd_ne hx] at h
      exact h⟩
theorem Kp.penD {H : Hp} {a c p : Addr} {ns : List Int} {b r : Int} {o : HO} (d : PenD H a c ns b r) (h : H p = none) : PenD (L2.upd H p o) a c ns b r :=
  ⟨by rw [upd_ne (ne_of_none d.d h)]; exact d.d, by rw [upd_ne (ne_of_none d.c h)]; exact d.c⟩
theorem Pen.new {H : Hp} {z : PenI} {p : Addr} {n : Nat} {o : HO} (d : Pen H z n) (h : H p = none) : Pen (L2.upd H p o) z n := by
  obtain ⟨b, r, d, y⟩ := d
  exact ⟨b, r, Kp.penD d h, y⟩
/-- a list, an instance .. that is no part of the source changes -/
theorem Pen.mut {H : Hp} {z : PenI} {p : Addr} {n : Nat} {o : HO} (d : Pen H z n) (h1 : p ≠ z.a) (h2 : p ≠ z.c) : Pen (L2.upd H p o) z n := by
  obtain ⟨b, r, d, y⟩ := d
  exact ⟨b, r, ⟨by rw [upd_ne (Ne.symm h1)]; exact d.d, by rw [upd_ne (Ne.symm h2)]; exact d.c⟩, y⟩
theorem Pen.mono {H : Hp} {z : PenI} {n m : Nat} (d : Pen H z n) (h : n ≤ m) : Pen H z m := by
  obtain ⟨b, r, d, z1, z2, z3⟩ := d
  exact ⟨b, r, d, z1, by omega, z3⟩
theorem Pen.free {H : Hp} {z : PenI} {p : Addr} {n : Nat} (d : Pen H z n) (h : H p = none) : p ≠ z.a ∧ p ≠ z.c := by
  obtain ⟨b, r, d, y⟩ := d
  exact ⟨(ne_of_none d.d h).symm, (ne_of_none d.c h).symm⟩
/-- a call is done: what it gives, at most c more cells begun, all else kept -/
def Aft (z : PenI) (H : Hp) (n c : Nat) (R : V → Hp → Prop) (Q : VK) : Prop := ∀ v n' H', R v H' → n' ≤ n + c → Kp H H' → Pen H' z n' → Q v H'
end My
namespace My
open PySem PySem.Spec PyProof.Rows L2
section
variable {K : PySem.W.Frag} {H : Hp} {Q : VK}
theorem dpAll_ints : ∀ ns : List Int, DpAll K H (ns.map V.int) (ns.map PyData.int)
  | [] => .nil
  | n :: ns => .cons (.int n) (dpAll_ints ns)
/-- a list of ints against a new empty one -/
theorem r_neL0 {p q : Addr} {ns : List Int} (h : SqL K H p (ns.map V.int)) (h0 : SqL K H q []) (k : Q (.bl (decide (ns ≠ []))) H) : rNeU K (.ref p) (.ref q) H Q := by
  refine .inr ⟨.list (ns.map PyData.int), .list [], .lst h (dpAll_ints ns), .lst h0 .nil, PySem.W.ke_shaped_ints ns, PySem.W.ke_shaped_ints [], ?_⟩
  have e : (!PyData.eqv (.list (ns.map PyData.int)) (.list [])) = decide (ns ≠ []) := by
    cases ns with
    | nil => rfl
    | cons n r => rfl
  rw [e]
  exact k
theorem atI_mod {α : Type} {xs : List α} {i : Int} (h : xs ≠ []) : ∃ v, atI xs (i % (xs.length : Int)) = some v ∧ v ∈ xs := by
  have hl : 0 < xs.length := List.length_pos_iff.mpr h
  have h0 := Int.emod_nonneg i (show (xs.length : Int) ≠ 0 by omega)
  have h1 := Int.emod_lt_of_pos i (show (0 : Int) < xs.length by omega)
  obtain ⟨j, hj⟩ : ∃ j : Nat, i % (xs.length : Int) = (j : Int) := ⟨(i % (xs.length : Int)).toNat, by omega⟩
  have hjl : j < xs.length := by omega
  exact ⟨xs[j], by rw [hj]; exact atI_nat (by simp [hjl]), List.getElem_mem hjl⟩
theorem atI_in {α : Type} {xs : List α} {i : Int} (h0 : 0 ≤ i) (h1 : i < xs.length) : ∃ v, atI xs i = some v ∧ xs[i.toNat]? = some v ∧ v ∈ xs := by
  obtain ⟨j, hj⟩ : ∃ j : Nat, i = (j : Int) := ⟨i.toNat, by omega⟩
  subst hj
  have hjl : j < xs.length := by omega
  exact ⟨xs[j], atI_nat (by simp [hjl]), by simp [hjl], List.getElem_mem hjl⟩
end
end My
namespace My
open PySem PySem.Spec PyProof.Rows L2
section
variable {K : PySem.W.Frag} {σ : L2.St} {H : Hp} {Q : VK} {D : Ends} {ta : TA} {te : TE} {tb : TS} {wi : TI} {g : TG} {tt : TT}
theorem r_for (h : wi σ H fun J H1 => ∃ W : Nat → Nat → L2.St → Hp → Prop, (∃ m, W 0 m σ H1) ∧ ∀ i m σ H, W i m σ H →
  (J.stop i H ∧ D.nx σ H) ∨ (J.go i H ∧ ∃ N : L2.St → Hp → Prop, (∀ σ' H', N σ' H' → ∃ m', m' < m ∧ W (i + 1) m' σ' H') ∧ ∀ x H', J.yld i H x H' → g x σ H' fun σ2 H2 => tb { D with nx := N, ct := N, bk := D.nx } σ2 H2)) : tFor wi g tb D σ H := h
theorem r_lc {vs : List Nat} (h : wi σ H fun J H1 => ∀ D, H1 D = none → ∃ W : Nat → Nat → Hp → Prop, (∃ m, W 0 m (upd H1 D (.lst []))) ∧ ∀ i m H, W i m H →
  (J.stop i H ∧ Q (.ref D) H) ∨ (J.go i H ∧ ∃ Nx : Hp → Prop, (∀ H', Nx H' → ∃ m', m' < m ∧ W (i + 1) m' H') ∧ ∀ x H', J.yld i H x H' → g x (wipe σ vs) H' fun σ2 H2 => wipe σ2 vs = wipe σ vs ∧ tt σ2 H2 fun b H3 =>
    if b = true then te σ2 H3 fun y H4 => ∃ acc, H4 D = some (.lst acc) ∧ acc.length < sizeLine ∧ Nx (upd H4 D (.lst (acc ++ [y]))) else Nx H3)) : tLc wi g tt te vs σ H Q := h
theorem r_rng1 {R : It → Hp → Prop} (h : ta σ H fun vs H1 => ∃ j : Int, vs = [.int j] ∧ -(2 ^ 62) ≤ j ∧ j < 2 ^ 62 ∧ R (Itr 0 j.toNat) H1) : iRng1 ta σ H R := h
theorem r_rng2 {R : It → Hp → Prop} (h : ta σ H fun vs H1 => ∃ i j : Int, vs = [.int i, .int j] ∧ (-(2 ^ 62) ≤ i ∧ i < 2 ^ 62 ∧ -(2 ^ 62) ≤ j ∧ j < 2 ^ 62) ∧ R (Itr i (j - i).toNat) H1) : iRng2 ta σ H R := h
theorem r_enumA {R : It → Hp → Prop} (h : ta σ H fun vs H1 => ∃ a xs, vs = [.ref a] ∧ ((SqL K H1 a xs ∧ R (Ite K a) H1) ∨ (SqT K H1 a xs ∧ R (IteT K a) H1))) : iEnumA K ta σ H R := h
/-- range(n), the turns told by i -/
theorem for_rng {n : Nat} {j : Int} (e : j.toNat = n) (Pv : Nat → L2.St → Hp → Prop) (h0 : Pv 0 σ H)
    (hs : ∀ (i : Nat) σ H, i < n → Pv i σ H → g (.int i) σ H fun σ2 H2 => tb { D with nx := Pv (i + 1), ct := Pv (i + 1), bk := D.nx } σ2 H2) (hd : ∀ σ H, Pv n σ H → D.nx σ H) :
    ∃ W : Nat → Nat → L2.St → Hp → Prop, (∃ m, W 0 m σ H) ∧ ∀ i m σ H, W i m σ H →
      ((Itr 0 j.toNat).stop i H ∧ D.nx σ H) ∨ ((Itr 0 j.toNat).go i H ∧ ∃ N : L2.St → Hp → Prop, (∀ σ' H', N σ' H' → ∃ m', m' < m ∧ W (i + 1) m' σ' H') ∧ ∀ x H', (Itr 0 j.toNat).yld i H x H' → g x σ H' fun σ2 H2 => tb { D with nx := N, ct := N, bk := D.nx } σ2 H2) := by
  rw [e]
  exact for_range Pv h0 (fun i σ H hi p => by rw [Int.zero_add]; exact hs i σ H hi p) hd
theorem lc_rng {n : Nat} {j : Int} (e : j.toNat = n) {H1 : Hp} {D : Addr} {vs : List Nat} {Qd : Hp → Prop} (Pv : Nat → Hp → Prop) (h0 : Pv 0 (upd H1 D (.lst [])))
    (hs : ∀ (i : Nat) H, i < n → Pv i H → g (.int i) (wipe σ vs) H fun σ2 H2 => wipe σ2 vs = wipe σ vs ∧ tt σ2 H2 fun b H3 =>
      if b = true then te σ2 H3 fun y H4 => ∃ acc, H4 D = some (.lst acc) ∧ acc.length < sizeLine ∧ Pv (i + 1) (upd H4 D (.lst (acc ++ [y]))) else Pv (i + 1) H3) (hd : ∀ H, Pv n H → Qd H) :
    ∃ W : Nat → Nat → Hp → Prop, (∃ m, W 0 m (upd H1 D (.lst []))) ∧ ∀ i m H, W i m H →
      ((Itr 0 j.toNat).stop i H ∧ Qd H) ∨ ((Itr 0 j.toNat).go i H ∧ ∃ Nx : Hp → Prop, (∀ H', Nx H' → ∃ m', m' < m ∧ W (i + 1) m' H') ∧ ∀ x H', (Itr 0 j.toNat).yld i H x H' → g x (wipe σ vs) H' fun σ2 H2 => wipe σ2 vs = wipe σ vs ∧ tt σ2 H2 fun b H3 =>
        if b = true then te σ2 H3 fun y H4 => ∃ acc, H4 D = some (.lst acc) ∧ acc.length < sizeLine ∧ Nx (upd H4 D (.lst (acc ++ [y]))) else Nx H3) := by
  rw [e]
  exact lc_range Pv h0 (fun i H hi p => by rw [Int.zero_add]; exact hs i H hi p) hd
end
/-! ### a list under construction, with draws in between -/
structure Acc (z : PenI) (H0 H : Hp) (n : Nat) (p : Addr) (xs : List V) : Prop where
  kp : Kp H0 H
  pen : Pen H z n
  new : H0 p = none
  l : H p = some (.lst xs)
  ne : p ≠ z.c
theorem Pen.ne {H : Hp} {z : PenI} {n : Nat} {p : Addr} {xs : List V} (d : Pen H z n) (h : H p = some (.lst xs)) : p ≠ z.a := fun e => by
  obtain ⟨b, r, d, _⟩ := d
  rw [e, d.d] at h
  cases h
theorem Acc.start {z : PenI} {H0 H : Hp} {n : Nat} {p : Addr} {xs : List V} (k : Kp H0 H) (d : Pen H z n) (h : H p = none) : Acc z H0 (upd H p (.lst xs)) n p xs :=
  ⟨k.then h, d.new h, k.f _ h, upd_same, (d.free h).2⟩
theorem Acc.put {z : PenI} {H0 H : Hp} {n : Nat} {p : Addr} {xs : List V} (a : Acc z H0 H n p xs) (ys : List V) : Acc z H0 (upd H p (.lst ys)) n p ys :=
  ⟨a.kp.mut a.new, a.pen.mut (a.pen.ne a.l) a.ne, a.new, upd_same, a.ne⟩
theorem Acc.go {z : PenI} {H0 H H1 : Hp} {n m : Nat} {p : Addr} {xs : List V} (a : Acc z H0 H n p xs) (k : Kp H H1) (d : Pen H1 z m) : Acc z H0 H1 m p xs :=
  ⟨a.kp.trans k, d, a.new, k.l a.l, a.ne⟩
theorem Acc.newO {z : PenI} {H0 H : Hp} {n : Nat} {p q : Addr} {xs : List V} {o : HO} (a : Acc z H0 H n p xs) (h : H q = none) : Acc z H0 (upd H q o) n p xs := a.go (Kp.new h) (a.pen.new h)
theorem Acc.mono {z : PenI} {H0 H : Hp} {n m : Nat} {p : Addr} {xs : List V} (a : Acc z H0 H n p xs) (h : n ≤ m) : Acc z H0 H m p xs := ⟨a.kp, a.pen.mono h, a.new, a.l, a.ne⟩
section
variable {X : Cx} {tg e : Expr} {te : TE} {wi wj : TI} {σ : L2.St} {H : Hp} {R : It → Hp → Prop}
theorem pi_or (a : PI X tg e wi) (b : PI X tg e wj) : PI X tg e (fun σ H R => wi σ H R ∨ wj σ H R) := ⟨fun pins s σ H R I h => h.elim (fun h => a.run pins s σ H R I h) (fun h => b.run pins s σ H R I h)⟩
def iAny (K : PySem.W.Frag) (te : TE) : TI := fun σ H R => iList K te σ H R ∨ (iTup K te σ H R ∨ iStr te σ H R)
theorem pi_any (h : PE X e te) : PI X tg e (iAny X.K te) := pi_or (pi_list h) (pi_or (pi_tup h) (pi_str h))
theorem r_iL {K : PySem.W.Frag} (h : te σ H fun x H1 => ∃ a, x = .ref a ∧ (∃ xs, SqL K H1 a xs) ∧ R (Itl K a) H1) : iAny K te σ H R := .inl h
theorem r_iT {K : PySem.W.Frag} (h : te σ H fun x H1 => ∃ a, x = .ref a ∧ (∃ xs, SqT K H1 a xs) ∧ R (Itt K a) H1) : iAny K te σ H R := .inr (.inl h)
theorem r_iS {K : PySem.W.Frag} (h : te σ H fun v H1 => ∃ x, v = .str x ∧ R (Its x) H1) : iAny K te σ H R := .inr (.inr h)
theorem r_iLv {K : PySem.W.Frag} {a : Addr} {xs : List V} (hl : SqL K H a xs) (h : R (Itl K a) H) : ∃ b, V.ref a = V.ref b ∧ (∃ xs, SqL K H b xs) ∧ R (Itl K b) H := ⟨a, rfl, ⟨xs, hl⟩, h⟩
theorem r_iTv {K : PySem.W.Frag} {a : Addr} {xs : List V} (hl : SqT K H a xs) (h : R (Itt K a) H) : ∃ b, V.ref a = V.ref b ∧ (∃ xs, SqT K H b xs) ∧ R (Itt K b) H := ⟨a, rfl, ⟨xs, hl⟩, h⟩
end
theorem r_yes {σ : L2.St} {H : Hp} {QT : Bool → Hp → Prop} (h : QT true H) : tYes σ H QT := h
theorem ty_list {K : PySem.W.Frag} {H : Hp} {p : Addr} {xs : List V} (h : H p = some (.lst xs)) : tyV K "list" (.ref p) H := .inl ⟨rfl, xs, SqL.of h⟩
theorem r_append {H : Hp} {p : Addr} {xs : List V} {y : V} {Q : VK} (h : H p = some (.lst xs)) (c : xs.length < sizeLine) (q : Q .non (upd H p (.lst (xs ++ [y])))) : rAppend (.ref p) [y] H Q := ⟨p, xs, y, rfl, rfl, h, c, q⟩
theorem r_setL {H : Hp} {p : Addr} {xs : List V} {i : Int} {j : Nat} {v : V} {Q : Hp → Prop} (h : H p = some (.lst xs)) (c : ixN xs.length i = some j) (q : Q (upd H p (.lst (xs.set j v)))) : rSetL (.ref p) (.int i) v H Q := ⟨p, xs, i, j, rfl, rfl, h, c, q⟩
theorem r_slA {K : PySem.W.Frag} {H : Hp} {p : Addr} {xs : List V} {lo hi : Option Int} {Q : VK} (h : H p = some (.tup xs)) (c : ¬ (HT.sIx xs.length 0 lo = 0 ∧ HT.sIx xs.length xs.length hi = xs.length)) (q : ∀ r, H r = none → Q (.ref r) (upd H r (.tup (cutV xs lo hi)))) : rSlU K (.ref p) lo hi H Q :=
  .inr (.inr ⟨p, xs, rfl, SqT.of h, fun z => absurd z c, fun _ => q⟩)
theorem r_catA {K : PySem.W.Frag} {H : Hp} {p q : Addr} {xs ys : List V} {Q : VK} (h1 : H p = some (.tup xs)) (h2 : H q = some (.tup ys)) (e1 : xs ≠ []) (e2 : ys ≠ []) (c : xs.length + ys.length ≤ sizeLine) (k : ∀ r, H r = none → Q (.ref r) (upd H r (.tup (xs ++ ys)))) :
    rAddU K (.ref p) (.ref q) H Q := .inr (.inr (.inr ⟨p, q, xs, ys, rfl, rfl, SqT.of h1, SqT.of h2, c, fun z => absurd z e1, fun _ z => absurd z e2, fun _ _ => k⟩))
theorem r_gtup {K : PySem.W.Frag} {n : Nat} {gs : TGs} {p : Addr} {xs : List V} {σ : L2.St} {H : Hp} {Q : L2.St → Hp → Prop} (h : H p = some (.tup xs)) (e : xs.length = n) (k : gs xs σ H Q) : gTup K n gs (.ref p) σ H Q := ⟨p, xs, rfl, SqT.of h, e, k⟩
end My

set_option maxRecDepth 100000
set_option maxHeartbeats 4000000
/-! a, *b = a list; [.. for c in a text]; decimal words -/
namespace My
open PySem PySem.Spec PySem.Calls PyProof.Rows L2
section
variable {prog : Program} {w : World} {A : Around} {E : Value → Shared → Prop} {s : Shared}
theorem unpack_star {l : Addr} {v : Value} {vs : List Value} {Q : List Value → Shared → Prop} (hl : s.heap.IsList l (v :: vs).toArray) (hh : A.handled = none) (hz : (v :: vs).length ≤ sizeLine)
    (h : ∀ h' tk, Heap.ExtBut s.heap.objs.size s.heap h' → Q [v, .ref h'.objs.size] { s with heap := h'.push { cls := .type "list", data := .seq vs.toArray }, toks := tk }) : wpAny (model prog w) A (unpackItems (.ref l) 2 (some 1)) Q E s := by
  have hlt : l ≠ s.heap.objs.size := by obtain ⟨o, ho, _⟩ := hl; exact Nat.ne_of_lt (Heap.lt_size ho)
  unfold unpackItems
  refine wpAny_bind ?_
  unfold notIterableAtAll
  refine wpAny_bind (wpAny_specialOf hl.typeIs slot_list_iter.lookup ?_)
  refine wpAny_pure ?_
  simp only [Bool.false_eq_true, if_false]
  refine wpAny_bind (wpAny_holding (wpAny_pyIter_list hl ?_))
  have hsz : (v :: vs).toArray.size = vs.length + 1 := by simp
  refine wpAny_bind (wpAny_holding (PySem.W.kun_draw hlt 1 0 _ _ ⟨_, Heap.get?_push_size _ rfl, rfl, rfl⟩ (hl.push _) (by omega) fun h₁ hit₁ hs₁ => ?_))
  have hl₁ : h₁.IsList l (v :: vs).toArray := (hl.push _).extBut hs₁.extBut hlt
  rw [Nat.zero_add] at hit₁
  have hit₁' := hit₁
  obtain ⟨oi, hoi, _⟩ := hit₁'
  have hl₁' := hl₁
  obtain ⟨ol, hol, _⟩ := hl₁'
  have e1 : ((v :: vs).toArray.toList.drop 0).take 1 = [v] := by simp
  rw [e1]
  rw [if_neg (show ¬ ([v].length < 1) by simp)]
  refine wpAny_bind (wpAny_holding (PySem.W.kun_collect (s := { s with heap := h₁ }) (T := "list_iterator") (.inr (.inr (.inl rfl))) (Walks.list (A := A.in1) hh s.heap.objs.size l hlt (v :: vs).toArray) (fun j u st => st.1.typeIs) (k := 1) (by omega) ⟨hit₁, hl₁⟩ (Heap.lt_size hoi) (Heap.lt_size hol) (fun h₂ tk hk => ?_) (by rw [hsz]; simpa using hz)))
  have e2 : (v :: vs).toArray.toList.drop 1 = vs := by simp
  rw [e2]
  show wpAny _ _ (if vs.length < 0 then _ else _) _ _ _
  rw [if_neg (by omega)]
  show wpAny _ _ (newList (vs.take (vs.length - 0)) >>= fun d => pure ([v] ++ [d] ++ vs.drop (vs.length - 0))) _ _ _
  have e3 : vs.take (vs.length - 0) = vs := by simp
  have e4 : vs.drop (vs.length - 0) = [] := by simp
  rw [e3, e4]
  have he : Heap.ExtBut s.heap.objs.size s.heap h₂ := fun b o hb e => hk b o hb (hs₁.extBut b o hb (Heap.get?_push_of_some _ e))
  have hz' : vs.length ≤ sizeLine := by
    have hz := hz
    rw [List.length_cons] at hz
    omega
  exact wpAny_bind (wpAny_newList (wpAny_pure (h h₂ tk he)) hz')
end
section
variable {X : Cx}
/-- a, *b = l -/
def gStar (K : PySem.W.Frag) (g1 g2 : TG) : TG := fun v σ H Q => ∃ a x xs, v = .ref a ∧ SqL K H a (x :: xs) ∧ ∀ p, H p = none → g1 x σ (upd H p (.lst xs)) fun σ' H' => g2 (.ref p) σ' H' Q
theorem pg_star {e b : Expr} {k : Nat} {sp pos : Pos} {g1 g2 : TG} (hc : X.calm = true) (h1 : PG X e g1) (h2 : PG X b g2) (hn : (assignEach [e, .Starred b sp] X.env) = [(false, assign e X.env), (true, assign b X.env)] := by rfl) :
    PG X (.Tuple [e, .Starred b sp] k pos) (gStar X.K g1 g2) := by
  refine ⟨fun pins s σ H v u Q I r hw => ?_⟩
  obtain ⟨a, x, xs, e1, hq, hw⟩ := hw
  subst e1
  cases r
  obtain ⟨its, rv, hp, hz⟩ := I.list hq
  cases rv with
  | cons r1 rr =>
    rename_i v vs
    rw [assign_Tuple]
    refine wpAny_bind (wpAny_standAt ?_)
    unfold unpack
    rw [hn]
    refine wpAny_bind (wpAny_holding (unpack_star (v := v) (vs := vs) hp.isList (I.ok.hd hc) (by
      have := rr.length
      rw [List.length_cons] at hz ⊢
      omega) fun h' tk he => ?_))
    have I1 : Inv X pins σ H { s with heap := h', toks := tk } := I.kept fun b o e => he b o (Nat.ne_of_lt (Heap.lt_size e)) e
    have hf : H h'.objs.size = none := I1.hok.fresh (Nat.le_refl _)
    have I2 : Inv X pins σ (upd H h'.objs.size (.lst xs)) { s with heap := h'.push { cls := .type "list", data := .seq vs.toArray }, toks := tk } := I1.laid (t' := tk) (fun b u e => Heap.get?_push_of_some _ e) (Nat.le_refl _) ⟨by
      rw [List.length_cons] at hz
      omega, vs, 0, rr, Heap.get?_push_size _ rfl⟩
    refine assignInOrder_cons (thn (h1.run pins _ σ _ _ _ _ I2 r1 (hw _ hf)) fun _ s3 ⟨σ3, H3, I3, q3⟩ => ?_)
    refine assignInOrder_cons (thn (h2.run pins s3 σ3 H3 (.ref h'.objs.size) _ _ I3 rfl q3) fun _ s4 ⟨σ4, H4, I4, q4⟩ => ?_)
    exact assignInOrder_nil ⟨σ4, H4, I4, q4⟩
end
section
variable {K : PySem.W.Frag} {σ : L2.St} {H : Hp} {Q : VK} {g : TG} {tt : TT} {te : TE} {D : Ends} {tb : TS}
/-- a comprehension over a text -/
theorem lc_txt {x : Str} {H1 : Hp} {D : Addr} {vs : List Nat} {Qd : Hp → Prop} (Pv : Nat → Hp → Prop) (h0 : Pv 0 (upd H1 D (.lst [])))
    (hs : ∀ (i c : Nat) H, x.cps.toList[i]? = some c → Pv i H → g (.str ⟨#[c]⟩) (wipe σ vs) H fun σ2 H2 => wipe σ2 vs = wipe σ vs ∧ tt σ2 H2 fun b H3 =>
      if b = true then te σ2 H3 fun y H4 => ∃ acc, H4 D = some (.lst acc) ∧ acc.length < sizeLine ∧ Pv (i + 1) (upd H4 D (.lst (acc ++ [y]))) else Pv (i + 1) H3) (hd : ∀ H, Pv x.length H → Qd H) :
    ∃ W : Nat → Nat → Hp → Prop, (∃ m, W 0 m (upd H1 D (.lst []))) ∧ ∀ i m H, W i m H →
      ((Its x).stop i H ∧ Qd H) ∨ ((Its x).go i H ∧ ∃ Nx : Hp → Prop, (∀ H', Nx H' → ∃ m', m' < m ∧ W (i + 1) m' H') ∧ ∀ y H', (Its x).yld i H y H' → g y (wipe σ vs) H' fun σ2 H2 => wipe σ2 vs = wipe σ vs ∧ tt σ2 H2 fun b H3 =>
        if b = true then te σ2 H3 fun y H4 => ∃ acc, H4 D = some (.lst acc) ∧ acc.length < sizeLine ∧ Nx (upd H4 D (.lst (acc ++ [y]))) else Nx H3) := by
  refine ⟨fun i m H => m = x.cps.size - i ∧ i ≤ x.cps.size ∧ Pv i H, ⟨x.cps.size, by simp, Nat.zero_le _, h0⟩, ?_⟩
  rintro i m H ⟨rfl, hi, p⟩
  by_cases hlt : i < x.cps.size
  · refine .inr ⟨hlt, Pv (i + 1), fun H' p' => ⟨x.cps.size - (i + 1), by omega, rfl, hlt, p'⟩, fun y H' yv => ?_⟩
    obtain ⟨e, c, hc, y⟩ := yv
    subst e y
    exact hs i c _ (by simpa using hc) p
  · have e : i = x.cps.size := by omega
    subst e
    exact .inl ⟨Nat.le_refl _, hd H p⟩
end
end My

set_option maxRecDepth 100000
set_option maxHeartbeats 4000000
/-! own ==, own + by promises by position; what isinstance asks -/
namespace Hk
open PySem PySem.W PySem.Calls PyProof.Rows He He5
def insB (K : Frag) (x : PySem.Str) : Bool := (Fa.cls x).ok K && (eqO (findIn K (.ref (ga K x)) "__class__") (some (some (.builtin "object.__class__"))) && (eqO (specialIn K (.builtin "object.__class__") "__get__") (some (some (.builtin "getset_descriptor.__get__"))) &&
  (decide (takesIn K (.builtin "object.__class__") = some true) && (decide (mroIn K (ga K x) (.type "object") = some true) && decide (kitOne K (.ref (ga K x)) (.ref (ga K x)) = some true)))))
theorem ins_of {K : Frag} {x : PySem.Str} (c : insB K x = true) : C8.InsC K (ga K x) := by
  obtain ⟨c0, c⟩ := ba c
  obtain ⟨c1, c⟩ := ba c
  obtain ⟨c2, c⟩ := ba c
  obtain ⟨c3, c⟩ := ba c
  obtain ⟨c4, c5⟩ := ba c
  exact ⟨cls_ok c0, eqO_ok c1, eqO_ok c2, of_decide_eq_true c3, of_decide_eq_true c4, of_decide_eq_true c5⟩
/-- a special def of the text's own class -/
def ownB (K : Frag) (x m : PySem.Str) : Bool := eqO (findIn K (.ref (ga K x)) m) (some (some (.ref (ma K (ga K x) m)))) && (isFn K (.ref (ma K (ga K x) m)) && fnIn K (ma K (ga K x) m))
structure OwnD (K : Frag) (C : Addr) (m : PySem.Str) (g : Addr) : Prop where
  f : findIn K (.ref C) m = some (some (.ref g))
  i : isFn K (.ref g) = true
  n : fnIn K g = true
theorem own_of {K : Frag} {x m : PySem.Str} (c : ownB K x m = true) : OwnD K (ga K x) m (ma K (ga K x) m) := by
  obtain ⟨c0, c⟩ := ba c
  obtain ⟨c1, c2⟩ := ba c
  exact ⟨eqO_ok c0, c1, c2⟩
/-- C + D, both with a def for it, none for the other way, D not below C -/
def addB (K : Frag) (x y : PySem.Str) : Bool := eqO (findIn K (.ref (ga K x)) "__radd__") (some none) && (eqO (findIn K (.ref (ga K y)) "__radd__") (some none) && (decide (subIn K (.ref (ga K y)) (.ref (ga K x)) = some false) && (decide (ga K x ≠ ga K y) &&
  ((match clsIn K (ga K x) with | some cd => cd.mro.head? == some (.ref (ga K x)) | none => false) && (match clsIn K (ga K y) with | some cd => cd.mro.head? == some (.ref (ga K y)) | none => false)))))
structure AddD (K : Frag) (C D : Addr) : Prop where
  rc : findIn K (.ref C) "__radd__" = some none
  rd : findIn K (.ref D) "__radd__" = some none
  sub : subIn K (.ref D) (.ref C) = some false
  ne : C ≠ D
  mc : ∃ cd r, clsIn K C = some cd ∧ cd.mro = .ref C :: r
  md : ∃ cd r, clsIn K D = some cd ∧ cd.mro = .ref D :: r
theorem mro_head {K : Frag} {C : Addr} (c : (match clsIn K C with | some cd => cd.mro.head? == some (.ref C) | none => false) = true) : ∃ cd r, clsIn K C = some cd ∧ cd.mro = .ref C :: r := by
  cases e : clsIn K C with
  | none => rw [e] at c; cases c
  | some cd =>
    rw [e] at c
    have h : cd.mro.head? = some (.ref C) := by simpa using c
    cases hm : cd.mro with
    | nil => rw [hm] at h; cases h
    | cons v r =>
      rw [hm] at h
      have : v = .ref C := by simpa using h
      exact ⟨cd, r, rfl, by rw [hm, this]⟩
theorem add_of {K : Frag} {x y : PySem.Str} (c : addB K x y = true) : AddD K (ga K x) (ga K y) := by
  obtain ⟨c0, c⟩ := ba c
  obtain ⟨c1, c⟩ := ba c
  obtain ⟨c2, c⟩ := ba c
  obtain ⟨c3, c⟩ := ba c
  obtain ⟨c4, c5⟩ := ba c
  exact ⟨eqO_ok c0, eqO_ok c1, of_decide_eq_true c2, of_decide_eq_true c3, mro_head c4, mro_head c5⟩
end Hk
namespace My
open PySem PySem.Spec PyProof.Rows L2
section
variable {X : Cx} {n : Nat} {CX : CXT} {E : XK} {pins : List (Addr × Obj)} {σ : L2.St} {H : Hp} {s : Shared}
/-- a def of the text that is called by an operator's machinery, from another place of the same depth -/
theorem run_at {A : Around} {Q : VK} {f : Addr} {us : List Value} {ws : List V} {sp : Sp} (F : FnR X.prog X.w X.K X.mg X.base CX n f sp) (hr : Room n A) (hf : A.frames = X.A.frames) (hx : Passes CX X E) (I : Inv X pins σ H s) (r : Vals ws us) (h : sp ws H Q E) :
    wpAny (model X.prog X.w) A (call (.ref f) us) (EP X pins σ Q) X.xe s := by
  have e := I.env0
  exact run_below F hr ⟨by rw [hf]; exact e.frames, e.mod, e.bs, e.bsz, e.funs, e.frf, e.hok, e.bare⟩ hx I r h
theorem rcG_R {C f : Addr} {R : Addr → Addr → Hp → Prop} (F : FnR X.prog X.w X.K X.mg X.base CX n f (spEq R)) (o : Hk.OwnD X.K C "__eq__" f) (hx : Passes CX X E) : RcG X n (DIns C R) := by
  rintro A pins s σ H x y u v sb I rx ry ⟨a, b, dx, dy, fs, gs, rfl, rfl, ha, hb, hr⟩
  cases rx
  cases ry
  obtain ⟨od, J⟩ := ins_at I ha
  obtain ⟨_, J'⟩ := ins_at I hb
  obtain ⟨m, hF⟩ := I.fr
  refine PySem.W.cmp_K (tb := .ref C) (op := .Eq) sb.room.units0 hF I.ok.mod.kin J J'.type (by simp [PySem.W.notFirst]) o.f o.i ?_
  refine wpAny_mono (run_at (us := [.ref a, .ref b]) (ws := [.ref a, .ref b]) (Q := fun v H' => v = .bl true ∧ Ext H H') F sb.room sb.fr hx I (.cons rfl (.cons rfl .nil)) ⟨a, b, rfl, hr, fun H' e => ⟨rfl, e⟩⟩) (fun w s' z => ?_) fun _ _ q => q
  obtain ⟨x, H', I', rz, rfl, ex⟩ := z
  cases rz
  exact ⟨rfl, H', I', ex⟩
theorem ins_two {D : Addr → Addr → Hp → Prop} {C : Addr} {x y : V} {H : Hp} (d : DIns C D x y H) : ∃ a b, x = .ref a ∧ y = .ref b := by
  obtain ⟨a, b, _, _, _, _, h1, h2, _⟩ := d
  exact ⟨a, b, h1, h2⟩
/-- a + b for two own classes -/
def rAddOwn (C D : Addr) (sp : Sp) (E : XK) : R2 := fun x y H Q => ∃ a b dx dy fs gs, x = .ref a ∧ y = .ref b ∧ H a = some (.ins C dx fs) ∧ H b = some (.ins D dy gs) ∧ sp [x, y] H (fun z H' => (∃ p, z = .ref p) ∧ Q z H') E
theorem op_addOwn {C D f g : Addr} {sp : Sp} (F : FnR X.prog X.w X.K X.mg X.base CX n f sp) (o : Hk.OwnD X.K C "__add__" f) (o2 : Hk.OwnD X.K D "__add__" g) (ad : Hk.AddD X.K C D) (hr : Room n X.A) (hx : Passes CX X E) : OpR X (binaryOp .Add) (rAddOwn C D sp E) := by
  rintro pins s σ H x y v u Q I rx ry ⟨a, b, dx, dy, fs, gs, rfl, rfl, ha, hb, q⟩
  cases rx
  cases ry
  obtain ⟨od, J⟩ := ins_at I ha
  obtain ⟨_, J'⟩ := ins_at I hb
  obtain ⟨m, hF⟩ := I.fr
  obtain ⟨cc, rc, hcc, hmc⟩ := ad.mc
  obtain ⟨cd, rd, hcd, hmd⟩ := ad.md
  have ht : PySem.W.Looks (model X.prog X.w) s.heap (typeOf (.ref b)) (.ref D) := J'.type
  have key := Bo.binop2 (nm := "add") (A := X.A) (E := X.xe) (Q := fun r s' => ∃ z, r = some z ∧ EP X pins σ Q z s') hF I.ok.mod.kin J ht ad.ne hcc hmc hcd hmd o.f o.i o2.f ad.rc ad.rd ad.sub
    (wpAny_mono (run_at (us := [.ref a, .ref b]) (ws := [.ref a, .ref b]) F hr rfl hx I (.cons rfl (.cons rfl .nil)) q) (fun w s' z => by
      obtain ⟨x, H', I', rz, ⟨p, rfl⟩, q'⟩ := z
      cases rz
      exact ⟨by simp, _, rfl, .ref p, H', I', rfl, q'⟩) fun _ _ z => z)
  show wpAny (model X.prog X.w) X.A (binaryOp .Add (.ref a) (.ref b)) (EP X pins σ Q) X.xe s
  refine wpAny_holding (wpAny_bind (thn key fun r s1 z => ?_))
  obtain ⟨z, rfl, q⟩ := z
  exact wpAny_pure q
end
end My

set_option maxRecDepth 100000
set_option maxHeartbeats 4000000
/-! calls with a spread sequence -/
namespace My
open PySem PySem.Spec PySem.Calls PyProof.Rows L2
theorem args_two {M : Model} {A : Around} {E : Value → Shared → Prop} {s : Shared} {f : Value} {a b : Bool × Sem Value} {r : List (Bool × Sem Value)} {Q : Args → Shared → Prop} (h : wpAny M A (spliced (a :: b :: r)) (fun vs s1 => Q ⟨vs, []⟩ s1) E s) :
    wpAny M A (evalArgs f true (a :: b :: r) []) Q E s := by
  unfold evalArgs
  obtain ⟨k, x⟩ := a
  cases k
  all_goals
    show wpAny M A (spliced (_ :: b :: r) >>= _) Q E s
    exact wpAny_bind (wpAny_mono h (fun vs s1 q => wpAny_holding (wpAny_bind (wpAny_pure (wpAny_bind (wpAny_pure (wpAny_pure q)))))) fun _ _ z => z)
section
variable {X : Cx} {CX : CXT} {k : Nat} {f C : Addr} {sp : Sp} {E : XK} {x m : Str} {p pos apos sp_ : Pos} {e o : Expr} {es : List Expr} {ta te : TE} {t : TA}
def tCallS (K : PySem.W.Frag) (sp : Sp) (E : XK) (te : TE) : TE := fun σ H Q => te σ H fun y H1 => ∃ a xs, y = V.ref a ∧ (SqT K H1 a xs ∨ SqL K H1 a xs) ∧ sp xs H1 Q E
theorem r_callS {K : PySem.W.Frag} {σ : L2.St} {H : Hp} {Q : VK} (h : te σ H fun y H1 => ∃ a xs, y = V.ref a ∧ (SqT K H1 a xs ∨ SqL K H1 a xs) ∧ sp xs H1 Q E) : tCallS K sp E te σ H Q := h
/-- f( *e) -/
theorem pe_callS1 (F : FnR X.prog X.w X.K X.mg X.base CX k f sp) (hr : Room k X.A) (hk : PySem.W.keepIn X.K (.ref f) = true) (hg : Gl X x) (hm : X.mg x = some (.ref f)) (hx : Passes CX X E) (he : PE X e te) (hd : (x == ("__debug__" : Str)) = false := by decide)
    (hst : starEach [.Starred e sp_] X.env = [(true, eval e X.env)] := by rfl) : PE X (.Call (.Name x p) [.Starred e sp_] [] pos) (tCallS X.K sp E te) := by
  refine ⟨fun pins s σ H Q I h => ?_⟩
  refine wpAny_Call_Name_kw (ld_glob I hg hm ?_ hd)
  refine PySem.W.callWith_S (h₀ := X.base) I.ok.mod.kin hk (thn (he.run pins s σ _ _ I h) fun u s2 z => ?_) hst
  obtain ⟨y, H2, I2, ry, a, xs, ey, hxs, q⟩ := z
  subst ey
  obtain rfl : u = Value.ref a := ry
  exact StX.star_any I2 hxs fun us s3 I3 rv => ⟨I3.kIn, wpAny_call (run_fnR F hr hx I3 rv q)⟩
theorem r_makeS1 {K : PySem.W.Frag} {σ : L2.St} {H : Hp} {Q : VK} (h : te σ H fun y H1 => ∃ a xs, y = V.ref a ∧ (SqT K H1 a xs ∨ SqL K H1 a xs) ∧ ∀ x dx, H1 x = Option.none → H1 dx = Option.none → dx ≠ x →
  sp (V.ref x :: xs) (upd (upd H1 dx (.own x)) x (.ins C dx [])) (fun v H2 => v = .non ∧ Q (.ref x) H2) E) : tMakeS1 K C sp E te σ H Q := h
/-- C( *e), C a class of the module -/
theorem pe_makeG1 (M : Mk X.K C f) (F : FnR X.prog X.w X.K X.mg X.base CX k f sp) (hr : Room (k + 1) X.A) (hg : Gl X x) (hm : X.mg x = some (.ref C)) (hx : Passes CX X E) (he : PE X e te) (hd : (x == ("__debug__" : Str)) = false := by decide)
    (hst : starEach [.Starred e sp_] X.env = [(true, eval e X.env)] := by rfl) : PE X (.Call (.Name x p) [.Starred e sp_] [] pos) (tMakeS1 X.K C sp E te) := by
  refine ⟨fun pins s σ H Q I h => ?_⟩
  refine wpAny_Call_Name_kw (ld_glob I hg hm ?_ hd)
  refine PySem.W.callWith_S (h₀ := X.base) I.ok.mod.kin M.kp (thn (he.run pins s σ _ _ I h) fun u s2 z => ?_) hst
  obtain ⟨y, H2, I2, ry, a, xs, ey, hxs, q⟩ := z
  subst ey
  obtain rfl : u = Value.ref a := ry
  exact StX.star_any I2 hxs fun us s3 I3 rv => ⟨I3.kIn, StX.run_makeR M F hr hx I3 rv q⟩
/-- C( *e, e2, ..) -/
theorem pe_makeS2 {e2 : Expr} {rest : List Expr} (M : Mk X.K C f) (F : FnR X.prog X.w X.K X.mg X.base CX k f sp) (hr : Room (k + 1) X.A) (hg : Gl X x) (hm : X.mg x = some (.ref C)) (hx : Passes CX X E) (ha : PA X (.Starred e sp_ :: e2 :: rest) t) (hd : (x == ("__debug__" : Str)) = false := by decide)
    (hst : ∃ a b r, backTo pos (starEach (.Starred e sp_ :: e2 :: rest) X.env) = a :: b :: r ∧ a.1 = true := by exact ⟨_, _, _, rfl, rfl⟩) :
    PE X (.Call (.Name x p) (.Starred e sp_ :: e2 :: rest) [] pos) (StX.tMakeR C sp E t) := by
  obtain ⟨a, b, r, eq, ea⟩ := hst
  refine pe_makeS M F hr hg hm hx ha hd (by rw [eq, List.any_cons, ea]; rfl) (fun z => nomatch z) fun {s Q} h => ?_
  rw [eq] at h ⊢
  exact PySem.W.ks_call (by rw [List.any_cons, ea]; rfl) (PySem.W.keeps_K M.kp) (args_two h)
end
section
variable {X : Cx}
/-- a sign in a text -/
def rSgn : R2 := fun x y H Q => ∃ (c : Nat) (z : Str), x = .str ⟨#[c]⟩ ∧ y = .str z ∧ Q (.bl (decide (c ∈ z.cps.toList))) H
theorem op_sgn : OpR X (compareOp .In) rSgn := op_in_sign
theorem r_sgn {c : Nat} {z : Str} {H : Hp} {Q : VK} (q : Q (.bl (decide (c ∈ z.cps.toList))) H) : rSgn (.str ⟨#[c]⟩) (.str z) H Q := ⟨c, z, rfl, rfl, q⟩
end
/-- nothing known changes, nothing goes -/
structure Gr (H H' : Hp) : Prop where
  e : Ext H H'
  f : ∀ b, H' b = none → H b = none
section
variable {H H1 H2 : Hp} {p : Addr} {o : HO}
theorem Gr.refl (H : Hp) : Gr H H := ⟨fun _ _ h => h, fun _ h => h⟩
theorem Gr.trans (a : Gr H H1) (b : Gr H1 H2) : Gr H H2 := ⟨fun c o h => b.e c o (a.e c o h), fun c h => a.f c (b.f c h)⟩
theorem Gr.mut (a : Gr H H1) (h : H p = none) : Gr H (upd H1 p o) := ⟨fun c u hc => by rw [upd_ne (ne_of_none hc h)]; exact a.e c u hc, fun c hc => by
  by_cases e : c = p
  · rw [e]; exact h
  · rw [upd_ne e] at hc; exact a.f c hc⟩
theorem Gr.new (h : H p = none) : Gr H (upd H p o) := (Gr.refl H).mut h
theorem Gr.then (a : Gr H H1) (h : H1 p = none) : Gr H (upd H1 p o) := a.mut (a.f p h)
theorem Gr.kp (a : Gr H H1) : Kp H H1 := ⟨fun b o _ h => a.e b o h, a.f⟩
theorem Gr.pen {z : PenI} {n : Nat} (a : Gr H H1) (d : Pen H z n) : Pen H1 z n := by
  obtain ⟨b, r, d, y⟩ := d
  exact ⟨b, r, ⟨a.e _ _ d.d, a.e _ _ d.c⟩, y⟩
end
section
variable {ts : List TE} {te : TE} {acc : Str} {σ : L2.St} {H : Hp} {Q : VK} {QS : Str → Hp → Prop}
theorem r_js0 (q : QS acc H) : tJs [] acc σ H QS := q
theorem r_jsT (h : te σ H fun x H1 => ∃ y : Str, x = .str y ∧ (acc ++ y).length ≤ sizeLine ∧ tJs ts (acc ++ y) σ H1 QS) : tJs (te :: ts) acc σ H QS := h
theorem r_fmt (h : te σ H fun x H1 => (∃ y : Str, x = .str y ∧ y.length ≤ sizeLine ∧ Q (.str y) H1) ∨ ∃ i : Int, x = .int i ∧ i.natAbs.log2 < 1920 ∧ Q (.str (toString i)) H1) : tFmt te σ H Q := h
theorem log_small {i : Int} (h1 : -(10 ^ 70) ≤ i) (h2 : i ≤ 10 ^ 70) : i.natAbs.log2 < 1920 := by
  by_cases h : i.natAbs = 0
  · rw [h]
    decide
  · have e : (10 : Int) ^ 70 < 2 ^ 250 := by decide
    exact Nat.lt_trans ((Nat.log2_lt h).mpr (show i.natAbs < 2 ^ 250 by omega)) (by decide)
end
theorem r_con {K : PySem.W.Frag} {f : Str} {ta : TE} {σ : L2.St} {H : Hp} {Q : VK} (h : ta σ H fun x H1 => ∃ a C dx fs v u, x = .ref a ∧ H1 a = some (.ins C dx fs) ∧ Cls K C ∧ Con K C f v u ∧ fs.lookup f = none ∧ Q v H1) : tCon K ta f σ H Q := h
theorem r_conV {K : PySem.W.Frag} {f : Str} {H : Hp} {a C dx : Addr} {fs : List (Str × V)} {v : V} {P : V → Prop} (h : H a = some (.ins C dx fs)) (c : Cls K C) (k : ∃ u, Con K C f v u) (l : fs.lookup f = none) (q : P v) :
    ∃ b D dy gs w u, V.ref a = V.ref b ∧ H b = some (.ins D dy gs) ∧ Cls K D ∧ Con K D f w u ∧ gs.lookup f = none ∧ P w := by
  obtain ⟨u, k⟩ := k
  exact ⟨a, C, dx, fs, v, u, rfl, h, c, k, l, q⟩
theorem r_fldV {K : PySem.W.Frag} {f : Str} {H : Hp} {a C dx : Addr} {fs : List (Str × V)} {v : V} {P : V → Prop} (h : H a = some (.ins C dx fs)) (c : Cls K C) (k : NoAttr K C f) (l : fs.lookup f = some v) (q : P v) :
    ∃ b D dy gs w, V.ref a = V.ref b ∧ H b = some (.ins D dy gs) ∧ Cls K D ∧ NoAttr K D f ∧ gs.lookup f = some w ∧ P w := ⟨a, C, dx, fs, v, rfl, h, c, k, l, q⟩
/-! the same rules, the written part by name (within a comprehension the context's own is not to be seen) -/
section
variable {X : Cx} {K : PySem.W.Frag} {tg e : Expr} {te : TE}
theorem pg_tupK {es : List Expr} {k : Nat} {pos : Pos} {t : TGs} {n : Nat} (hK : X.K = K) (hc : X.calm = true) (h : PGs X es t) (hn : (assignEach es X.env).length = n := by rfl) (hst : (assignEach es X.env).findIdx? (·.1) = none := by rfl) :
    PG X (.Tuple es k pos) (gTup K n t) := hK ▸ pg_tup hc h hn hst
theorem ix_seqK (hK : X.K = K) : IxR X (rIx K) := hK ▸ ix_seq
theorem op_addUK (hK : X.K = K) : OpR X (binaryOp .Add) (rAddU K) := hK ▸ op_addU
theorem op_eqUK (hK : X.K = K) (hu : X.A.units + 64 < cLine) : OpR X (compareOp .Eq) (rEqU K) := hK ▸ op_eqU hu
theorem op_neUK (hK : X.K = K) (hu : X.A.units + 64 < cLine) : OpR X (compareOp .NotEq) (rNeU K) := hK ▸ op_neU hu
theorem call_lenUK (hK : X.K = K) : CallR X (.builtin "len") (rLenU K) := hK ▸ call_lenU
theorem sl_anyK (hK : X.K = K) : SlR X (rSlU K) := hK ▸ sl_any
theorem pi_anyK (hK : X.K = K) (h : PE X e te) : PI X tg e (iAny K te) := hK ▸ pi_any h
theorem op_inK (hK : X.K = K) : OpR X (compareOp .In) (rIn K false) := hK ▸ op_in_seq
theorem op_notInK (hK : X.K = K) : OpR X (compareOp .NotIn) (rIn K true) := hK ▸ op_notIn_seq
end
/-- a dict comprehension over enumerate(a list) -/
theorem dc_enumL {K : PySem.W.Frag} {a : Addr} {xs : List V} {g : TG} {tt : TT} {tk tv : TE} {vs : List Nat} {σ : L2.St} {H1 : Hp} {D : Addr} {Qd : Hp → Prop} (Pv : Nat → Hp → Prop) (h0 : Pv 0 (upd H1 D (.dK []))) (hl : ∀ i H, i ≤ xs.length → Pv i H → SqL K H a xs)
    (hs : ∀ i x H T, xs[i]? = some x → Pv i H → H T = none → g (.ref T) (wipe σ vs) (upd H T (.tup [.int (i : Nat), x])) fun σ2 H2 => wipe σ2 vs = wipe σ vs ∧ tt σ2 H2 fun b H3 =>
      if b = true then tk σ2 H3 fun y H4 => tv σ2 H4 fun z H5 => ∃ kvs k, y = kV k ∧ H5 D = some (.dK kvs) ∧ kvs.length < sizeLine ∧ Pv (i + 1) (upd H5 D (.dK (putK kvs k z))) else Pv (i + 1) H3) (hd : ∀ H, Pv xs.length H → Qd H) :
    ∃ W : Nat → Nat → Hp → Prop, (∃ m, W 0 m (upd H1 D (.dK []))) ∧ ∀ i m H, W i m H →
      ((Ite K a).stop i H ∧ Qd H) ∨ ((Ite K a).go i H ∧ ∃ Nx : Hp → Prop, (∀ H', Nx H' → ∃ m', m' < m ∧ W (i + 1) m' H') ∧ ∀ x H', (Ite K a).yld i H x H' → g x (wipe σ vs) H' fun σ2 H2 => wipe σ2 vs = wipe σ vs ∧ tt σ2 H2 fun b H3 =>
        if b = true then tk σ2 H3 fun y H4 => tv σ2 H4 fun z H5 => ∃ kvs k, y = kV k ∧ H5 D = some (.dK kvs) ∧ kvs.length < sizeLine ∧ Nx (upd H5 D (.dK (putK kvs k z))) else Nx H3) := by
  refine ⟨fun i m H => m = xs.length - i ∧ i ≤ xs.length ∧ Pv i H, ⟨xs.length, by simp, Nat.zero_le _, h0⟩, ?_⟩
  rintro i m H ⟨rfl, hi, p⟩
  have q := hl i H hi p
  by_cases hlt : i < xs.length
  · refine .inr ⟨⟨xs, xs[i], q, by simp [hlt]⟩, Pv (i + 1), fun H' p' => ⟨xs.length - (i + 1), by omega, rfl, hlt, p'⟩, fun x H' y => ?_⟩
    obtain ⟨T, v, e, hT, eH, hv⟩ := y
    subst e eH
    exact hs i v H T (hv xs q) p hT
  · have e : i = xs.length := by omega
    subst e
    exact .inl ⟨⟨xs, q, Nat.le_refl _⟩, hd H p⟩
section
variable {H H5 : Hp} {x : Addr} {u u0 v : HO}
theorem Gr.back (g : Gr (upd H x u) H5) (h : H x = some u0) : Gr H (upd H5 x u0) := ⟨fun c o hc => by
  by_cases e : c = x
  · rw [e, upd_same]
    rw [e, h] at hc
    exact hc
  · rw [upd_ne e]
    exact g.e c o (by rw [upd_ne e]; exact hc), fun c hc => by
  by_cases e : c = x
  · rw [e, upd_same] at hc
    cases hc
  · rw [upd_ne e] at hc
    have := g.f c hc
    rw [upd_ne e] at this
    exact this⟩
end
theorem r_dc {wi : TI} {g : TG} {tt : TT} {tk tv : TE} {vs : List Nat} {σ : L2.St} {H : Hp} {Q : VK} (h : wi σ H fun J H1 => ∀ D, H1 D = none → ∃ W : Nat → Nat → Hp → Prop, (∃ m, W 0 m (upd H1 D (.dK []))) ∧ ∀ i m H, W i m H →
  (J.stop i H ∧ Q (.ref D) H) ∨ (J.go i H ∧ ∃ Nx : Hp → Prop, (∀ H', Nx H' → ∃ m', m' < m ∧ W (i + 1) m' H') ∧ ∀ x H', J.yld i H x H' → g x (wipe σ vs) H' fun σ2 H2 => wipe σ2 vs = wipe σ vs ∧ tt σ2 H2 fun b H3 =>
    if b = true then tk σ2 H3 fun y H4 => tv σ2 H4 fun z H5 => ∃ kvs k, y = kV k ∧ H5 D = some (.dK kvs) ∧ kvs.length < sizeLine ∧ Nx (upd H5 D (.dK (putK kvs k z))) else Nx H3)) : tDc wi g tt tk tv vs σ H Q := h
end My

set_option maxRecDepth 100000
set_option maxHeartbeats 4000000
/-! tuple(a dict): the keys in their order -/
namespace My
open PySem PySem.Spec PySem.Calls PyProof.Rows L2
section
variable {prog : Program} {w : World} {A : Around} {E : Value → Shared → Prop} {s : Shared} {T : String} {r d : Addr} {n : Nat} {P : Nat → Value → Prop} {OK : Heap → Prop}
theorem src_collect {Q : List Value → Shared → Prop} (S : PySem.W.KdlSrc prog w T r d n P OK) (hA : A.handled = none) (ok : OK s.heap) (hn : n ≤ sizeLine)
    (k : ∀ (h' : Heap) (tk : Nat) (its : Array Value), (∀ b o, s.heap.get? b = some o → h'.get? b = some o) → ItemsOf P its n → Q its.toList { s with heap := h', toks := tk }) : wpAny (model prog w) A (collect (.ref r)) Q E s := by
  generalize hL : s.heap.objs.size = L
  unfold collect
  refine wpAny_bind (wpAny_runValue (codeAny_builtin F.entry_proto_collect ?_))
  rw [Around.under_plainId F.plain_proto_collect _]
  show wpAny _ A.in1 (newList [] >>= fun l => again (.builtin "list.__iadd__" ⟨[l, .ref r], []⟩)) _ _ _
  refine wpAny_bind (wpAny_newObj_type (wpAny_pure ⟨plainId_quiet F.plain_list_iadd _, codeAny_builtin F.entry_list_iadd ?_⟩))
  rw [Around.under_plainId F.plain_list_iadd _, hL]
  show wpAny _ A.in1 (Builtin.List.listExtendWith (.ref L) (.ref r) (.ref L)) _ _ _
  have e0 : (s.heap.push { cls := .type "list", data := .seq ([] : List Value).toArray }).get? L = some { cls := .type "list", data := .seq #[] 0 } := by rw [← hL]; exact Heap.get?_push_size _ rfl
  have lt := S.there _ ok
  rw [hL] at lt
  have n1 : L ≠ r := Nat.ne_of_gt lt.1
  have n2 : L ≠ d := Nat.ne_of_gt lt.2
  refine wpAny_mono (PySem.W.kdl_extend (s := { s with heap := s.heap.push { cls := .type "list", data := .seq ([] : List Value).toArray } }) (R := fun rr s' => rr = .ok (.ret (.ref L)) ∧ ∃ (h' : Heap) (tk : Nat) (its : Array Value) (c' : Nat), s' = { s with heap := h', toks := tk } ∧
      (∀ b o, s.heap.get? b = some o → h'.get? b = some o) ∧ h'.get? L = some { cls := .type "list", dict := none, data := .seq its c', slots := #[] } ∧ ItemsOf P its n)
    S hA (S.keep _ _ ok fun b _ o e => Heap.get?_push_of_some _ e) L n1 n2 (.ref L) 0 e0
    (fun h' tk its c' kp e hi => ⟨rfl, h', tk, its, c', rfl, fun b o q => kp b o (by have z := Heap.lt_size q; rw [hL] at z; exact Nat.ne_of_lt z) (Heap.get?_push_of_some _ q), e, hi⟩) hn) (fun fin s1 z => ?_) fun x s1 z => absurd z.1 (by simp)
  cases fin with
  | done f =>
    obtain ⟨ef, h', tk, its, c', rfl, kp, eL, hi⟩ := z
    cases ef
    show wpAny _ A (load L >>= _) _ _ _
    exact wpAny_bind (wpAny_load eL (wpAny_pure (k h' tk its kp hi)))
  | again c =>
    refine ⟨z.1, codeAny_mono z.2 fun rr s2 zr => ?_⟩
    obtain ⟨rfl, h', tk, its, c', rfl, kp, eL, hi⟩ := zr
    show wpAny _ A (load L >>= _) _ _ _
    exact wpAny_bind (wpAny_load eL (wpAny_pure (k h' tk its kp hi)))
theorem src_new {Q : Value → Shared → Prop} (S : PySem.W.KdlSrc prog w T r d n P OK) (hA : A.handled = none) (ok : OK s.heap) (hn : n ≤ sizeLine) (hT : (Value.type T == Value.type "tuple") = false)
    (k : ∀ (h' : Heap) (tk : Nat) (its : Array Value), (∀ b o, s.heap.get? b = some o → h'.get? b = some o) → ItemsOf P its n → Q (.ref h'.objs.size) { s with heap := h'.push { cls := .type "tuple", data := .seq its }, toks := tk }) :
    codeAny (model prog w) A (.call (.builtin "tuple.__new__") ⟨[.type "tuple", .ref r], []⟩) (wants Q E) s := by
  refine codeAny_of_tree ?_
  show wpAny _ A.in1 (do checkBuiltinCall "tuple.__new__" ⟨[.type "tuple", .ref r], []⟩; again (.builtin "tuple.__new__" ⟨[.type "tuple", .ref r], []⟩)) _ _ s
  refine wpAny_bind (wpAny_of_eq (F.newCall_tuple_1 _) (wpAny_pure ⟨plainId_quiet F.plain_tuple_new _, codeAny_builtin F.entry_tuple_new ?_⟩))
  rw [Around.under_plainId F.plain_tuple_new _]
  have z1 := sub_tuple_self
  have z2 := init_tuple_lookup
  have z3 := madeHere_tuple
  have tI := S.type s ok
  have hA1 : A.in1.handled = none := hA
  wp_walk using wpAny_typeOf tI, src_collect (A := A.in1) S hA1 ok hn
  intro h' tk its kp hi
  have ei : its.toList.toArray = its := by simp
  show wpAny _ _ (Builtin.Tuple.tupleExact its.toList.toArray >>= fun v => ret v) _ _ _
  rw [ei]
  unfold Builtin.Tuple.tupleExact
  refine wpAny_bind (wpAny_newObj_type (wpAny_pure (k h' tk its kp hi)) ?_)
  show its.size ≤ sizeLine
  rw [hi.1]
  exact hn
theorem src_tuple {Q : Value → Shared → Prop} (S : PySem.W.KdlSrc prog w T r d n P OK) (hA : A.handled = none) (ok : OK s.heap) (hn : n ≤ sizeLine) (hT : (Value.type T == Value.type "tuple") = false)
    (k : ∀ (h' : Heap) (tk : Nat) (its : Array Value), (∀ b o, s.heap.get? b = some o → h'.get? b = some o) → ItemsOf P its n → Q (.ref h'.objs.size) { s with heap := h'.push { cls := .type "tuple", data := .seq its }, toks := tk }) :
    wpAny (model prog w) A (call (.type "tuple") [.ref r]) Q E s := by
  refine callType_codes (Q₁ := fun o s1 => s1.TypeIs o "tuple" ∧ Q o s1) F.called_tuple (F.typeCall_tuple_1 _) F.entry_object_init
    (src_new (A := A.in1) S hA ok hn hT fun h' tk its kp hi => ⟨⟨_, Heap.get?_push_size _ rfl, rfl⟩, k h' tk its kp hi⟩) fun o s1 z => ?_
  exact ⟨z.1, F.args_object_init_2 o _, object_init_meets F.called_tuple.init.lookup F.called_tuple.made (by decide) prog w A.in1 _ s1 ⟨z.1, rfl, z.2⟩⟩
end
def rTupD : List V → Hp → VK → Prop := fun xs H Q => ∃ p kvs, xs = [.ref p] ∧ H p = some (.dK kvs) ∧ ∀ q, H q = none → Q (.ref q) (upd H q (.tup (kvs.map fun kv => kV kv.1)))
theorem call_tupleD {X : Cx} (hc : X.calm = true) : CallR X (.type "tuple") rTupD := by
  rintro pins s σ H xs us Q I r ⟨p, kvs, rfl, hk, q⟩
  obtain ⟨u, rfl, rx⟩ := vals1 r
  obtain rfl : u = Value.ref p := rx
  obtain ⟨z, lo, vs, rk, hd⟩ := (show ObjOk X.prog X.w H s.heap p (.dK kvs) from I.hok p _ hk)
  obtain ⟨ep, hat⟩ := hd.dictAt
  have hl : kvs.length = vs.length := Paired.length rk
  refine src_tuple (PySem.W.kdl_dict (knd := mixKind X.prog X.w) (kvs := vs) (ep := ep) lo) (I.ok.hd hc) hat (by rw [← hl]; exact z) (by decide) fun h' tk its kp hi => ?_
  have I1 : Inv X pins σ H { s with heap := h', toks := tk } := I.kept kp
  have rel : Vals (kvs.map fun kv => kV kv.1) its.toList := by
    have el : its.toList.length = its.size := by simp
    refine vals_of_at (by rw [List.length_map, el, hi.1, hl]) fun j x v h1 h2 => ?_
    obtain ⟨k, y, hky, hik⟩ := hi.2 j v (by rw [← Array.getElem?_toList]; exact h2)
    have e1 : (kvs.map (·.1))[j]? = some k := by
      rw [KV.keys rk, List.getElem?_map, hky]
      rfl
    rw [List.getElem?_map] at h1 e1
    obtain ⟨kv, f1, f2⟩ := Option.map_eq_some_iff.mp h1
    rw [f1] at e1
    have e3 : kv.1 = k := by simpa using e1
    rw [← f2, e3]
    exact keyIs_rel hik
  refine ⟨.ref h'.objs.size, _, I1.laid (t' := tk) (o := .tup (kvs.map fun kv => kV kv.1)) (fun b o e => Heap.get?_push_of_some _ e) (Nat.le_refl _) ⟨by rw [List.length_map]; exact z, its.toList, rel, by rw [Array.toArray_toList]; exact IsTup.new _ _⟩, rfl, q _ (I1.hok.fresh (Nat.le_refl _))⟩
def rTupleU (K : PySem.W.Frag) : List V → Hp → VK → Prop := fun xs H Q => rTupD xs H Q ∨ (∃ p ys, xs = [.ref p] ∧ ((SqL K H p ys ∧ ∀ l, H l = none → Q (.ref l) (upd H l (.tup ys))) ∨ (SqT K H p ys ∧ Q (.ref p) H)))
theorem call_tupleU {X : Cx} {K : PySem.W.Frag} (hK : X.K = K) (hc : X.calm = true) : CallR X (.type "tuple") (rTupleU K) := hK ▸ (call_tupleD hc).or call_tuple_of
theorem r_disp {trs : List (TE × TE)} {σ : L2.St} {H : Hp} {Q : VK} (h : ∀ p, H p = none → tPairs trs σ (upd H p (.dK [])) fun ps H2 => H2 p = some (.dK []) ∧ ∃ kvs : List (Key × V), ps = kvs.map (fun kv => (kV kv.1, kv.2)) ∧ kvs.length ≤ 15 ∧ Q (.ref p) (upd H2 p (.dK (mergeK [] kvs)))) : tDisp trs σ H Q := h
theorem r_pp0 {σ : L2.St} {H : Hp} {Q : List (V × V) → Hp → Prop} (h : Q [] H) : tPairs [] σ H Q := h
theorem r_ppC {tk tv : TE} {r : List (TE × TE)} {σ : L2.St} {H : Hp} {Q : List (V × V) → Hp → Prop} (h : tk σ H fun x H1 => tv σ H1 fun y H2 => tPairs r σ H2 fun ps H3 => Q ((x, y) :: ps) H3) : tPairs ((tk, tv) :: r) σ H Q := h
theorem r_iteNT {A B : Prop} (h : B) : if (!true) = true then A else B := by
  rw [if_neg (by decide)]
  exact h
theorem r_iteNF {A B : Prop} (h : A) : if (!false) = true then A else B := by
  rw [if_pos (by decide)]
  exact h
end My

set_option maxRecDepth 100000
set_option maxHeartbeats 4000000
/-! a law's end where its def is promised for known guards -/
namespace My
open PySem PySem.Spec PyProof.Rows L2
section
variable {P : Program} {w : World} {K : PySem.W.Frag} {mg mb : Str → Option Value} {k : Nat} {f p : Addr} {sp : Sp} {t : Shared} {us : List Value} {ns : List Int}
/-- the wanted end of the caller -/
abbrev Told (t : Shared) : Result → Shared → Prop := fun r u => r = .ok (.ret (.bool true)) ∧ OldK t.heap u.heap ∧ u.os = t.os ∧ AllBare u.gens
theorem core_at (kin : K.In t.heap) (gl : t.heap.Ns mainGlobals mg) (bl : t.heap.Ns builtinsNs mb) (bb : ∀ x : Str, x ≠ "__name__" → mb x = bootBuiltins x) (nl : t.heap.NoLimit) (gn : t.gens = #[])
    (at_ : t.heap.get? p = some { cls := .type "list", data := .seq us.toArray }) (room : Room k callerA) (F : ∀ base : Heap, K.In base → base.Ns mainGlobals mg → FnG P w K mg base (L2.CX P w) k f sp)
    {H : Hp} (only : Only H) (want : sp [.ref p] H (fun v _ => v = .bl true) fun _ _ _ => False) (ok : HOk P w H t.heap) (one : ∀ b, H b ≠ none → b = p) (kn : H p ≠ none → K.lookup p = none) :
    codeAny (model P w) callerA (.call (.ref f) ⟨[.ref p], []⟩) (Told t) t := by
  have same : ∀ b, H b = none ∨ b = p := fun b => by
    by_cases z : H b = none
    · exact .inl z
    · exact .inr (one b z)
  have dict : ∀ (b : Addr) (o : Obj) (es : Array DictEntry) (m : Nat), t.heap.get? b = some o → o.data = .dict es m → H b = none := fun b o es m e d => by
    rcases same b with z | rfl
    · exact z
    · rw [at_] at e
      cases e
      cases (show Data.seq us.toArray _ = Data.dict es m from d)
  have names : ∀ (b : Addr) (m : Str → Option Value), t.heap.Ns b m → (hidT t.heap H).Ns b m := fun b m z => by
    obtain ⟨o, es, n, e, d, r⟩ := z
    exact ⟨o, es, n, hidT_get e (dict b o es n e d), d, r⟩
  have kb : K.In (hidT t.heap H) := fun b o e => by
    refine hidT_get (kin b o e) ?_
    rcases same b with z | rfl
    · exact z
    · by_cases z : H b = none
      · exact z
      · rw [kn z] at e
        cases e
  obtain ⟨mc, nl1, nl2⟩ := nl
  have mod : Mod K mg (hidT t.heap H) := ⟨kb, names _ _ gl, ⟨mb, names _ _ bl, bb⟩, ⟨mc, names _ _ nl1, nl2⟩⟩
  have env : Env0 P w K mg (hidT t.heap H) callerA [] t H := ⟨rfl, mod, fun b o e => of_hidT e, Nat.le_of_eq (hidT_size _ _), trivial, fun b hb => (List.not_mem_nil hb).elim, ok, .of_eq gn⟩
  refine codeAny_mono (F _ kb (names _ _ gl) callerA [] t H [.ref p] [.ref p] _ _ room rfl env (.cons rfl .nil) want) fun r u z => ?_
  match r, z with
  | .error x, z =>
    exfalso
    have z : L2.CX P w [] H t (fun _ _ _ => False) x u := z
    obtain ⟨_, _, _, _, _, _, _, _, _, _, _, _, hE⟩ := z
    exact hE
  | .ok .next, z => exact False.elim z
  | .ok .brk, z => exact False.elim z
  | .ok .cont, z => exact False.elim z
  | .ok (.ret y), z =>
    obtain ⟨v, H2, os, bare, un, ok2, rel, q⟩ := z
    have q : v = .bl true := q
    subst q
    obtain rfl : y = Value.bool true := rel
    refine ⟨rfl, OldK.of_keep fun b o e => ?_, os, bare⟩
    rcases only b with z | ⟨ob, xs, z⟩
    · exact un.keep b o e z (by simp [frs]) (by simp)
    · obtain ⟨e1, _⟩ := ok b _ z
      obtain ⟨e2, _⟩ := ok2 b _ (un.frzs b ob _ z)
      rw [e1] at e
      cases e
      exact e2
theorem law_at (kin : K.In t.heap) (gl : t.heap.Ns mainGlobals mg) (bl : t.heap.Ns builtinsNs mb) (bb : ∀ x : Str, x ≠ "__name__" → mb x = bootBuiltins x) (nl : t.heap.NoLimit) (gn : t.gens = #[])
    (at_ : t.heap.get? p = some { cls := .type "list", data := .seq us.toArray }) (isInts : IntsAre us ns) (few : ns.length ≤ sizeLine) (room : Room k callerA) (F : ∀ base : Heap, K.In base → base.Ns mainGlobals mg → FnG P w K mg base (L2.CX P w) k f sp)
    (want : ∀ H : Hp, Only H → SqL K H p (ns.map V.int) → sp [.ref p] H (fun v _ => v = .bl true) fun _ _ _ => False) : codeAny (model P w) callerA (.call (.ref f) ⟨[.ref p], []⟩) (Told t) t := by
  have rel := vals_ints isInts
  have len := isInts.length
  by_cases hk : K.lookup p = none
  · generalize ho : (HO.frz { cls := .type "list", data := .seq us.toArray } (.lst (ns.map V.int))) = o
    have here : (fun b => if b = p then some o else none : Hp) p = some o := if_pos rfl
    have away : ∀ b, b ≠ p → (fun b => if b = p then some o else none : Hp) b = none := fun b z => if_neg z
    generalize (fun b => if b = p then some o else none : Hp) = H at here away
    have only : Only H := fun b => by
      by_cases z : b = p
      · exact .inr ⟨_, _, by rw [z, here, ← ho]⟩
      · exact .inl (away b z)
    refine core_at kin gl bl bb nl gn at_ room F only (want H only (.inl (.inr ⟨_, by rw [here, ← ho]⟩))) (fun b u z => ?_) (fun b z => ?_) fun _ => hk
    · by_cases e : b = p
      · subst e
        rw [here, ← ho] at z
        cases z
        exact ⟨at_, by rw [List.length_map]; exact few, us, _, rel, at_⟩
      · rw [away b e] at z
        cases z
    · by_cases e : b = p
      · exact e
      · exact absurd (away b e) z
  · obtain ⟨o, hk⟩ : ∃ o, K.lookup p = some o := by
      cases z : K.lookup p with
      | none => exact absurd z hk
      | some o => exact ⟨o, rfl⟩
    have e := kin p o hk
    rw [at_] at e
    cases e
    have only : Only (fun _ => none) := fun _ => .inl rfl
    refine core_at kin gl bl bb nl gn at_ room F only (want _ only (.inr ⟨_, us.toArray, _, hk, rfl, rfl, rfl, by rw [List.size_toArray, len]; exact few, by simpa using rel⟩)) (fun b u z => by cases (show (none : Option HO) = some u from z)) (fun b z => absurd rfl z) fun z => absurd rfl z
end
/-- the end over a head by facts -/
theorem walk_G {l : PySem.W.OpenLaw} {n k : Nat} {q : Program} {loose : List Str} {XP : (Str → Option Value) → Heap → Prop} {YP : World → Heap → Prop} {d : DefRec} (hn : l.most = some n) (hz : n ≤ sizeLine) (hd : d.params.defaults = []) (room : Room k callerA)
    (F : ∀ (w : World) (mg : Str → Option Value) (f : Addr) (h : Heap), YP w h → h.Ns mainGlobals mg → mg d.name = some (.ref f) →
      ∃ (K : PySem.W.Frag) (sp : Sp), K.In h ∧ (∀ (H : Hp) (p : Addr) (ns : List Int), ns.length ≤ n → Only H → SqL K H p (ns.map V.int) → sp [.ref p] H (fun v _ => v = .bl true) fun _ _ _ => False) ∧
        ∀ base : Heap, K.In base → base.Ns mainGlobals mg → FnG l.prog w K mg base (L2.CX l.prog w) k f sp) : PySem.W.WalkO q loose XP YP l.row.toRowW d [] (fun f vs => PySem.call f vs) := by
  refine Att.attach_call hn hd fun w t0 t mg mb f o pm cd doc p us ns G Y ho hf hcd hmg hobj hints hlen hg => ?_
  obtain ⟨K, sp, kin, want, hF⟩ := F w mg f _ Y G.T.g hmg
  exact law_at kin G.T.g G.T.b G.T.builtins G.T.nolimit hg hobj hints (Nat.le_trans hlen hz) room hF fun H only rd => want H p ns hlen only rd
end My

set_option maxRecDepth 100000
set_option maxHeartbeats 4000000
namespace My
open PySem PySem.Spec PyProof.Rows L2
/-! ### names: letters, 1 to 8, distinct -/
def Lt (c : Nat) : Prop := 97 ≤ c ∧ c ≤ 122
instance (c : Nat) : Decidable (Lt c) := inferInstanceAs (Decidable (_ ∧ _))
def cl (s : Str) : List Nat := s.cps.toList
theorem cl_len (s : Str) : (cl s).length = s.length := Array.length_toList
theorem cl_app (a b : Str) : cl (a ++ b) = cl a ++ cl b := by
  unfold cl
  rw [PySem.Str.cps_append, Array.toList_append]
theorem cl_one (c : Nat) : cl ⟨#[c]⟩ = [c] := rfl
theorem cl_inj {a b : Str} (h : cl a = cl b) : a = b := PySem.Str.ext' (Array.toList_inj.mp h)
def IsNm (s : Str) : Prop := 1 ≤ s.length ∧ s.length ≤ 8 ∧ ∀ c ∈ cl s, Lt c
abbrev lettersS : Str := "abcdefghijklmnopqrstuvwxyz"
theorem letters_cl : cl lettersS = (List.range 26).map (97 + ·) := by decide +kernel
theorem letters_at {i : Int} (h0 : 0 ≤ i) (h1 : i < 26) : atI lettersS.cps.toList i = some (97 + i.toNat) := by
  obtain ⟨j, rfl⟩ : ∃ j : Nat, i = (j : Int) := ⟨i.toNat, by omega⟩
  have hj : j < 26 := by omega
  refine atI_nat ?_
  show (cl lettersS)[j]? = _
  rw [letters_cl]
  simp [hj]
theorem letters_mem {c : Nat} (h : c ∈ lettersS.cps.toList) : Lt c := by
  have h' : c ∈ cl lettersS := h
  rw [letters_cl] at h'
  obtain ⟨i, hi, rfl⟩ := List.mem_map.mp h'
  have := List.mem_range.mp hi
  exact ⟨by omega, by omega⟩
/-- one name: a stem, a letter, a tail -/
def nmL (stem : List Nat) (o : Nat) : List Nat := if stem.length % 2 = 0 then stem ++ [o] else o :: stem
theorem nmL_len (stem : List Nat) (o : Nat) : (nmL stem o).length = stem.length + 1 := by
  unfold nmL
  split <;> simp
theorem nmL_inj {stem : List Nat} {o p : Nat} (h : nmL stem o = nmL stem p) : o = p := by
  unfold nmL at h
  split at h
  · have := List.append_cancel_left h
    simpa using this
  · simpa using h
theorem nmL_mem {stem : List Nat} {o c : Nat} (h : c ∈ nmL stem o) : c ∈ stem ∨ c = o := by
  unfold nmL at h
  split at h
  · simpa using h
  · simpa [or_comm] using h
def ownAt (front step : Int) (k : Nat) : Nat := 97 + ((front + step * k) % 26).toNat
theorem ownAt_lt (front step : Int) (k : Nat) : Lt (ownAt front step k) := by
  unfold ownAt Lt
  have := Int.emod_nonneg (front + step * k) (show (26 : Int) ≠ 0 by decide)
  have := Int.emod_lt_of_pos (front + step * k) (show (0 : Int) < 26 by decide)
  omega
def stepsL : List Int := [1, 3, 5, 7, 9, 11, 15, 17, 19, 21, 23, 25]
theorem ownAt_inj {front step : Int} (hs : step ∈ stepsL) {j k : Nat} (h : ownAt front step j = ownAt front step k) : (j : Int) % 26 = (k : Int) % 26 := by
  unfold ownAt at h
  have := Int.emod_nonneg (front + step * j) (show (26 : Int) ≠ 0 by decide)
  have := Int.emod_nonneg (front + step * k) (show (26 : Int) ≠ 0 by decide)
  have e : (front + step * j) % 26 = (front + step * k) % 26 := by omega
  simp only [stepsL, List.mem_cons, List.not_mem_nil, or_false] at hs
  rcases hs with rfl | rfl | rfl | rfl | rfl | rfl | rfl | rfl | rfl | rfl | rfl | rfl <;> omega
def TailOk (k : Nat) (t : List Nat) : Prop := (k < 26 → t = []) ∧ (26 ≤ k → ∃ c, Lt c ∧ t = [c])
def NmRow (stem : Str) (front step : Int) (names : List Str) : Prop := ∀ (j : Nat) (x : Str), names[j]? = some x → ∃ t, cl x = nmL (cl stem) (ownAt front step j) ++ t ∧ TailOk j t
def NamesOk (names : List Str) (many : Nat) : Prop := names.length = many ∧ names.Nodup ∧ ∀ x ∈ names, IsNm x
theorem names_ok {stem : Str} {front step : Int} {names : List Str} (hl : names.length ≤ 52) (h1 : stem.length ≤ 6) (h2 : ∀ c ∈ cl stem, Lt c) (hs : step ∈ stepsL) (h : NmRow stem front step names) : NamesOk names names.length := by
  refine ⟨rfl, ?_, fun x hx => ?_⟩
  · rw [List.nodup_iff_pairwise_ne, List.pairwise_iff_getElem]
    intro i j hi hj hij e
    obtain ⟨t, e1, t1, t2⟩ := h i _ (List.getElem?_eq_getElem hi)
    obtain ⟨u, e2, u1, u2⟩ := h j _ (List.getElem?_eq_getElem hj)
    rw [e, e2] at e1
    by_cases hj2 : j < 26
    · rw [u1 hj2, t1 (by omega), List.append_nil, List.append_nil] at e1
      have := ownAt_inj hs (nmL_inj e1)
      omega
    · obtain ⟨c, _, hc⟩ := u2 (by omega)
      subst hc
      by_cases hi2 : i < 26
      · rw [t1 hi2] at e1
        have := congrArg List.length e1
        simp [nmL_len] at this
      · obtain ⟨d, _, hd⟩ := t2 (by omega)
        subst hd
        have e3 := (List.append_inj e1 (by rw [nmL_len, nmL_len])).1
        have := ownAt_inj hs (nmL_inj e3)
        omega
  · obtain ⟨j, hj⟩ := List.mem_iff_getElem?.mp hx
    obtain ⟨t, e, t1, t2⟩ := h j x hj
    have tl : t.length ≤ 1 ∧ ∀ c ∈ t, Lt c := by
      by_cases hj2 : j < 26
      · rw [t1 hj2]
        simp
      · obtain ⟨c, hc, rfl⟩ := t2 (by omega)
        simpa using hc
    have hx := congrArg List.length e
    rw [cl_len, List.length_append, nmL_len, cl_len] at hx
    refine ⟨by omega, by omega, fun c hc => ?_⟩
    rw [e] at hc
    rcases List.mem_append.mp hc with z | z
    · rcases nmL_mem z with y | rfl
      · exact h2 c y
      · exact ownAt_lt _ _ _
    · exact tl.2 c z
theorem NmRow.snoc {stem : Str} {front step : Int} {names : List Str} (h : NmRow stem front step names) {x : Str} {t : List Nat} (e : cl x = nmL (cl stem) (ownAt front step names.length) ++ t) (ht : TailOk names.length t) : NmRow stem front step (names ++ [x]) := by
  intro j y hj
  by_cases hlt : j < names.length
  · rw [List.getElem?_append_left hlt] at hj
    exact h j y hj
  · have hj2 : j = names.length := by
      have := (List.getElem?_eq_some_iff.mp hj).1
      simp at this
      omega
    subst hj2
    rw [List.getElem?_append_right (Nat.le_refl _)] at hj
    simp at hj
    subst hj
    exact ⟨t, e, ht⟩
end My

set_option maxRecDepth 100000
set_option maxHeartbeats 4000000
namespace My
open PySem PySem.Spec PyProof.Rows L2
/-! ### texts cut and joined -/
def jn (c : List Nat) : List (List Nat) → List Nat
  | [] => []
  | [a] => a
  | a :: b :: r => a ++ c ++ jn c (b :: r)
theorem cl_join (sep : Str) : ∀ ss : List Str, cl (Txt.join sep ss) = jn (cl sep) (ss.map cl) := by
  intro ss
  have e : Txt.join sep ss = Str.join sep ss := StrLaws.glued_eq_join sep ss
  rw [e]
  induction ss with
  | nil => rfl
  | cons a r ih =>
    cases r with
    | nil => rfl
    | cons b r =>
      have ih := ih (StrLaws.glued_eq_join sep _)
      show cl (a ++ sep ++ Str.join sep (b :: r)) = _
      rw [cl_app, cl_app, ih]
      rfl
theorem cl_mk (l : List Nat) : cl ⟨l.toArray⟩ = l := rfl
theorem jn_nil : ∀ ss : List (List Nat), jn [] ss = ss.flatten
  | [] => rfl
  | [a] => by simp [jn]
  | a :: b :: r => by
    have ih := jn_nil (b :: r)
    show a ++ [] ++ jn [] (b :: r) = _
    rw [ih]
    simp
theorem free_split {c : Nat} {a b x y : List Nat} (ha : c ∉ a) (hb : c ∉ b) (h : a ++ c :: x = b ++ c :: y) : a = b ∧ x = y := by
  induction a generalizing b with
  | nil =>
    cases b with
    | nil => exact ⟨rfl, by simpa using h⟩
    | cons d b =>
      have h1 : c = d := (List.cons.inj h).1
      exact absurd (by rw [h1]; exact List.mem_cons_self) hb
  | cons e a ih =>
    cases b with
    | nil =>
      have h1 : e = c := (List.cons.inj h).1
      exact absurd (by rw [h1]; exact List.mem_cons_self) ha
    | cons d b =>
      obtain ⟨h1, h2⟩ := List.cons.inj h
      obtain ⟨e1, e2⟩ := ih (fun z => ha (List.mem_cons_of_mem _ z)) (fun z => hb (List.mem_cons_of_mem _ z)) h2
      exact ⟨by rw [h1, e1], e2⟩
theorem jn_mem {c : Nat} : ∀ {a b : List Nat} {r : List (List Nat)}, c ∈ jn [c] (a :: b :: r) := fun {a b r} => by
  show c ∈ a ++ [c] ++ jn [c] (b :: r)
  simp
theorem jn_inj {c : Nat} : ∀ {a b : List (List Nat)}, a ≠ [] → b ≠ [] → (∀ s ∈ a, c ∉ s) → (∀ s ∈ b, c ∉ s) → jn [c] a = jn [c] b → a = b
  | [], _, h, _, _, _, _ => absurd rfl h
  | _, [], _, h, _, _, _ => absurd rfl h
  | [x], [y], _, _, _, _, h => by
    have h' : x = y := h
    rw [h']
  | [x], y :: z :: r, _, _, ha, _, h => by
    have hm : c ∈ jn [c] (y :: z :: r) := jn_mem
    rw [← h] at hm
    exact absurd hm (ha x List.mem_cons_self)
  | x :: y :: r, [z], _, _, _, hb, h => by
    have hm : c ∈ jn [c] (x :: y :: r) := jn_mem
    rw [h] at hm
    exact absurd hm (hb z List.mem_cons_self)
  | x :: y :: r, z :: u :: t, _, _, ha, hb, h => by
    have h' : x ++ [c] ++ jn [c] (y :: r) = z ++ [c] ++ jn [c] (u :: t) := h
    rw [List.append_assoc, List.append_assoc] at h'
    obtain ⟨e1, e2⟩ := free_split (ha x List.mem_cons_self) (hb z List.mem_cons_self) h'
    have e3 := jn_inj (c := c) (a := y :: r) (b := u :: t) (by simp) (by simp) (fun s hs => ha s (List.mem_cons_of_mem _ hs)) (fun s hs => hb s (List.mem_cons_of_mem _ hs)) e2
    rw [e1, e3]
theorem map_cl_inj {a b : List Str} (h : a.map cl = b.map cl) : a = b := by
  induction a generalizing b with
  | nil =>
    cases b with
    | nil => rfl
    | cons _ _ => cases h
  | cons x a ih =>
    cases b with
    | nil => cases h
    | cons y b =>
      obtain ⟨h1, h2⟩ := List.cons.inj h
      rw [cl_inj h1, ih h2]
theorem split_ne (x : Str) (c : Nat) : Txt.split x ⟨#[c]⟩ ≠ [] := fun e => by
  have := split_pos x ⟨#[c]⟩
  rw [e] at this
  exact absurd this (by decide)
theorem split_free (x : Str) (c : Nat) : ∀ s ∈ Txt.split x ⟨#[c]⟩, c ∉ cl s := fun s hs => StrLaws.split_free x c s hs
theorem join_split (x : Str) (c : Nat) : Txt.join ⟨#[c]⟩ (Txt.split x ⟨#[c]⟩) = x := (StrLaws.glued_eq_join _ _).trans (StrLaws.join_split x _)
theorem split_join {c : Nat} {ss : List Str} (h0 : ss ≠ []) (h : ∀ s ∈ ss, c ∉ cl s) : Txt.split (Txt.join ⟨#[c]⟩ ss) ⟨#[c]⟩ = ss := by
  have e := congrArg cl (join_split (Txt.join ⟨#[c]⟩ ss) c)
  rw [cl_join, cl_join] at e
  refine map_cl_inj (jn_inj (c := c) ?_ (by simpa using h0) ?_ ?_ e)
  · simpa using split_ne _ c
  · intro s hs
    obtain ⟨t, ht, rfl⟩ := List.mem_map.mp hs
    exact split_free _ c t ht
  · intro s hs
    obtain ⟨t, ht, rfl⟩ := List.mem_map.mp hs
    exact h t ht
/-- texts of one sign joined -/
theorem join_ones {ss : List Str} (h : ∀ x ∈ ss, ∃ c, Lt c ∧ x = ⟨#[c]⟩) : (Txt.join "" ss).length = ss.length ∧ ∀ c ∈ cl (Txt.join "" ss), Lt c := by
  have e : cl (Txt.join "" ss) = (ss.map cl).flatten := by
    rw [cl_join]
    have e2 : cl "" = [] := by decide
    rw [e2, jn_nil]
  constructor
  · rw [← cl_len, e]
    clear e
    induction ss with
    | nil => rfl
    | cons a r ih =>
      obtain ⟨c, _, rfl⟩ := h a List.mem_cons_self
      have ih := ih fun x hx => h x (List.mem_cons_of_mem _ hx)
      rw [List.map_cons, List.flatten_cons, List.length_append, ih]
      rw [List.length_cons, cl_one, List.length_singleton]
      omega
  · intro c hc
    rw [e] at hc
    obtain ⟨l, hl, hcl⟩ := List.mem_flatten.mp hc
    obtain ⟨x, hx, rfl⟩ := List.mem_map.mp hl
    obtain ⟨d, hd, rfl⟩ := h x hx
    rw [cl_one] at hcl
    have : c = d := by simpa using hcl
    rw [this]
    exact hd
theorem ones_sum {ss : List Str} (h : ∀ x ∈ ss, ∃ c, Lt c ∧ x = ⟨#[c]⟩) : (ss.map (·.length)).sum = ss.length := by
  induction ss with
  | nil => rfl
  | cons a r ih =>
    obtain ⟨c, _, rfl⟩ := h a List.mem_cons_self
    have ih := ih fun x hx => h x (List.mem_cons_of_mem _ hx)
    rw [List.map_cons, List.sum_cons, ih, List.length_cons]
    show 1 + _ = _
    omega
end My

set_option maxRecDepth 100000
set_option maxHeartbeats 4000000
namespace My
open PySem PySem.Spec PyProof.Rows L2
/-! ### rows: name, day, post, stride -/
structure Rw where
  nm : Str
  day : Int
  post : Int
  pace : Int
def NumOk (r : Rw) : Prop := 0 ≤ r.day ∧ r.day ≤ 10 ^ 30 ∧ -(10 ^ 30) ≤ r.post ∧ r.post ≤ 10 ^ 30 ∧ -(10 ^ 18) ≤ r.pace ∧ r.pace ≤ 10 ^ 18 ∧ r.pace ≠ 0
def rowV (r : Rw) : List V := [.str r.nm, .int r.day, .int r.post, .int r.pace]
def RowsAt (H : Hp) : List V → List Rw → Prop
  | [], [] => True
  | v :: vs, r :: rs => (∃ p, v = .ref p ∧ H p = some (.tup (rowV r))) ∧ RowsAt H vs rs
  | _, _ => False
theorem RowsAt.kp {H H' : Hp} (e : Kp H H') : ∀ {vs : List V} {rs : List Rw}, RowsAt H vs rs → RowsAt H' vs rs
  | [], [], _ => trivial
  | _ :: _, _ :: _, ⟨⟨p, e1, e2⟩, h⟩ => ⟨⟨p, e1, e.t e2⟩, RowsAt.kp e h⟩
theorem RowsAt.put {H : Hp} {p : Addr} {xs ys : List V} (e : H p = some (.lst xs)) : ∀ {vs : List V} {rs : List Rw}, RowsAt H vs rs → RowsAt (upd H p (.lst ys)) vs rs
  | [], [], _ => trivial
  | _ :: _, _ :: _, ⟨⟨q, e1, e2⟩, h⟩ => ⟨⟨q, e1, by rw [upd_ne (ne_of e2 e (by intro z; cases z))]; exact e2⟩, RowsAt.put e h⟩
theorem RowsAt.len {H : Hp} : ∀ {vs : List V} {rs : List Rw}, RowsAt H vs rs → vs.length = rs.length
  | [], [], _ => rfl
  | _ :: _, _ :: _, ⟨_, h⟩ => congrArg (· + 1) (RowsAt.len h)
theorem RowsAt.snoc {H : Hp} {p : Addr} {r : Rw} (e : H p = some (.tup (rowV r))) : ∀ {vs : List V} {rs : List Rw}, RowsAt H vs rs → RowsAt H (vs ++ [.ref p]) (rs ++ [r])
  | [], [], _ => ⟨⟨p, rfl, e⟩, trivial⟩
  | _ :: _, _ :: _, ⟨h1, h⟩ => ⟨h1, RowsAt.snoc e h⟩
theorem RowsAt.mem {H : Hp} {v : V} : ∀ {vs : List V} {rs : List Rw}, RowsAt H vs rs → v ∈ vs → ∃ p r, r ∈ rs ∧ v = .ref p ∧ H p = some (.tup (rowV r))
  | [], [], _, h => (List.not_mem_nil h).elim
  | u :: vs, r :: rs, ⟨⟨p, e1, e2⟩, h⟩, hm => by
    rcases List.mem_cons.mp hm with rfl | hm
    · exact ⟨p, r, List.mem_cons_self, e1, e2⟩
    · obtain ⟨p, r, h1, h2⟩ := RowsAt.mem h hm
      exact ⟨p, r, List.mem_cons_of_mem _ h1, h2⟩
theorem RowsAt.at {H : Hp} {v : V} : ∀ {vs : List V} {rs : List Rw} {i : Nat}, RowsAt H vs rs → vs[i]? = some v → ∃ p r, rs[i]? = some r ∧ v = .ref p ∧ H p = some (.tup (rowV r))
  | [], [], _, _, h => by simp at h
  | u :: vs, r :: rs, 0, ⟨⟨p, e1, e2⟩, h⟩, hm => by
    have : u = v := by simpa using hm
    subst this
    exact ⟨p, r, rfl, e1, e2⟩
  | u :: vs, r :: rs, i + 1, ⟨_, h⟩, hm => by simpa using RowsAt.at (vs := vs) (rs := rs) (i := i) h (by simpa using hm)
theorem RowsAt.set {H : Hp} {p : Addr} {r : Rw} (e : H p = some (.tup (rowV r))) : ∀ {vs : List V} {rs : List Rw} {i : Nat}, RowsAt H vs rs → RowsAt H (vs.set i (.ref p)) (rs.set i r)
  | [], [], _, _ => trivial
  | _ :: _, _ :: _, 0, ⟨_, h⟩ => ⟨⟨p, rfl, e⟩, h⟩
  | _ :: _, _ :: _, i + 1, ⟨h1, h⟩ => ⟨h1, RowsAt.set e h⟩
theorem mem_cutV {v : V} {xs : List V} {lo hi : Option Int} (h : v ∈ cutV xs lo hi) : v ∈ xs := List.mem_of_mem_drop (List.mem_of_mem_take h)
theorem cut_last {xs : List V} (h : 1 ≤ xs.length) : cutV xs none (some (-1)) = xs.take (xs.length - 1) := by
  unfold cutV
  have e0 : HT.sIx xs.length 0 none = 0 := rfl
  have e1 : HT.sIx xs.length xs.length (some (-1)) = xs.length - 1 := by
    unfold HT.sIx
    simp only
    try split
    all_goals omega
  rw [e0, e1]
  simp
theorem ixN_last {n : Nat} (h : 1 ≤ n) : ixN n (-1) = some (n - 1) := by
  unfold ixN
  rw [if_neg (by omega), if_pos (by omega)]
  congr 1
  omega
theorem atI_last {α : Type} {xs : List α} (h : xs ≠ []) : atI xs (-1) = xs[xs.length - 1]? := by
  have := List.length_pos_iff.mpr h
  unfold atI
  rw [ixN_last (by omega)]
  rfl
def NumsOk (rs : List Rw) : Prop := ∀ r ∈ rs, NumOk r
theorem NumsOk.snoc {rs : List Rw} {r : Rw} (h : NumsOk rs) (e : NumOk r) : NumsOk (rs ++ [r]) := fun x hx => by
  rcases List.mem_append.mp hx with y | y
  · exact h x y
  · have : x = r := by simpa using y
    rw [this]
    exact e
theorem NumsOk.set {rs : List Rw} {r : Rw} {i : Nat} (h : NumsOk rs) (e : NumOk r) : NumsOk (rs.set i r) := fun x hx => by
  rcases List.mem_or_eq_of_mem_set hx with y | y
  · exact h x y
  · rw [y]
    exact e
/-- the rows of a fence: numbers and names as they should be, the names distinct -/
def RowsOk (rs : List Rw) : Prop := NumsOk rs ∧ (rs.map Rw.nm).Nodup ∧ (∀ r ∈ rs, IsNm r.nm) ∧ rs.length ≤ 40
theorem rowsOk_of {rs : List Rw} {names : List Str} {many : Nat} (h : NumsOk rs) (hn : NamesOk names many) (e : rs.map Rw.nm = names) (hm : many ≤ 40) : RowsOk rs := by
  subst e
  refine ⟨h, hn.2.1, fun r hr => hn.2.2 _ (List.mem_map_of_mem hr), ?_⟩
  have := hn.1
  rw [List.length_map] at this
  omega
/-- a list of rows that is new behind H0 -/
def RowsR (H0 : Hp) (v : V) (H : Hp) : Prop := ∃ p vs rs, v = .ref p ∧ H0 p = none ∧ H p = some (.lst vs) ∧ RowsAt H vs rs ∧ RowsOk rs
/-- rows under construction: p the list, q that of the names -/
structure RI (z : PenI) (H0 H : Hp) (n : Nat) (p q : Addr) (names : List Str) (i : Nat) (vs : List V) (rs : List Rw) : Prop where
  acc : Acc z H0 H n p vs
  rows : RowsAt H vs rs
  nums : NumsOk rs
  nms : rs.map Rw.nm = names.take i
  src : H q = some (.lst (names.map V.str))
  ne : q ≠ p
section
variable {z : PenI} {H0 H H' : Hp} {n m : Nat} {p q : Addr} {names : List Str} {i : Nat} {vs : List V} {rs : List Rw}
theorem RI.go (r : RI z H0 H n p q names i vs rs) (k : Kp H H') (a : Acc z H0 H' m p vs) : RI z H0 H' m p q names i vs rs := ⟨a, r.rows.kp k, r.nums, r.nms, k.l r.src, r.ne⟩
theorem RI.new {t : Addr} {o : HO} (r : RI z H0 H n p q names i vs rs) (h : H t = none) : RI z H0 (upd H t o) n p q names i vs rs := r.go (Kp.new h) (r.acc.newO h)
theorem RI.mono (r : RI z H0 H n p q names i vs rs) (h : n ≤ m) : RI z H0 H m p q names i vs rs := ⟨r.acc.mono h, r.rows, r.nums, r.nms, r.src, r.ne⟩
theorem RI.len (r : RI z H0 H n p q names i vs rs) : vs.length ≤ i := by
  have := congrArg List.length r.nms
  rw [List.length_map, ← r.rows.len, List.length_take] at this
  omega
theorem RI.eqlen (r : RI z H0 H n p q names i vs rs) (hi : i ≤ names.length) : vs.length = i := by
  have := congrArg List.length r.nms
  rw [List.length_map, ← r.rows.len, List.length_take] at this
  omega
theorem RI.app {t : Addr} {row : Rw} (r : RI z H0 H n p q names i vs rs) (h : H t = some (.tup (rowV row))) (hl : names[i]? = some row.nm) (ho : NumOk row) :
    RI z H0 (upd H p (.lst (vs ++ [.ref t]))) n p q names (i + 1) (vs ++ [.ref t]) (rs ++ [row]) :=
  ⟨r.acc.put _, (r.rows.snoc h).put r.acc.l, r.nums.snoc ho, by rw [List.map_append, r.nms, List.take_add_one, hl]; rfl, by rw [upd_ne r.ne]; exact r.src, r.ne⟩
theorem RI.set {t : Addr} {row : Rw} {j : Nat} (r : RI z H0 H n p q names i vs rs) (h : H t = some (.tup (rowV row))) (hl : names[j]? = some row.nm) (hj : j < i) (ho : NumOk row) :
    RI z H0 (upd H p (.lst (vs.set j (.ref t)))) n p q names i (vs.set j (.ref t)) (rs.set j row) := by
  refine ⟨r.acc.put _, (r.rows.set h).put r.acc.l, r.nums.set ho, ?_, by rw [upd_ne r.ne]; exact r.src, r.ne⟩
  rw [List.map_set, r.nms]
  have e : (names.take i)[j]? = some row.nm := by
    rw [List.getElem?_take_of_lt hj]
    exact hl
  obtain ⟨hlt, e2⟩ := List.getElem?_eq_some_iff.mp e
  rw [← e2]
  exact List.set_getElem_self hlt
theorem RI.start (a : Acc z H0 H n p []) (h : H q = some (.lst (names.map V.str))) (ne : q ≠ p) : RI z H0 H n p q names 0 [] [] := ⟨a, trivial, fun r hr => (List.not_mem_nil hr).elim, rfl, h, ne⟩
theorem RI.done {many : Nat} (r : RI z H0 H n p q names i vs rs) (hn : NamesOk names many) (hi : many ≤ i) (hm : many ≤ 40) : RowsR H0 (.ref p) H :=
  ⟨p, vs, rs, rfl, r.acc.new, r.acc.l, r.rows, rowsOk_of r.nums hn (by rw [r.nms, List.take_of_length_le (by rw [hn.1]; exact hi)]) hm⟩
end
theorem RowsAt.ext {H H' : Hp} (e : Ext H H') : ∀ {vs : List V} {rs : List Rw}, RowsAt H vs rs → RowsAt H' vs rs
  | [], [], _ => trivial
  | _ :: _, _ :: _, ⟨⟨p, e1, e2⟩, h⟩ => ⟨⟨p, e1, e _ _ e2⟩, RowsAt.ext e h⟩
theorem Pen.ext {H H' : Hp} {z : PenI} {n : Nat} (d : Pen H z n) (e : Ext H H') : Pen H' z n := by
  obtain ⟨b, r, d, y⟩ := d
  exact ⟨b, r, ⟨e _ _ d.d, e _ _ d.c⟩, y⟩
end My

set_option maxRecDepth 100000
set_option maxHeartbeats 4000000
/-! ### words: names, numbers, lines -/
namespace My
open PySem PySem.Spec PyProof.Rows L2 TL
def nmB (s : Str) : Bool := decide (1 ≤ s.length) && (decide (s.length ≤ 8) && (cl s).all fun c => decide (c ∈ lettersS.cps.toList))
theorem letters_iff {c : Nat} : c ∈ lettersS.cps.toList ↔ Lt c := by
  constructor
  · exact letters_mem
  · intro h
    show c ∈ cl lettersS
    rw [letters_cl]
    exact List.mem_map.mpr ⟨c - 97, List.mem_range.mpr (by have := h.2; omega), by have := h.1; omega⟩
theorem nmB_iff {s : Str} : nmB s = true ↔ IsNm s := by
  unfold nmB IsNm
  simp only [Bool.and_eq_true, decide_eq_true_eq, List.all_eq_true, letters_iff]
abbrev digitsS : Str := "0123456789"
theorem digits_iff {c : Nat} : c ∈ digitsS.cps.toList ↔ 48 ≤ c ∧ c ≤ 57 := by
  have e : digitsS.cps.toList = (List.range 10).map (48 + ·) := by decide +kernel
  rw [e]
  constructor
  · intro h
    obtain ⟨i, hi, rfl⟩ := List.mem_map.mp h
    have := List.mem_range.mp hi
    omega
  · intro h
    exact List.mem_map.mpr ⟨c - 48, List.mem_range.mpr (by omega), by omega⟩
/-- the digits of a word -/
def dgs (w : Str) : Str := if cutS w none (some 1) = "-" then cutS w (some 1) none else w
def inOk (d : Int) (w : Str) : Bool := decide (1 ≤ ((dgs w).length : Int)) && (decide (((dgs w).length : Int) ≤ d) && ((cl (dgs w)).all (fun c => decide (c ∈ digitsS.cps.toList)) && !(decide ((cl (dgs w)).head? = some 48) && !decide (w = "0"))))
def intIn (d : Int) (w : Str) : Option Int := if inOk d w = true then PySem.intText? w else none
theorem cl_cut1 {w : Str} : cl (cutS w none (some 1)) = (cl w).take 1 := by
  have e1 : HT.sIx w.length 0 none = 0 := rfl
  have e2 : HT.sIx w.length w.length (some 1) = min 1 w.length := rfl
  show ((w.cps.toList.drop _).take _) = _
  rw [e1, e2, List.drop_zero, Nat.sub_zero]
  show (cl w).take _ = _
  rw [← cl_len w]
  cases cl w with
  | nil => rfl
  | cons c r => simp
theorem cl_cut2 {w : Str} : cl (cutS w (some 1) none) = (cl w).drop 1 := by
  have e1 : HT.sIx w.length 0 (some 1) = min 1 w.length := rfl
  have e2 : HT.sIx w.length w.length none = w.length := rfl
  show ((w.cps.toList.drop _).take _) = _
  rw [e1, e2]
  show ((cl w).drop _).take _ = _
  rw [← cl_len w]
  cases cl w with
  | nil => rfl
  | cons c r =>
    have : min 1 (c :: r).length = 1 := by simp
    rw [this]
    simp
theorem cut1_is {w : Str} : cutS w none (some 1) = "-" ↔ (cl w).head? = some 45 := by
  have e : cl "-" = [45] := by decide
  constructor
  · intro h
    have h2 := congrArg cl h
    rw [cl_cut1, e] at h2
    cases hw : cl w with
    | nil => rw [hw] at h2; cases h2
    | cons c r =>
      rw [hw] at h2
      have : c = 45 := by simpa using h2
      rw [this]
      rfl
  · intro h
    refine cl_inj ?_
    rw [cl_cut1, e]
    cases hw : cl w with
    | nil => rw [hw] at h; cases h
    | cons c r =>
      rw [hw] at h
      have : c = 45 := by simpa using h
      rw [this]
      rfl
theorem cl_dgs {w : Str} : cl (dgs w) = if (cl w).head? = some 45 then (cl w).tail else cl w := by
  unfold dgs
  by_cases h : cutS w none (some 1) = "-"
  · rw [if_pos h, if_pos (cut1_is.mp h), cl_cut2, List.drop_one]
  · rw [if_neg h, if_neg (fun z => h (cut1_is.mpr z))]
theorem all_digits {l : List Nat} (h : (l.all fun c => decide (c ∈ digitsS.cps.toList)) = true) : NumText.AllDigits l := fun c hc => digits_iff.mp (of_decide_eq_true (List.all_eq_true.mp h c hc))
theorem inOk_text {d : Int} {w : Str} (h : inOk d w = true) (hd : d ≤ 600) : w.length ≤ 640 ∧ ∃ n, PySem.intText? w = some n := by
  unfold inOk at h
  simp only [Bool.and_eq_true, decide_eq_true_eq] at h
  obtain ⟨h1, h2, h3, _⟩ := h
  have ha := all_digits h3
  have hl := cl_len (dgs w)
  have hw := cl_len w
  have hne : cl (dgs w) ≠ [] := fun e => by
    rw [e] at hl
    have : ([] : List Nat).length = 0 := rfl
    omega
  by_cases hm : (cl w).head? = some 45
  · have e := cl_dgs (w := w)
    rw [if_pos hm] at e
    cases hc : cl w with
    | nil => rw [hc] at hm; cases hm
    | cons c r =>
      rw [hc] at hm e hw
      have e45 : c = 45 := by simpa using hm
      have er : cl (dgs w) = r := e
      rw [er] at ha hne hl
      rw [List.length_cons] at hw
      have h640 : w.length ≤ 640 := by omega
      exact ⟨h640, _, intText_neg (cs := r) (by rw [← e45]; exact hc) ha hne (by omega)⟩
  · have e := cl_dgs (w := w)
    rw [if_neg hm] at e
    rw [e] at ha hne hl
    have h640 : w.length ≤ 640 := by omega
    exact ⟨h640, _, intText_digits ha hne (by omega)⟩
/-! a number's text -/
def tS (i : Int) : Str := Str.ofString (toString i)
theorem cl_tS0 (n : Nat) : cl (tS n) = numL n := tl_num n
theorem cl_ofString (s : String) : cl (Str.ofString s) = s.toList.map Char.toNat := by
  rw [PySem.Str.ofString_eq_toList]
  rfl
theorem cl_tSneg {n : Nat} (h : 0 < n) : cl (tS (-(n : Int))) = 45 :: numL n := by
  unfold tS
  rw [toString_neg (by omega)]
  have e : (0 : Int) - -(n : Int) = n := by omega
  rw [e, cl_ofString, String.toList_append, List.map_append, ← cl_ofString, ← cl_ofString]
  have e2 : cl (Str.ofString "-") = [45] := by decide
  rw [e2]
  have e3 := cl_tS0 n
  unfold tS at e3
  rw [e3]
  rfl
theorem tS_cases (i : Int) : (∃ n : Nat, i = n ∧ cl (tS i) = numL n) ∨ ∃ n : Nat, i = -(n : Int) ∧ 0 < n ∧ cl (tS i) = 45 :: numL n := by
  rcases Int.le_total 0 i with h | h
  · obtain ⟨n, rfl⟩ : ∃ n : Nat, i = n := ⟨i.toNat, by omega⟩
    exact .inl ⟨n, rfl, cl_tS0 n⟩
  · by_cases h0 : i = 0
    · subst h0
      exact .inl ⟨0, rfl, cl_tS0 0⟩
    · obtain ⟨n, rfl⟩ : ∃ n : Nat, i = -(n : Int) := ⟨(-i).toNat, by omega⟩
      exact .inr ⟨n, rfl, by omega, cl_tSneg (by omega)⟩
theorem tS_mem {i : Int} {c : Nat} (h : c ∈ cl (tS i)) : c = 45 ∨ (48 ≤ c ∧ c ≤ 57) := by
  rcases tS_cases i with ⟨n, _, e⟩ | ⟨n, _, _, e⟩
  · rw [e] at h
    exact .inr (numL_digits n c h)
  · rw [e] at h
    rcases List.mem_cons.mp h with h | h
    · exact .inl h
    · exact .inr (numL_digits n c h)
theorem numL_head {n : Nat} (h : (numL n).head? = some 48) : n = 0 := by
  induction n using Nat.strongRecOn with
  | _ n ih =>
    by_cases hn : n < 10
    · rw [numL_lt hn] at h
      have : 48 + n = 48 := by simpa using h
      omega
    · rw [numL_step (by omega)] at h
      have hne := numL_ne (n / 10)
      have e : (numL (n / 10) ++ [48 + n % 10]).head? = (numL (n / 10)).head? := by
        cases hh : numL (n / 10) with
        | nil => exact absurd hh hne
        | cons _ _ => rfl
      rw [e] at h
      have := ih (n / 10) (by omega) h
      omega
theorem tS_small {i : Int} {k : Nat} (h1 : -(10 ^ k) < i) (h2 : i < 10 ^ k) (hk : 0 < k) : (tS i).length ≤ k + 1 := by
  have hp : ((10 ^ k : Nat) : Int) = 10 ^ k := by simp
  rcases tS_cases i with ⟨n, e0, e⟩ | ⟨n, e0, _, e⟩
  · rw [← cl_len, e]
    have := numL_len hk (show n < 10 ^ k by omega)
    omega
  · rw [← cl_len, e, List.length_cons]
    have := numL_len hk (show n < 10 ^ k by omega)
    omega
theorem numL_head_ne {n : Nat} : (numL n).head? ≠ some 45 := fun h => by
  have hm : (45 : Nat) ∈ numL n := List.mem_of_head? h
  have := numL_digits n 45 hm
  omega
/-- what str(i) says is read back -/
theorem intIn_tS {i : Int} (h1 : -(10 ^ 79) < i) (h2 : i < 10 ^ 79) : intIn 80 (tS i) = some i := by
  have e48 : (cl "0") = [48] := by decide
  have hp : ((10 ^ 79 : Nat) : Int) = 10 ^ 79 := by simp
  rcases tS_cases i with ⟨n, e0, e⟩ | ⟨n, e0, hn, e⟩
  · have hd : cl (dgs (tS i)) = numL n := by rw [cl_dgs, e, if_neg numL_head_ne]
    have hl := numL_len (k := 79) (by decide) (show n < 10 ^ 79 by omega)
    have hl0 : 0 < (numL n).length := List.length_pos_iff.mpr (numL_ne n)
    have hdl : (dgs (tS i)).length = (numL n).length := by rw [← cl_len, hd]
    have ok : inOk 80 (tS i) = true := by
      unfold inOk
      simp only [Bool.and_eq_true, decide_eq_true_eq, List.all_eq_true, hd, hdl]
      refine ⟨by omega, by omega, fun c hc => digits_iff.mpr (numL_digits n c hc), ?_⟩
      rw [Bool.not_eq_true', Bool.and_eq_false_iff]
      by_cases hz : (numL n).head? = some 48
      · right
        have := numL_head hz
        subst this
        have : tS i = "0" := cl_inj (by rw [e, e48]; rfl)
        simp [this]
      · left
        simpa using hz
    unfold intIn
    rw [if_pos ok, intText_digits (by show NumText.AllDigits (cl (tS i)); rw [e]; exact numL_digits n) (by show cl (tS i) ≠ []; rw [e]; exact numL_ne n) (by rw [← cl_len, e]; omega)]
    show some ((NumText.digitsVal (cl (tS i)) : Nat) : Int) = _
    rw [e, numL_val, e0]
  · have hd : cl (dgs (tS i)) = numL n := by rw [cl_dgs, e]; simp
    have hl := numL_len (k := 79) (by decide) (show n < 10 ^ 79 by omega)
    have hl0 : 0 < (numL n).length := List.length_pos_iff.mpr (numL_ne n)
    have hdl : (dgs (tS i)).length = (numL n).length := by rw [← cl_len, hd]
    have ok : inOk 80 (tS i) = true := by
      unfold inOk
      simp only [Bool.and_eq_true, decide_eq_true_eq, List.all_eq_true, hd, hdl]
      refine ⟨by omega, by omega, fun c hc => digits_iff.mpr (numL_digits n c hc), ?_⟩
      rw [Bool.not_eq_true', Bool.and_eq_false_iff]
      left
      have : (numL n).head? ≠ some 48 := fun hz => by
        have := numL_head hz
        omega
      simpa using this
    unfold intIn
    rw [if_pos ok, intText_neg (cs := numL n) e (numL_digits n) (numL_ne n) (by rw [← cl_len, e, List.length_cons]; omega), numL_val, e0]
/-! lines -/
def rowS (r : Rw) : Str := Txt.join " " [r.nm, tS r.day, tS r.post, tS r.pace]
theorem nm_free {s : Str} (h : IsNm s) {c : Nat} (hc : c < 97) : c ∉ cl s := fun hm => by
  have := (h.2.2 c hm).1
  omega
theorem tS_free {i : Int} {c : Nat} (hc : c < 45) : c ∉ cl (tS i) := fun hm => by
  rcases tS_mem hm with h | h <;> omega
theorem sp_cl : cl " " = [32] := by decide
theorem nl_cl : cl "\n" = [10] := by decide
theorem sp_mk : (" " : Str) = ⟨#[32]⟩ := cl_inj (by rw [sp_cl]; rfl)
theorem nl_mk : ("\n" : Str) = ⟨#[10]⟩ := cl_inj (by rw [nl_cl]; rfl)
theorem row_split {r : Rw} (h : IsNm r.nm) : Txt.split (rowS r) " " = [r.nm, tS r.day, tS r.post, tS r.pace] := by
  unfold rowS
  rw [sp_mk]
  refine split_join (by simp) fun s hs => ?_
  simp only [List.mem_cons, List.not_mem_nil, or_false] at hs
  rcases hs with rfl | rfl | rfl | rfl
  · exact nm_free h (by decide)
  · exact tS_free (by decide)
  · exact tS_free (by decide)
  · exact tS_free (by decide)
theorem row_free {r : Rw} (h : IsNm r.nm) : 10 ∉ cl (rowS r) := by
  unfold rowS
  rw [cl_join, sp_cl]
  have h1 := nm_free h (show 10 < 97 by decide)
  have h2 := tS_free (i := r.day) (show 10 < 45 by decide)
  have h3 := tS_free (i := r.post) (show 10 < 45 by decide)
  have h4 := tS_free (i := r.pace) (show 10 < 45 by decide)
  simp [jn, h1, h2, h3, h4]
theorem row_len {r : Rw} (h : IsNm r.nm) (hn : NumOk r) : 4 ≤ (rowS r).length ∧ (rowS r).length ≤ 140 := by
  unfold rowS
  rw [← cl_len, cl_join, sp_cl]
  obtain ⟨a1, a2, a3, a4, a5, a6, a7⟩ := hn
  have l1 := tS_small (i := r.day) (k := 31) (by omega) (by omega) (by decide)
  have l2 := tS_small (i := r.post) (k := 31) (by omega) (by omega) (by decide)
  have l3 := tS_small (i := r.pace) (k := 31) (by omega) (by omega) (by decide)
  have l4 := h.1
  have l5 := h.2.1
  rw [← cl_len] at l1 l2 l3 l4 l5
  simp only [List.map_cons, List.map_nil, jn, List.length_append, List.length_singleton]
  omega
def fenceS (rs : List Rw) : Str := Txt.join "\n" (rs.map rowS)
theorem fence_split {rs : List Rw} (h0 : rs ≠ []) (h : ∀ r ∈ rs, IsNm r.nm) : Txt.split (fenceS rs) "\n" = rs.map rowS := by
  unfold fenceS
  rw [nl_mk]
  refine split_join (by simpa using h0) fun s hs => ?_
  obtain ⟨r, hr, rfl⟩ := List.mem_map.mp hs
  exact row_free (h r hr)
theorem line_eq (r : Rw) : Str.empty ++ r.nm ++ " " ++ tS r.day ++ " " ++ tS r.post ++ " " ++ tS r.pace = rowS r := by
  refine cl_inj ?_
  unfold rowS
  have e0 : cl Str.empty = [] := rfl
  rw [cl_join]
  simp only [cl_app, e0, sp_cl, List.nil_append, List.map_cons, List.map_nil, jn, List.append_assoc, List.singleton_append, List.cons_append]
end My
namespace My
open PySem PySem.Spec PyProof.Rows L2 TL
/-! a row as data -/
def rowD (r : Rw) : PyData := .tuple [.str r.nm, .int r.day, .int r.post, .int r.pace]
theorem strOk_of {s : Str} (h : ∀ c ∈ cl s, c < 0x110000) : PyData.strOk s = true := by
  unfold PyData.strOk
  rw [← Array.all_toList, List.all_eq_true]
  exact fun c hc => decide_eq_true (h c hc)
theorem nm_ok {s : Str} (h : IsNm s) : PyData.strOk s = true := strOk_of fun c hc => by
  have := (h.2.2 c hc).2
  omega
theorem rowD_lay {r : Rw} (h : IsNm r.nm) : (rowD r).canLay0 = true := by
  show (PyData.strOk r.nm && (true && (true && (true && true)))) = true
  rw [nm_ok h]
  rfl
theorem rowD_shaped {r : Rw} (h : IsNm r.nm) : SeqAt.shaped (rowD r) = true := by
  unfold SeqAt.shaped
  rw [rowD_lay h, Bool.true_and]
  exact decide_eq_true (show max 0 (max 0 (max 0 (max 0 0))) + 1 ≤ 64 by decide)
theorem rowD_dp {K : PySem.W.Frag} {H : Hp} {p : Addr} {r : Rw} (h : H p = some (.tup (rowV r))) : Dp K H (.ref p) (rowD r) :=
  .tup (SqT.of h) (.cons (.str _) (.cons (.int _) (.cons (.int _) (.cons (.int _) .nil))))
theorem sum_bound {l : List Nat} {b : Nat} (h : ∀ x ∈ l, x ≤ b) : l.sum ≤ b * l.length := by
  induction l with
  | nil => simp
  | cons a r ih =>
    have h1 := ih fun x hx => h x (List.mem_cons_of_mem _ hx)
    have h2 := h a List.mem_cons_self
    rw [List.sum_cons, List.length_cons, Nat.mul_succ]
    omega
theorem fence_sum {rs : List Rw} (h : RowsOk rs) : ((rs.map rowS).map (·.length)).sum ≤ 5600 := by
  have h1 := sum_bound (l := (rs.map rowS).map (·.length)) (b := 140) fun x hx => by
    obtain ⟨s, hs, rfl⟩ := List.mem_map.mp hx
    obtain ⟨r, hr, rfl⟩ := List.mem_map.mp hs
    exact (row_len (h.2.2.1 r hr) (h.1 r hr)).2
  rw [List.length_map, List.length_map] at h1
  have := h.2.2.2
  omega
theorem fenceS_nil : fenceS [] = "" := by
  refine cl_inj ?_
  unfold fenceS
  rw [cl_join]
  decide
theorem fenceS_ne {rs : List Rw} (h : RowsOk rs) (h0 : rs ≠ []) : fenceS rs ≠ "" := fun e => by
  cases rs with
  | nil => exact h0 rfl
  | cons r rs =>
    have h1 := congrArg (fun s => (cl s).length) e
    have h2 := (row_len (h.2.2.1 r List.mem_cons_self) (h.1 r List.mem_cons_self)).1
    rw [← cl_len] at h2
    have e0 : (cl "").length = 0 := by decide
    have h1 : (cl (fenceS (r :: rs))).length = (cl "").length := h1
    rw [e0] at h1
    unfold fenceS at h1
    rw [cl_join, List.map_cons, List.map_cons] at h1
    cases hr : (rs.map rowS).map cl with
    | nil =>
      rw [hr] at h1
      have : (cl (rowS r)).length = 0 := h1
      omega
    | cons a t =>
      rw [hr] at h1
      have h1 : (cl (rowS r) ++ cl "\n" ++ jn (cl "\n") (a :: t)).length = 0 := h1
      rw [List.length_append, List.length_append] at h1
      omega
theorem jn_len {c : List Nat} (hc : c.length = 1) : ∀ l : List (List Nat), (jn c l).length ≤ (l.map List.length).sum + l.length
  | [] => Nat.zero_le _
  | [a] => by
    show a.length ≤ _
    simp
  | a :: b :: r => by
    have ih := jn_len hc (b :: r)
    show (a ++ c ++ jn c (b :: r)).length ≤ _
    rw [List.length_append, List.length_append, hc, List.map_cons, List.sum_cons, List.length_cons]
    omega
theorem fence_len {rs : List Rw} (h : RowsOk rs) : (fenceS rs).length ≤ 6000 := by
  rw [← cl_len]
  unfold fenceS
  rw [cl_join]
  have h1 := jn_len (c := cl "\n") (by decide) ((rs.map rowS).map cl)
  have h2 := fence_sum h
  have h3 := h.2.2.2
  have e : ((rs.map rowS).map cl).map List.length = (rs.map rowS).map (·.length) := by
    rw [List.map_map]
    exact List.map_congr_left fun s _ => cl_len s
  rw [e, List.length_map, List.length_map] at h1
  omega
end My

set_option maxRecDepth 100000
set_option maxHeartbeats 4000000
/-! what repr says of texts and rows -/
namespace My
open PySem PySem.Spec PyProof.Rows L2 TL
theorem log_i {i : Int} (h1 : -(10 ^ 70) ≤ i) (h2 : i ≤ 10 ^ 70) : i.natAbs.log2 < 1920 := by
  by_cases h : i.natAbs = 0
  · rw [h]
    decide
  · have e : (10 : Int) ^ 70 < 2 ^ 250 := by decide
    exact Nat.lt_trans ((Nat.log2_lt h).mpr (show i.natAbs < 2 ^ 250 by omega)) (by decide)
theorem jn_memb {c : List Nat} {x : Nat} : ∀ {l : List (List Nat)}, x ∈ jn c l → x ∈ c ∨ ∃ a ∈ l, x ∈ a
  | [], h => (List.not_mem_nil h).elim
  | [a], h => .inr ⟨a, List.mem_cons_self, h⟩
  | a :: b :: r, h => by
    have h : x ∈ a ++ c ++ jn c (b :: r) := h
    rcases List.mem_append.mp h with h | h
    · rcases List.mem_append.mp h with h | h
      · exact .inr ⟨a, List.mem_cons_self, h⟩
      · exact .inl h
    · rcases jn_memb h with h | ⟨y, hy, h⟩
      · exact .inl h
      · exact .inr ⟨y, List.mem_cons_of_mem _ hy, h⟩
theorem row_small {r : Rw} (h : IsNm r.nm) {c : Nat} (hc : c ∈ cl (rowS r)) : c < 128 := by
  unfold rowS at hc
  rw [cl_join] at hc
  rcases jn_memb hc with h1 | ⟨a, ha, h1⟩
  · rw [sp_cl] at h1
    have : c = 32 := by simpa using h1
    omega
  · obtain ⟨s, hs, rfl⟩ := List.mem_map.mp ha
    simp only [List.mem_cons, List.not_mem_nil, or_false] at hs
    rcases hs with rfl | rfl | rfl | rfl
    · have := (h.2.2 c h1).2
      omega
    · have := tS_mem h1
      omega
    · have := tS_mem h1
      omega
    · have := tS_mem h1
      omega
theorem fence_small {rs : List Rw} (h : ∀ r ∈ rs, IsNm r.nm) {c : Nat} (hc : c ∈ cl (fenceS rs)) : c < 128 := by
  unfold fenceS at hc
  rw [cl_join] at hc
  rcases jn_memb hc with h1 | ⟨a, ha, h1⟩
  · rw [nl_cl] at h1
    have : c = 10 := by simpa using h1
    omega
  · obtain ⟨s, hs, rfl⟩ := List.mem_map.mp ha
    obtain ⟨r, hr, rfl⟩ := List.mem_map.mp hs
    exact row_small (h r hr) h1
theorem repr_le {s : Str} (h : ∀ c ∈ cl s, c < 128) : (reprText s).length ≤ 10 * s.length + 2 := StrLaws.reprText_len s fun c hc => by
  have e : (16 : Nat) ^ 8 = 4294967296 := by decide
  have := h c hc
  omega
theorem rowD_show {r : Rw} (h : NumOk r) : (rowD r).showable = true := by
  obtain ⟨a1, a2, a3, a4, a5, a6, a7⟩ := h
  show (true && (decide (r.day.natAbs.log2 < 1920) && (decide (r.post.natAbs.log2 < 1920) && (decide (r.pace.natAbs.log2 < 1920) && true)))) = true
  rw [decide_eq_true (log_i (by omega) (by omega)), decide_eq_true (log_i (by omega) (by omega)), decide_eq_true (log_i (by omega) (by omega))]
  rfl
theorem rowD_len {r : Rw} (h : IsNm r.nm) (hn : NumOk r) : (rowD r).shown.length ≤ 1000 := by
  obtain ⟨a1, a2, a3, a4, a5, a6, a7⟩ := hn
  have l1 := tS_small (i := r.day) (k := 31) (by omega) (by omega) (by decide)
  have l2 := tS_small (i := r.post) (k := 31) (by omega) (by omega) (by decide)
  have l3 := tS_small (i := r.pace) (k := 31) (by omega) (by omega) (by decide)
  have l0 := repr_le (s := r.nm) fun c hc => by have := (h.2.2 c hc).2; omega
  have l4 := h.2.1
  have e : (rowD r).shown = ("(" : Str) ++ Str.join ", " [reprText r.nm, tS r.day, tS r.post, tS r.pace] ++ (")" : String) := rfl
  have e2 : Str.join ", " [reprText r.nm, tS r.day, tS r.post, tS r.pace] = reprText r.nm ++ ", " ++ (tS r.day ++ ", " ++ (tS r.post ++ ", " ++ tS r.pace)) := rfl
  rw [e, e2]
  simp only [PySem.Str.length_append]
  have e3 : ("(" : Str).length = 1 := by decide
  have e4 : (", " : Str).length = 2 := by decide
  have e5 : (Str.ofString ")").length = 1 := by decide
  rw [e3, e4, e5]
  omega
theorem rowD_dict (r : Rw) : (rowD r).hasDict = false := rfl
/-- the texts at the ends of the bounds -/
def endA : Rw := ⟨"a", 0, -(10 ^ 30), 10 ^ 18⟩
def endB : Rw := ⟨"b", 10 ^ 30, 0, -(10 ^ 18)⟩
theorem ends_ok : RowsOk [endA, endB] := by
  refine ⟨fun r hr => ?_, by decide +kernel, fun r hr => ?_, by decide⟩
  · simp only [List.mem_cons, List.not_mem_nil, or_false] at hr
    rcases hr with rfl | rfl
    · exact ⟨by decide, by decide, by decide, by decide, by decide, by decide, by decide⟩
    · exact ⟨by decide, by decide, by decide, by decide, by decide, by decide, by decide⟩
  · rw [← nmB_iff]
    simp only [List.mem_cons, List.not_mem_nil, or_false] at hr
    rcases hr with rfl | rfl <;> decide +kernel
section
variable {K : PySem.W.Frag} {H : Hp} {Q : VK}
theorem r_reprS {z : Str} (h : (reprText z).length ≤ sizeLine) (q : Q (.str (reprText z)) H) : rReprD K [.str z] H Q := ⟨_, .str z, rfl, .str z, rfl, rfl, Nat.zero_le _, h, q⟩
theorem r_reprRow {p : Addr} {r : Rw} (hp : H p = some (.tup (rowV r))) (h : IsNm r.nm) (hn : NumOk r) (q : Q (.str (rowD r).shown) H) : rReprD K [.ref p] H Q :=
  ⟨_, rowD r, rfl, rowD_dp hp, rowD_show hn, rowD_dict r, (show max 0 (max 0 (max 0 (max 0 0))) + 1 ≤ 40 by decide), Nat.le_trans (rowD_len h hn) (show 1000 ≤ 16777216 by decide), q⟩
theorem strs_lay : ∀ {l : List Str}, (∀ x ∈ l, IsNm x) → PyData.canLayAll0 (l.map PyData.str) = true
  | [], _ => rfl
  | a :: r, h => by
    show (PyData.strOk a && PyData.canLayAll0 (r.map PyData.str)) = true
    rw [nm_ok (h a List.mem_cons_self), strs_lay fun x hx => h x (List.mem_cons_of_mem _ hx)]
    rfl
theorem strs_depth : ∀ l : List Str, PyData.depthAll (l.map PyData.str) = 0
  | [] => rfl
  | a :: r => by
    show max 0 (PyData.depthAll (r.map PyData.str)) = 0
    rw [strs_depth r]
    rfl
theorem strs_dp : ∀ l : List Str, DpAll K H (l.map V.str) (l.map PyData.str)
  | [] => .nil
  | a :: r => .cons (.str a) (strs_dp r)
/-- two tuples of the same names -/
theorem r_neNames {p q : Addr} {l : List Str} (h : ∀ x ∈ l, IsNm x) (hp : H p = some (.tup (l.map V.str))) (hq : H q = some (.tup (l.map V.str))) (k : Q (.bl false) H) : rNeU K (.ref p) (.ref q) H Q := by
  have hlay : (PyData.tuple (l.map PyData.str)).canLay0 = true := strs_lay h
  have sh : SeqAt.shaped (.tuple (l.map PyData.str)) = true := by
    unfold SeqAt.shaped
    rw [hlay, Bool.true_and]
    refine decide_eq_true ?_
    show PyData.depthAll (l.map PyData.str) + 1 ≤ 64
    rw [strs_depth]
    decide
  refine .inr ⟨_, _, .tup (SqT.of hp) (strs_dp l), .tup (SqT.of hq) (strs_dp l), sh, sh, ?_⟩
  rw [SeqAt.eqv_refl _ hlay]
  exact k
end
def zS (n : Nat) : Str := ⟨(List.replicate n (Str.ofString "0").cps).foldl (· ++ ·) #[]⟩
theorem r_zeros {n : Int} {H : Hp} {Q : VK} (h1 : 2 ≤ n) (h2 : n ≤ 40) (hz : (zS n.toNat).length ≤ sizeLine) (q : Q (.str (zS n.toNat)) H) : rMulU (.str (Str.ofString "0")) (.int n) H Q := .inr ⟨_, n, rfl, rfl, h1, by omega, by decide, by decide, hz, q⟩
theorem ends_text : Str.ofString "a 0 -" ++ Str.ofString "1" ++ zS 30 ++ Str.ofString " 1" ++ zS 18 ++ Str.ofString "\nb 1" ++ zS 30 ++ Str.ofString " 0 -1" ++ zS 18 = fenceS [endA, endB] := by decide +kernel
end My

set_option maxRecDepth 100000
set_option maxHeartbeats 0
namespace Tx
open PySem PySem.Spec PyProof.Rows L2 He5
def topS (i : Nat) : Stmt := PySem.Challenge.pw_paintposts_k83_whole_texts_of_all_fences.main.body.getD i (.Pass ⟨0, 0, 0, 0⟩)
abbrev s_is_integer : Stmt := topS 12
abbrev N_is_integer : List Str := ["value"]
theorem sc_is_integer : FnScope N_is_integer ["value"] (defScope s_is_integer) := ⟨rfl, rfl, rfl, by decide +kernel, rfl, by decide +kernel, by decide +kernel⟩

abbrev s_is_between : Stmt := topS 13
abbrev N_is_between : List Str := ["value", "low", "high"]
theorem sc_is_between : FnScope N_is_between ["value", "low", "high"] (defScope s_is_between) := ⟨rfl, rfl, rfl, by decide +kernel, rfl, by decide +kernel, by decide +kernel⟩

abbrev s_is_name : Stmt := topS 16
abbrev N_is_name : List Str := ["value", "letter"]
theorem sc_is_name : FnScope N_is_name ["value"] (defScope s_is_name) := ⟨rfl, rfl, rfl, by decide +kernel, rfl, by decide +kernel, by decide +kernel⟩

abbrev s_integer_in : Stmt := topS 20
abbrev N_integer_in : List Str := ["word", "digits", "number", "digit"]
theorem sc_integer_in : FnScope N_integer_in ["word", "digits"] (defScope s_integer_in) := ⟨rfl, rfl, rfl, by decide +kernel, rfl, by decide +kernel, by decide +kernel⟩

abbrev s_painter_line : Stmt := topS 21
abbrev N_painter_line : List Str := ["name", "day", "post", "stride"]
theorem sc_painter_line : FnScope N_painter_line ["name", "day", "post", "stride"] (defScope s_painter_line) := ⟨rfl, rfl, rfl, by decide +kernel, rfl, by decide +kernel, by decide +kernel⟩

abbrev s_painter_parts : Stmt := topS 22
abbrev N_painter_parts : List Str := ["line", "name", "words", "numbers", "word"]
theorem sc_painter_parts : FnScope N_painter_parts ["line"] (defScope s_painter_parts) := ⟨rfl, rfl, rfl, by decide +kernel, rfl, by decide +kernel, by decide +kernel⟩

abbrev s_Painter_init : Stmt := inClass (topS 24) 3
abbrev N_Painter_init : List Str := ["self", "name", "day", "post", "stride"]
theorem sc_Painter_init : FnScope N_Painter_init ["self", "name", "day", "post", "stride"] (defScope s_Painter_init) := ⟨rfl, rfl, rfl, by decide +kernel, rfl, by decide +kernel, by decide +kernel⟩

abbrev s_Painter_read : Stmt := inClass (topS 24) 5
abbrev N_Painter_read : List Str := ["cls", "text", "parts"]
theorem sc_Painter_read : FnScope N_Painter_read ["cls", "text"] (defScope s_Painter_read) := ⟨rfl, rfl, rfl, by decide +kernel, rfl, by decide +kernel, by decide +kernel⟩

abbrev s_Painter_name : Stmt := inClass (topS 24) 6
abbrev N_Painter_name : List Str := ["self"]
theorem sc_Painter_name : FnScope N_Painter_name ["self"] (defScope s_Painter_name) := ⟨rfl, rfl, rfl, by decide +kernel, rfl, by decide +kernel, by decide +kernel⟩

abbrev s_Painter_day : Stmt := inClass (topS 24) 7
abbrev N_Painter_day : List Str := ["self"]
theorem sc_Painter_day : FnScope N_Painter_day ["self"] (defScope s_Painter_day) := ⟨rfl, rfl, rfl, by decide +kernel, rfl, by decide +kernel, by decide +kernel⟩

abbrev s_Painter_post : Stmt := inClass (topS 24) 8
abbrev N_Painter_post : List Str := ["self"]
theorem sc_Painter_post : FnScope N_Painter_post ["self"] (defScope s_Painter_post) := ⟨rfl, rfl, rfl, by decide +kernel, rfl, by decide +kernel, by decide +kernel⟩

abbrev s_Painter_stride : Stmt := inClass (topS 24) 9
abbrev N_Painter_stride : List Str := ["self"]
theorem sc_Painter_stride : FnScope N_Painter_stride ["self"] (defScope s_Painter_stride) := ⟨rfl, rfl, rfl, by decide +kernel, rfl, by decide +kernel, by decide +kernel⟩

abbrev s_Painter_text : Stmt := inClass (topS 24) 11
abbrev N_Painter_text : List Str := ["self"]
theorem sc_Painter_text : FnScope N_Painter_text ["self"] (defScope s_Painter_text) := ⟨rfl, rfl, rfl, by decide +kernel, rfl, by decide +kernel, by decide +kernel⟩

abbrev s_Painter_eq : Stmt := inClass (topS 24) 17
abbrev N_Painter_eq : List Str := ["self", "other"]
theorem sc_Painter_eq : FnScope N_Painter_eq ["self", "other"] (defScope s_Painter_eq) := ⟨rfl, rfl, rfl, by decide +kernel, rfl, by decide +kernel, by decide +kernel⟩

abbrev s_Fence_init : Stmt := inClass (topS 26) 0
abbrev N_Fence_init : List Str := ["self", "painters", "index", "painter", "names", "name"]
theorem sc_Fence_init : FnScope N_Fence_init ["self", "painters"] (defScope s_Fence_init) := ⟨rfl, rfl, rfl, by decide +kernel, rfl, by decide +kernel, by decide +kernel⟩

abbrev s_Fence_read : Stmt := inClass (topS 26) 1
abbrev N_Fence_read : List Str := ["cls", "text", "found", "index", "line"]
theorem sc_Fence_read : FnScope N_Fence_read ["cls", "text"] (defScope s_Fence_read) := ⟨rfl, rfl, rfl, by decide +kernel, rfl, by decide +kernel, by decide +kernel⟩

abbrev s_Fence_names : Stmt := inClass (topS 26) 3
abbrev N_Fence_names : List Str := ["self"]
theorem sc_Fence_names : FnScope N_Fence_names ["self"] (defScope s_Fence_names) := ⟨rfl, rfl, rfl, by decide +kernel, rfl, by decide +kernel, by decide +kernel⟩

abbrev s_Fence_text : Stmt := inClass (topS 26) 4
abbrev N_Fence_text : List Str := ["self", "painter"]
theorem sc_Fence_text : FnScope N_Fence_text ["self"] (defScope s_Fence_text) := ⟨rfl, rfl, rfl, by decide +kernel, rfl, by decide +kernel, by decide +kernel⟩

abbrev s_Fence_need_name : Stmt := inClass (topS 26) 5
abbrev N_Fence_need_name : List Str := ["self", "value"]
theorem sc_Fence_need_name : FnScope N_Fence_need_name ["self", "value"] (defScope s_Fence_need_name) := ⟨rfl, rfl, rfl, by decide +kernel, rfl, by decide +kernel, by decide +kernel⟩

abbrev s_Fence_contains : Stmt := inClass (topS 26) 8
abbrev N_Fence_contains : List Str := ["self", "name"]
theorem sc_Fence_contains : FnScope N_Fence_contains ["self", "name"] (defScope s_Fence_contains) := ⟨rfl, rfl, rfl, by decide +kernel, rfl, by decide +kernel, by decide +kernel⟩

abbrev s_Fence_getitem : Stmt := inClass (topS 26) 9
abbrev N_Fence_getitem : List Str := ["self", "name"]
theorem sc_Fence_getitem : FnScope N_Fence_getitem ["self", "name"] (defScope s_Fence_getitem) := ⟨rfl, rfl, rfl, by decide +kernel, rfl, by decide +kernel, by decide +kernel⟩

abbrev s_Fence_eq : Stmt := inClass (topS 26) 11
abbrev N_Fence_eq : List Str := ["self", "other"]
theorem sc_Fence_eq : FnScope N_Fence_eq ["self", "other"] (defScope s_Fence_eq) := ⟨rfl, rfl, rfl, by decide +kernel, rfl, by decide +kernel, by decide +kernel⟩

abbrev s_Fence_add : Stmt := inClass (topS 26) 12
abbrev N_Fence_add : List Str := ["self", "painter"]
theorem sc_Fence_add : FnScope N_Fence_add ["self", "painter"] (defScope s_Fence_add) := ⟨rfl, rfl, rfl, by decide +kernel, rfl, by decide +kernel, by decide +kernel⟩

abbrev s_Lpen : Stmt := topS 28
abbrev N_Lpen : List Str := ["_law_script"]
theorem sc_Lpen : FnScope N_Lpen ["_law_script"] (defScope s_Lpen) := ⟨rfl, rfl, rfl, by decide +kernel, rfl, by decide +kernel, by decide +kernel⟩

abbrev s_Ldraw : Stmt := topS 29
abbrev N_Ldraw : List Str := ["_law_pen_here", "_law_many", "_law_digit", "_law_site", "_law_cell", "_law_mixed"]
theorem sc_Ldraw : FnScope N_Ldraw ["_law_pen_here", "_law_many"] (defScope s_Ldraw) := ⟨rfl, rfl, rfl, by decide +kernel, rfl, by decide +kernel, by decide +kernel⟩

abbrev s_Lpick : Stmt := topS 30
abbrev N_Lpick : List Str := ["_law_pen_here", "_law_options"]
theorem sc_Lpick : FnScope N_Lpick ["_law_pen_here", "_law_options"] (defScope s_Lpick) := ⟨rfl, rfl, rfl, by decide +kernel, rfl, by decide +kernel, by decide +kernel⟩

abbrev s_Laround : Stmt := topS 31
abbrev N_Laround : List Str := ["_law_pen_here", "_law_most"]
theorem sc_Laround : FnScope N_Laround ["_law_pen_here", "_law_most"] (defScope s_Laround) := ⟨rfl, rfl, rfl, by decide +kernel, rfl, by decide +kernel, by decide +kernel⟩

abbrev s_Lpower : Stmt := topS 32
abbrev N_Lpower : List Str := ["_law_figures", "_law_found", "_law_k"]
theorem sc_Lpower : FnScope N_Lpower ["_law_figures"] (defScope s_Lpower) := ⟨rfl, rfl, rfl, by decide +kernel, rfl, by decide +kernel, by decide +kernel⟩

abbrev s_Lgreat : Stmt := topS 33
abbrev N_Lgreat : List Str := ["_law_pen_here", "_law_figures", "_law_most", "_law_some"]
theorem sc_Lgreat : FnScope N_Lgreat ["_law_pen_here", "_law_figures"] (defScope s_Lgreat) := ⟨rfl, rfl, rfl, by decide +kernel, rfl, by decide +kernel, by decide +kernel⟩

abbrev s_Lnames : Stmt := topS 34
abbrev N_Lnames : List Str := ["_law_pen_here", "_law_many", "_law_letters", "_law_stem", "_law_k", "_law_front", "_law_found", "_law_step", "_law_own", "_law_tail"]
theorem sc_Lnames : FnScope N_Lnames ["_law_pen_here", "_law_many"] (defScope s_Lnames) := ⟨rfl, rfl, rfl, by decide +kernel, rfl, by decide +kernel, by decide +kernel⟩

abbrev s_Lsmall : Stmt := topS 35
abbrev N_Lsmall : List Str := ["_law_pen_here", "_law_most", "_law_found", "_law_many", "_law_label", "_law_pace", "_law_date"]
theorem sc_Lsmall : FnScope N_Lsmall ["_law_pen_here", "_law_most"] (defScope s_Lsmall) := ⟨rfl, rfl, rfl, by decide +kernel, rfl, by decide +kernel, by decide +kernel⟩

abbrev s_Laimed : Stmt := topS 36
abbrev N_Laimed : List Str := ["_law_pen_here", "_law_most", "_law_found", "_law_many", "_law_hubs", "_law_k", "_law_spot", "_law_lot", "_law_label", "_law_date", "_law_some", "_law_pace", "_law_steps"]
theorem sc_Laimed : FnScope N_Laimed ["_law_pen_here", "_law_most"] (defScope s_Laimed) := ⟨rfl, rfl, rfl, by decide +kernel, rfl, by decide +kernel, by decide +kernel⟩

abbrev s_Llined : Stmt := topS 37
abbrev N_Llined : List Str := ["_law_pen_here", "_law_most", "_law_found", "_law_many", "_law_lot", "_law_base", "_law_label", "_law_pace", "_law_spot", "_law_date"]
theorem sc_Llined : FnScope N_Llined ["_law_pen_here", "_law_most"] (defScope s_Llined) := ⟨rfl, rfl, rfl, by decide +kernel, rfl, by decide +kernel, by decide +kernel⟩

abbrev s_Lmade : Stmt := topS 38
abbrev N_Lmade : List Str := ["_law_painters_here", "_law_found", "_law_painter"]
theorem sc_Lmade : FnScope N_Lmade ["_law_painters_here"] (defScope s_Lmade) := ⟨rfl, rfl, rfl, by decide +kernel, rfl, by decide +kernel, by decide +kernel⟩

abbrev s_Lline : Stmt := topS 39
abbrev N_Lline : List Str := ["_law_painter", "_law_part"]
theorem sc_Lline : FnScope N_Lline ["_law_painter"] (defScope s_Lline) := ⟨rfl, rfl, rfl, by decide +kernel, rfl, by decide +kernel, by decide +kernel⟩

abbrev s_Lfence_text : Stmt := topS 40
abbrev N_Lfence_text : List Str := ["_law_painters_here", "_law_painter"]
theorem sc_Lfence_text : FnScope N_Lfence_text ["_law_painters_here"] (defScope s_Lfence_text) := ⟨rfl, rfl, rfl, by decide +kernel, rfl, by decide +kernel, by decide +kernel⟩

abbrev s_Lpainters : Stmt := topS 41
abbrev N_Lpainters : List Str := ["_law_pen_here", "_law_way"]
theorem sc_Lpainters : FnScope N_Lpainters ["_law_pen_here"] (defScope s_Lpainters) := ⟨rfl, rfl, rfl, by decide +kernel, rfl, by decide +kernel, by decide +kernel⟩

abbrev s_law : Stmt := topS 42
abbrev N_law : List Str := ["_law_script", "_law_pen_here", "_law_turn", "_law_some", "_law_made_here", "_law_due", "_law_again", "_law_part", "_law_one", "_law_ends"]
theorem sc_law : FnScope N_law ["_law_script"] (defScope s_law) := ⟨rfl, rfl, rfl, by decide +kernel, rfl, by decide +kernel, by decide +kernel⟩

def a_is_integer (K : PySem.W.Frag) : Addr := (fun K => He.ga K "is_integer") K
def dA_is_integer : DefA := ⟨a_is_integer, "is_integer", "is_integer", defArgs s_is_integer, defBody s_is_integer, defScope s_is_integer, [], []⟩
abbrev FnP_is_integer (K : PySem.W.Frag) : Prop := ∃ fd, FunD K "is_integer" "is_integer" (defArgs s_is_integer) (defBody s_is_integer) (defScope s_is_integer) [] [] (a_is_integer K) fd
def a_is_between (K : PySem.W.Frag) : Addr := (fun K => He.ga K "is_between") K
def dA_is_between : DefA := ⟨a_is_between, "is_between", "is_between", defArgs s_is_between, defBody s_is_between, defScope s_is_between, [], []⟩
abbrev FnP_is_between (K : PySem.W.Frag) : Prop := ∃ fd, FunD K "is_between" "is_between" (defArgs s_is_between) (defBody s_is_between) (defScope s_is_between) [] [] (a_is_between K) fd
def a_is_name (K : PySem.W.Frag) : Addr := (fun K => He.ga K "is_name") K
def dA_is_name : DefA := ⟨a_is_name, "is_name", "is_name", defArgs s_is_name, defBody s_is_name, defScope s_is_name, [], []⟩
abbrev FnP_is_name (K : PySem.W.Frag) : Prop := ∃ fd, FunD K "is_name" "is_name" (defArgs s_is_name) (defBody s_is_name) (defScope s_is_name) [] [] (a_is_name K) fd
def a_integer_in (K : PySem.W.Frag) : Addr := (fun K => He.ga K "integer_in") K
def dA_integer_in : DefA := ⟨a_integer_in, "integer_in", "integer_in", defArgs s_integer_in, defBody s_integer_in, defScope s_integer_in, [.int 80], []⟩
abbrev FnP_integer_in (K : PySem.W.Frag) : Prop := ∃ fd, FunD K "integer_in" "integer_in" (defArgs s_integer_in) (defBody s_integer_in) (defScope s_integer_in) [V.int 80] [] (a_integer_in K) fd
def a_painter_line (K : PySem.W.Frag) : Addr := (fun K => He.ga K "painter_line") K
def dA_painter_line : DefA := ⟨a_painter_line, "painter_line", "painter_line", defArgs s_painter_line, defBody s_painter_line, defScope s_painter_line, [], []⟩
abbrev FnP_painter_line (K : PySem.W.Frag) : Prop := ∃ fd, FunD K "painter_line" "painter_line" (defArgs s_painter_line) (defBody s_painter_line) (defScope s_painter_line) [] [] (a_painter_line K) fd
def a_painter_parts (K : PySem.W.Frag) : Addr := (fun K => He.ga K "painter_parts") K
def dA_painter_parts : DefA := ⟨a_painter_parts, "painter_parts", "painter_parts", defArgs s_painter_parts, defBody s_painter_parts, defScope s_painter_parts, [], []⟩
abbrev FnP_painter_parts (K : PySem.W.Frag) : Prop := ∃ fd, FunD K "painter_parts" "painter_parts" (defArgs s_painter_parts) (defBody s_painter_parts) (defScope s_painter_parts) [] [] (a_painter_parts K) fd
def a_Painter_init (K : PySem.W.Frag) : Addr := (fun K => He.ma K (He.ga K "Painter") "__init__") K
def dA_Painter_init : DefA := ⟨a_Painter_init, "__init__", "Painter.__init__", defArgs s_Painter_init, defBody s_Painter_init, defScope s_Painter_init, [], []⟩
abbrev FnP_Painter_init (K : PySem.W.Frag) : Prop := ∃ fd, FunD K "__init__" "Painter.__init__" (defArgs s_Painter_init) (defBody s_Painter_init) (defScope s_Painter_init) [] [] (a_Painter_init K) fd
def a_Painter_read (K : PySem.W.Frag) : Addr := (fun K => He5.wf K (He.ga K "Painter") "classmethod" "read") K
def dA_Painter_read : DefA := ⟨a_Painter_read, "read", "Painter.read", defArgs s_Painter_read, defBody s_Painter_read, defScope s_Painter_read, [], []⟩
abbrev FnP_Painter_read (K : PySem.W.Frag) : Prop := ∃ fd, FunD K "read" "Painter.read" (defArgs s_Painter_read) (defBody s_Painter_read) (defScope s_Painter_read) [] [] (a_Painter_read K) fd
def a_Painter_name (K : PySem.W.Frag) : Addr := (fun K => Hk.pgA K (He.ga K "Painter") "name") K
def dA_Painter_name : DefA := ⟨a_Painter_name, "name", "Painter.name", defArgs s_Painter_name, defBody s_Painter_name, defScope s_Painter_name, [], []⟩
abbrev FnP_Painter_name (K : PySem.W.Frag) : Prop := ∃ fd, FunD K "name" "Painter.name" (defArgs s_Painter_name) (defBody s_Painter_name) (defScope s_Painter_name) [] [] (a_Painter_name K) fd
def a_Painter_day (K : PySem.W.Frag) : Addr := (fun K => Hk.pgA K (He.ga K "Painter") "day") K
def dA_Painter_day : DefA := ⟨a_Painter_day, "day", "Painter.day", defArgs s_Painter_day, defBody s_Painter_day, defScope s_Painter_day, [], []⟩
abbrev FnP_Painter_day (K : PySem.W.Frag) : Prop := ∃ fd, FunD K "day" "Painter.day" (defArgs s_Painter_day) (defBody s_Painter_day) (defScope s_Painter_day) [] [] (a_Painter_day K) fd
def a_Painter_post (K : PySem.W.Frag) : Addr := (fun K => Hk.pgA K (He.ga K "Painter") "post") K
def dA_Painter_post : DefA := ⟨a_Painter_post, "post", "Painter.post", defArgs s_Painter_post, defBody s_Painter_post, defScope s_Painter_post, [], []⟩
abbrev FnP_Painter_post (K : PySem.W.Frag) : Prop := ∃ fd, FunD K "post" "Painter.post" (defArgs s_Painter_post) (defBody s_Painter_post) (defScope s_Painter_post) [] [] (a_Painter_post K) fd
def a_Painter_stride (K : PySem.W.Frag) : Addr := (fun K => Hk.pgA K (He.ga K "Painter") "stride") K
def dA_Painter_stride : DefA := ⟨a_Painter_stride, "stride", "Painter.stride", defArgs s_Painter_stride, defBody s_Painter_stride, defScope s_Painter_stride, [], []⟩
abbrev FnP_Painter_stride (K : PySem.W.Frag) : Prop := ∃ fd, FunD K "stride" "Painter.stride" (defArgs s_Painter_stride) (defBody s_Painter_stride) (defScope s_Painter_stride) [] [] (a_Painter_stride K) fd
def a_Painter_text (K : PySem.W.Frag) : Addr := (fun K => Hk.pgA K (He.ga K "Painter") "text") K
def dA_Painter_text : DefA := ⟨a_Painter_text, "text", "Painter.text", defArgs s_Painter_text, defBody s_Painter_text, defScope s_Painter_text, [], []⟩
abbrev FnP_Painter_text (K : PySem.W.Frag) : Prop := ∃ fd, FunD K "text" "Painter.text" (defArgs s_Painter_text) (defBody s_Painter_text) (defScope s_Painter_text) [] [] (a_Painter_text K) fd
def a_Painter_eq (K : PySem.W.Frag) : Addr := (fun K => He.ma K (He.ga K "Painter") "__eq__") K
def dA_Painter_eq : DefA := ⟨a_Painter_eq, "__eq__", "Painter.__eq__", defArgs s_Painter_eq, defBody s_Painter_eq, defScope s_Painter_eq, [], []⟩
abbrev FnP_Painter_eq (K : PySem.W.Frag) : Prop := ∃ fd, FunD K "__eq__" "Painter.__eq__" (defArgs s_Painter_eq) (defBody s_Painter_eq) (defScope s_Painter_eq) [] [] (a_Painter_eq K) fd
def a_Fence_init (K : PySem.W.Frag) : Addr := (fun K => He.ma K (He.ga K "Fence") "__init__") K
def dA_Fence_init : DefA := ⟨a_Fence_init, "__init__", "Fence.__init__", defArgs s_Fence_init, defBody s_Fence_init, defScope s_Fence_init, [], []⟩
abbrev FnP_Fence_init (K : PySem.W.Frag) : Prop := ∃ fd, FunD K "__init__" "Fence.__init__" (defArgs s_Fence_init) (defBody s_Fence_init) (defScope s_Fence_init) [] [] (a_Fence_init K) fd
def a_Fence_read (K : PySem.W.Frag) : Addr := (fun K => He5.wf K (He.ga K "Fence") "classmethod" "read") K
def dA_Fence_read : DefA := ⟨a_Fence_read, "read", "Fence.read", defArgs s_Fence_read, defBody s_Fence_read, defScope s_Fence_read, [], []⟩
abbrev FnP_Fence_read (K : PySem.W.Frag) : Prop := ∃ fd, FunD K "read" "Fence.read" (defArgs s_Fence_read) (defBody s_Fence_read) (defScope s_Fence_read) [] [] (a_Fence_read K) fd
def a_Fence_names (K : PySem.W.Frag) : Addr := (fun K => Hk.pgA K (He.ga K "Fence") "names") K
def dA_Fence_names : DefA := ⟨a_Fence_names, "names", "Fence.names", defArgs s_Fence_names, defBody s_Fence_names, defScope s_Fence_names, [], []⟩
abbrev FnP_Fence_names (K : PySem.W.Frag) : Prop := ∃ fd, FunD K "names" "Fence.names" (defArgs s_Fence_names) (defBody s_Fence_names) (defScope s_Fence_names) [] [] (a_Fence_names K) fd
def a_Fence_text (K : PySem.W.Frag) : Addr := (fun K => Hk.pgA K (He.ga K "Fence") "text") K
def dA_Fence_text : DefA := ⟨a_Fence_text, "text", "Fence.text", defArgs s_Fence_text, defBody s_Fence_text, defScope s_Fence_text, [], []⟩
abbrev FnP_Fence_text (K : PySem.W.Frag) : Prop := ∃ fd, FunD K "text" "Fence.text" (defArgs s_Fence_text) (defBody s_Fence_text) (defScope s_Fence_text) [] [] (a_Fence_text K) fd
def a_Fence_need_name (K : PySem.W.Frag) : Addr := (fun K => He.ma K (He.ga K "Fence") "need_name") K
def dA_Fence_need_name : DefA := ⟨a_Fence_need_name, "need_name", "Fence.need_name", defArgs s_Fence_need_name, defBody s_Fence_need_name, defScope s_Fence_need_name, [], []⟩
abbrev FnP_Fence_need_name (K : PySem.W.Frag) : Prop := ∃ fd, FunD K "need_name" "Fence.need_name" (defArgs s_Fence_need_name) (defBody s_Fence_need_name) (defScope s_Fence_need_name) [] [] (a_Fence_need_name K) fd
def a_Fence_contains (K : PySem.W.Frag) : Addr := (fun K => He.ma K (He.ga K "Fence") "__contains__") K
def dA_Fence_contains : DefA := ⟨a_Fence_contains, "__contains__", "Fence.__contains__", defArgs s_Fence_contains, defBody s_Fence_contains, defScope s_Fence_contains, [], []⟩
abbrev FnP_Fence_contains (K : PySem.W.Frag) : Prop := ∃ fd, FunD K "__contains__" "Fence.__contains__" (defArgs s_Fence_contains) (defBody s_Fence_contains) (defScope s_Fence_contains) [] [] (a_Fence_contains K) fd
def a_Fence_getitem (K : PySem.W.Frag) : Addr := (fun K => He.ma K (He.ga K "Fence") "__getitem__") K
def dA_Fence_getitem : DefA := ⟨a_Fence_getitem, "__getitem__", "Fence.__getitem__", defArgs s_Fence_getitem, defBody s_Fence_getitem, defScope s_Fence_getitem, [], []⟩
abbrev FnP_Fence_getitem (K : PySem.W.Frag) : Prop := ∃ fd, FunD K "__getitem__" "Fence.__getitem__" (defArgs s_Fence_getitem) (defBody s_Fence_getitem) (defScope s_Fence_getitem) [] [] (a_Fence_getitem K) fd
def a_Fence_eq (K : PySem.W.Frag) : Addr := (fun K => He.ma K (He.ga K "Fence") "__eq__") K
def dA_Fence_eq : DefA := ⟨a_Fence_eq, "__eq__", "Fence.__eq__", defArgs s_Fence_eq, defBody s_Fence_eq, defScope s_Fence_eq, [], []⟩
abbrev FnP_Fence_eq (K : PySem.W.Frag) : Prop := ∃ fd, FunD K "__eq__" "Fence.__eq__" (defArgs s_Fence_eq) (defBody s_Fence_eq) (defScope s_Fence_eq) [] [] (a_Fence_eq K) fd
def a_Fence_add (K : PySem.W.Frag) : Addr := (fun K => He.ma K (He.ga K "Fence") "__add__") K
def dA_Fence_add : DefA := ⟨a_Fence_add, "__add__", "Fence.__add__", defArgs s_Fence_add, defBody s_Fence_add, defScope s_Fence_add, [], []⟩
abbrev FnP_Fence_add (K : PySem.W.Frag) : Prop := ∃ fd, FunD K "__add__" "Fence.__add__" (defArgs s_Fence_add) (defBody s_Fence_add) (defScope s_Fence_add) [] [] (a_Fence_add K) fd
def a_Lpen (K : PySem.W.Frag) : Addr := (fun K => He.ga K "_law_pen") K
def dA_Lpen : DefA := ⟨a_Lpen, "_law_pen", "_law_pen", defArgs s_Lpen, defBody s_Lpen, defScope s_Lpen, [], []⟩
abbrev FnP_Lpen (K : PySem.W.Frag) : Prop := ∃ fd, FunD K "_law_pen" "_law_pen" (defArgs s_Lpen) (defBody s_Lpen) (defScope s_Lpen) [] [] (a_Lpen K) fd
def a_Ldraw (K : PySem.W.Frag) : Addr := (fun K => He.ga K "_law_draw") K
def dA_Ldraw : DefA := ⟨a_Ldraw, "_law_draw", "_law_draw", defArgs s_Ldraw, defBody s_Ldraw, defScope s_Ldraw, [], []⟩
abbrev FnP_Ldraw (K : PySem.W.Frag) : Prop := ∃ fd, FunD K "_law_draw" "_law_draw" (defArgs s_Ldraw) (defBody s_Ldraw) (defScope s_Ldraw) [] [] (a_Ldraw K) fd
def a_Lpick (K : PySem.W.Frag) : Addr := (fun K => He.ga K "_law_pick") K
def dA_Lpick : DefA := ⟨a_Lpick, "_law_pick", "_law_pick", defArgs s_Lpick, defBody s_Lpick, defScope s_Lpick, [], []⟩
abbrev FnP_Lpick (K : PySem.W.Frag) : Prop := ∃ fd, FunD K "_law_pick" "_law_pick" (defArgs s_Lpick) (defBody s_Lpick) (defScope s_Lpick) [] [] (a_Lpick K) fd
def a_Laround (K : PySem.W.Frag) : Addr := (fun K => He.ga K "_law_around") K
def dA_Laround : DefA := ⟨a_Laround, "_law_around", "_law_around", defArgs s_Laround, defBody s_Laround, defScope s_Laround, [], []⟩
abbrev FnP_Laround (K : PySem.W.Frag) : Prop := ∃ fd, FunD K "_law_around" "_law_around" (defArgs s_Laround) (defBody s_Laround) (defScope s_Laround) [] [] (a_Laround K) fd
def a_Lpower (K : PySem.W.Frag) : Addr := (fun K => He.ga K "_law_power") K
def dA_Lpower : DefA := ⟨a_Lpower, "_law_power", "_law_power", defArgs s_Lpower, defBody s_Lpower, defScope s_Lpower, [], []⟩
abbrev FnP_Lpower (K : PySem.W.Frag) : Prop := ∃ fd, FunD K "_law_power" "_law_power" (defArgs s_Lpower) (defBody s_Lpower) (defScope s_Lpower) [] [] (a_Lpower K) fd
def a_Lgreat (K : PySem.W.Frag) : Addr := (fun K => He.ga K "_law_great") K
def dA_Lgreat : DefA := ⟨a_Lgreat, "_law_great", "_law_great", defArgs s_Lgreat, defBody s_Lgreat, defScope s_Lgreat, [], []⟩
abbrev FnP_Lgreat (K : PySem.W.Frag) : Prop := ∃ fd, FunD K "_law_great" "_law_great" (defArgs s_Lgreat) (defBody s_Lgreat) (defScope s_Lgreat) [] [] (a_Lgreat K) fd
def a_Lnames (K : PySem.W.Frag) : Addr := (fun K => He.ga K "_law_names") K
def dA_Lnames : DefA := ⟨a_Lnames, "_law_names", "_law_names", defArgs s_Lnames, defBody s_Lnames, defScope s_Lnames, [], []⟩
abbrev FnP_Lnames (K : PySem.W.Frag) : Prop := ∃ fd, FunD K "_law_names" "_law_names" (defArgs s_Lnames) (defBody s_Lnames) (defScope s_Lnames) [] [] (a_Lnames K) fd
def a_Lsmall (K : PySem.W.Frag) : Addr := (fun K => He.ga K "_law_small") K
def dA_Lsmall : DefA := ⟨a_Lsmall, "_law_small", "_law_small", defArgs s_Lsmall, defBody s_Lsmall, defScope s_Lsmall, [], []⟩
abbrev FnP_Lsmall (K : PySem.W.Frag) : Prop := ∃ fd, FunD K "_law_small" "_law_small" (defArgs s_Lsmall) (defBody s_Lsmall) (defScope s_Lsmall) [] [] (a_Lsmall K) fd
def a_Laimed (K : PySem.W.Frag) : Addr := (fun K => He.ga K "_law_aimed") K
def dA_Laimed : DefA := ⟨a_Laimed, "_law_aimed", "_law_aimed", defArgs s_Laimed, defBody s_Laimed, defScope s_Laimed, [], []⟩
abbrev FnP_Laimed (K : PySem.W.Frag) : Prop := ∃ fd, FunD K "_law_aimed" "_law_aimed" (defArgs s_Laimed) (defBody s_Laimed) (defScope s_Laimed) [] [] (a_Laimed K) fd
def a_Llined (K : PySem.W.Frag) : Addr := (fun K => He.ga K "_law_lined") K
def dA_Llined : DefA := ⟨a_Llined, "_law_lined", "_law_lined", defArgs s_Llined, defBody s_Llined, defScope s_Llined, [], []⟩
abbrev FnP_Llined (K : PySem.W.Frag) : Prop := ∃ fd, FunD K "_law_lined" "_law_lined" (defArgs s_Llined) (defBody s_Llined) (defScope s_Llined) [] [] (a_Llined K) fd
def a_Lmade (K : PySem.W.Frag) : Addr := (fun K => He.ga K "_law_made") K
def dA_Lmade : DefA := ⟨a_Lmade, "_law_made", "_law_made", defArgs s_Lmade, defBody s_Lmade, defScope s_Lmade, [], []⟩
abbrev FnP_Lmade (K : PySem.W.Frag) : Prop := ∃ fd, FunD K "_law_made" "_law_made" (defArgs s_Lmade) (defBody s_Lmade) (defScope s_Lmade) [] [] (a_Lmade K) fd
def a_Lline (K : PySem.W.Frag) : Addr := (fun K => He.ga K "_law_line") K
def dA_Lline : DefA := ⟨a_Lline, "_law_line", "_law_line", defArgs s_Lline, defBody s_Lline, defScope s_Lline, [], []⟩
abbrev FnP_Lline (K : PySem.W.Frag) : Prop := ∃ fd, FunD K "_law_line" "_law_line" (defArgs s_Lline) (defBody s_Lline) (defScope s_Lline) [] [] (a_Lline K) fd
def a_Lfence_text (K : PySem.W.Frag) : Addr := (fun K => He.ga K "_law_fence_text") K
def dA_Lfence_text : DefA := ⟨a_Lfence_text, "_law_fence_text", "_law_fence_text", defArgs s_Lfence_text, defBody s_Lfence_text, defScope s_Lfence_text, [], []⟩
abbrev FnP_Lfence_text (K : PySem.W.Frag) : Prop := ∃ fd, FunD K "_law_fence_text" "_law_fence_text" (defArgs s_Lfence_text) (defBody s_Lfence_text) (defScope s_Lfence_text) [] [] (a_Lfence_text K) fd
def a_Lpainters (K : PySem.W.Frag) : Addr := (fun K => He.ga K "_law_painters") K
def dA_Lpainters : DefA := ⟨a_Lpainters, "_law_painters", "_law_painters", defArgs s_Lpainters, defBody s_Lpainters, defScope s_Lpainters, [], []⟩
abbrev FnP_Lpainters (K : PySem.W.Frag) : Prop := ∃ fd, FunD K "_law_painters" "_law_painters" (defArgs s_Lpainters) (defBody s_Lpainters) (defScope s_Lpainters) [] [] (a_Lpainters K) fd
def a_law (K : PySem.W.Frag) : Addr := (fun K => He.ga K "law") K
def dA_law : DefA := ⟨a_law, "law", "law", defArgs s_law, defBody s_law, defScope s_law, [], []⟩
abbrev FnP_law (K : PySem.W.Frag) : Prop := ∃ fd, FunD K "law" "law" (defArgs s_law) (defBody s_law) (defScope s_law) [] [] (a_law K) fd
def fnL : List DefA := [dA_is_integer, dA_is_between, dA_is_name, dA_integer_in, dA_painter_line, dA_painter_parts, dA_Painter_init, dA_Painter_read, dA_Painter_name, dA_Painter_day, dA_Painter_post, dA_Painter_stride, dA_Painter_text, dA_Painter_eq, dA_Fence_init, dA_Fence_read, dA_Fence_names, dA_Fence_text, dA_Fence_need_name, dA_Fence_contains, dA_Fence_getitem, dA_Fence_eq, dA_Fence_add, dA_Lpen, dA_Ldraw, dA_Lpick, dA_Laround, dA_Lpower, dA_Lgreat, dA_Lnames, dA_Lsmall, dA_Laimed, dA_Llined, dA_Lmade, dA_Lline, dA_Lfence_text, dA_Lpainters, dA_law]
structure Tx (K : PySem.W.Frag) (mg : Str → Option Value) : Prop where
  g_is_integer : mg "is_integer" = some (.ref (a_is_integer K))
  g_is_between : mg "is_between" = some (.ref (a_is_between K))
  g_is_name : mg "is_name" = some (.ref (a_is_name K))
  g_integer_in : mg "integer_in" = some (.ref (a_integer_in K))
  g_painter_line : mg "painter_line" = some (.ref (a_painter_line K))
  g_painter_parts : mg "painter_parts" = some (.ref (a_painter_parts K))
  g__law_pen : mg "_law_pen" = some (.ref (a_Lpen K))
  g__law_draw : mg "_law_draw" = some (.ref (a_Ldraw K))
  g__law_pick : mg "_law_pick" = some (.ref (a_Lpick K))
  g__law_around : mg "_law_around" = some (.ref (a_Laround K))
  g__law_power : mg "_law_power" = some (.ref (a_Lpower K))
  g__law_great : mg "_law_great" = some (.ref (a_Lgreat K))
  g__law_names : mg "_law_names" = some (.ref (a_Lnames K))
  g__law_small : mg "_law_small" = some (.ref (a_Lsmall K))
  g__law_aimed : mg "_law_aimed" = some (.ref (a_Laimed K))
  g__law_lined : mg "_law_lined" = some (.ref (a_Llined K))
  g__law_made : mg "_law_made" = some (.ref (a_Lmade K))
  g__law_line : mg "_law_line" = some (.ref (a_Lline K))
  g__law_fence_text : mg "_law_fence_text" = some (.ref (a_Lfence_text K))
  g__law_painters : mg "_law_painters" = some (.ref (a_Lpainters K))
  g_law : mg "law" = some (.ref (a_law K))
  g_is_name_names : mg "is_name_names" = some (.ref (a_is_name K))
  g_Painter : mg "Painter" = some (.ref (He.ga K "Painter"))
  cl_Painter : Cls K (He.ga K "Painter")
  m_Painter : Mk K (He.ga K "Painter") (a_Painter_init K)
  ii_Painter : C8.InsC K (He.ga K "Painter")
  g_Fence : mg "Fence" = some (.ref (He.ga K "Fence"))
  cl_Fence : Cls K (He.ga K "Fence")
  m_Fence : Mk K (He.ga K "Fence") (a_Fence_init K)
  ii_Fence : C8.InsC K (He.ga K "Fence")
  ow_Painter_eq : Hk.OwnD K (He.ga K "Painter") "__eq__" (He.ma K (He.ga K "Painter") "__eq__")
  ow_Painter_add : Hk.OwnD K (He.ga K "Painter") "__add__" (He.ma K (He.ga K "Painter") "__add__")
  ow_Fence_contains : Hk.OwnD K (He.ga K "Fence") "__contains__" (He.ma K (He.ga K "Fence") "__contains__")
  ow_Fence_getitem : Hk.OwnD K (He.ga K "Fence") "__getitem__" (He.ma K (He.ga K "Fence") "__getitem__")
  ow_Fence_eq : Hk.OwnD K (He.ga K "Fence") "__eq__" (He.ma K (He.ga K "Fence") "__eq__")
  ow_Fence_add : Hk.OwnD K (He.ga K "Fence") "__add__" (He.ma K (He.ga K "Fence") "__add__")
  ad_Fence_Painter : Hk.AddD K (He.ga K "Fence") (He.ga K "Painter")
  no_Painter_parts : NoAttr K (He.ga K "Painter") "parts"
  no_Fence_listed : NoAttr K (He.ga K "Fence") "listed"
  no_Fence_places : NoAttr K (He.ga K "Fence") "places"
  co_Painter_MAX_DAY : ∃ u, Con K (He.ga K "Painter") "MAX_DAY" (.int 1000000000000000000000000000000) u
  co_Painter_MAX_POST : ∃ u, Con K (He.ga K "Painter") "MAX_POST" (.int 1000000000000000000000000000000) u
  co_Painter_MAX_STRIDE : ∃ u, Con K (He.ga K "Painter") "MAX_STRIDE" (.int 1000000000000000000) u
  pr_Painter_name : PropOf K (He.ga K "Painter") "name" (He.ma K (He.ga K "Painter") "name") (a_Painter_name K)
  pr_Painter_day : PropOf K (He.ga K "Painter") "day" (He.ma K (He.ga K "Painter") "day") (a_Painter_day K)
  pr_Painter_post : PropOf K (He.ga K "Painter") "post" (He.ma K (He.ga K "Painter") "post") (a_Painter_post K)
  pr_Painter_stride : PropOf K (He.ga K "Painter") "stride" (He.ma K (He.ga K "Painter") "stride") (a_Painter_stride K)
  pr_Painter_text : PropOf K (He.ga K "Painter") "text" (He.ma K (He.ga K "Painter") "text") (a_Painter_text K)
  pr_Fence_names : PropOf K (He.ga K "Fence") "names" (He.ma K (He.ga K "Fence") "names") (a_Fence_names K)
  pr_Fence_text : PropOf K (He.ga K "Fence") "text" (He.ma K (He.ga K "Fence") "text") (a_Fence_text K)
  cm_Painter_read : ClX.CMet K (He.ga K "Painter") (.type "type") "read" (He.ma K (He.ga K "Painter") "read") (a_Painter_read K)
  cm_Fence_read : ClX.CMet K (He.ga K "Fence") (.type "type") "read" (He.ma K (He.ga K "Fence") "read") (a_Fence_read K)
  r_Fence : ClX.CRead K (He.ga K "Fence") (.type "type")
  r_Painter : ClX.CRead K (He.ga K "Painter") (.type "type")
  me_Fence_need_name : Meth K (He.ga K "Fence") "need_name" (a_Fence_need_name K)
  n_isinstance : mg "isinstance" = none
  n_int : mg "int" = none
  n_bool : mg "bool" = none
  n_str : mg "str" = none
  n_len : mg "len" = none
  n_all : mg "all" = none
  n_enumerate : mg "enumerate" = none
  n_tuple : mg "tuple" = none
  n_range : mg "range" = none
  n_list : mg "list" = none
  n_abs : mg "abs" = none
  n_min : mg "min" = none
  n_repr : mg "repr" = none
  c_MAX_PAINTERS : ∃ u, mg "MAX_PAINTERS" = some u ∧ RelV (.int 40) u
  c_MAX_NAME : ∃ u, mg "MAX_NAME" = some u ∧ RelV (.int 8) u
  c_MAX_DIGITS : ∃ u, mg "MAX_DIGITS" = some u ∧ RelV (.int 80) u
  c_LETTERS : ∃ u, mg "LETTERS" = some u ∧ RelV (.str "abcdefghijklmnopqrstuvwxyz") u
  c_DIGITS : ∃ u, mg "DIGITS" = some u ∧ RelV (.str "0123456789") u
  f_is_integer : FnP_is_integer K
  k_is_integer : PySem.W.keepIn K (.ref (a_is_integer K)) = true
  f_is_between : FnP_is_between K
  k_is_between : PySem.W.keepIn K (.ref (a_is_between K)) = true
  f_is_name : FnP_is_name K
  k_is_name : PySem.W.keepIn K (.ref (a_is_name K)) = true
  f_integer_in : FnP_integer_in K
  k_integer_in : PySem.W.keepIn K (.ref (a_integer_in K)) = true
  f_painter_line : FnP_painter_line K
  k_painter_line : PySem.W.keepIn K (.ref (a_painter_line K)) = true
  f_painter_parts : FnP_painter_parts K
  k_painter_parts : PySem.W.keepIn K (.ref (a_painter_parts K)) = true
  f_Painter_init : FnP_Painter_init K
  k_Painter_init : PySem.W.keepIn K (.ref (a_Painter_init K)) = true
  f_Painter_read : FnP_Painter_read K
  k_Painter_read : PySem.W.keepIn K (.ref (a_Painter_read K)) = true
  f_Painter_name : FnP_Painter_name K
  k_Painter_name : PySem.W.keepIn K (.ref (a_Painter_name K)) = true
  f_Painter_day : FnP_Painter_day K
  k_Painter_day : PySem.W.keepIn K (.ref (a_Painter_day K)) = true
  f_Painter_post : FnP_Painter_post K
  k_Painter_post : PySem.W.keepIn K (.ref (a_Painter_post K)) = true
  f_Painter_stride : FnP_Painter_stride K
  k_Painter_stride : PySem.W.keepIn K (.ref (a_Painter_stride K)) = true
  f_Painter_text : FnP_Painter_text K
  k_Painter_text : PySem.W.keepIn K (.ref (a_Painter_text K)) = true
  f_Painter_eq : FnP_Painter_eq K
  k_Painter_eq : PySem.W.keepIn K (.ref (a_Painter_eq K)) = true
  f_Fence_init : FnP_Fence_init K
  k_Fence_init : PySem.W.keepIn K (.ref (a_Fence_init K)) = true
  f_Fence_read : FnP_Fence_read K
  k_Fence_read : PySem.W.keepIn K (.ref (a_Fence_read K)) = true
  f_Fence_names : FnP_Fence_names K
  k_Fence_names : PySem.W.keepIn K (.ref (a_Fence_names K)) = true
  f_Fence_text : FnP_Fence_text K
  k_Fence_text : PySem.W.keepIn K (.ref (a_Fence_text K)) = true
  f_Fence_need_name : FnP_Fence_need_name K
  k_Fence_need_name : PySem.W.keepIn K (.ref (a_Fence_need_name K)) = true
  f_Fence_contains : FnP_Fence_contains K
  k_Fence_contains : PySem.W.keepIn K (.ref (a_Fence_contains K)) = true
  f_Fence_getitem : FnP_Fence_getitem K
  k_Fence_getitem : PySem.W.keepIn K (.ref (a_Fence_getitem K)) = true
  f_Fence_eq : FnP_Fence_eq K
  k_Fence_eq : PySem.W.keepIn K (.ref (a_Fence_eq K)) = true
  f_Fence_add : FnP_Fence_add K
  k_Fence_add : PySem.W.keepIn K (.ref (a_Fence_add K)) = true
  f_Lpen : FnP_Lpen K
  k_Lpen : PySem.W.keepIn K (.ref (a_Lpen K)) = true
  f_Ldraw : FnP_Ldraw K
  k_Ldraw : PySem.W.keepIn K (.ref (a_Ldraw K)) = true
  f_Lpick : FnP_Lpick K
  k_Lpick : PySem.W.keepIn K (.ref (a_Lpick K)) = true
  f_Laround : FnP_Laround K
  k_Laround : PySem.W.keepIn K (.ref (a_Laround K)) = true
  f_Lpower : FnP_Lpower K
  k_Lpower : PySem.W.keepIn K (.ref (a_Lpower K)) = true
  f_Lgreat : FnP_Lgreat K
  k_Lgreat : PySem.W.keepIn K (.ref (a_Lgreat K)) = true
  f_Lnames : FnP_Lnames K
  k_Lnames : PySem.W.keepIn K (.ref (a_Lnames K)) = true
  f_Lsmall : FnP_Lsmall K
  k_Lsmall : PySem.W.keepIn K (.ref (a_Lsmall K)) = true
  f_Laimed : FnP_Laimed K
  k_Laimed : PySem.W.keepIn K (.ref (a_Laimed K)) = true
  f_Llined : FnP_Llined K
  k_Llined : PySem.W.keepIn K (.ref (a_Llined K)) = true
  f_Lmade : FnP_Lmade K
  k_Lmade : PySem.W.keepIn K (.ref (a_Lmade K)) = true
  f_Lline : FnP_Lline K
  k_Lline : PySem.W.keepIn K (.ref (a_Lline K)) = true
  f_Lfence_text : FnP_Lfence_text K
  k_Lfence_text : PySem.W.keepIn K (.ref (a_Lfence_text K)) = true
  f_Lpainters : FnP_Lpainters K
  k_Lpainters : PySem.W.keepIn K (.ref (a_Lpainters K)) = true
  f_law : FnP_law K
  k_law : PySem.W.keepIn K (.ref (a_law K)) = true
def ckL : List (PySem.W.Frag → Bool) := [
  fun K => Hk.gloB K "is_integer",
  fun K => Hk.gloB K "is_between",
  fun K => Hk.gloB K "is_name",
  fun K => Hk.gloB K "integer_in",
  fun K => Hk.gloB K "painter_line",
  fun K => Hk.gloB K "painter_parts",
  fun K => Hk.gloB K "_law_pen",
  fun K => Hk.gloB K "_law_draw",
  fun K => Hk.gloB K "_law_pick",
  fun K => Hk.gloB K "_law_around",
  fun K => Hk.gloB K "_law_power",
  fun K => Hk.gloB K "_law_great",
  fun K => Hk.gloB K "_law_names",
  fun K => Hk.gloB K "_law_small",
  fun K => Hk.gloB K "_law_aimed",
  fun K => Hk.gloB K "_law_lined",
  fun K => Hk.gloB K "_law_made",
  fun K => Hk.gloB K "_law_line",
  fun K => Hk.gloB K "_law_fence_text",
  fun K => Hk.gloB K "_law_painters",
  fun K => Hk.gloB K "law",
  fun K => Hk.aliB K "is_name_names" "is_name",
  fun K => Hk.gloB K "Painter",
  fun K => Hk.clsB K "Painter",
  fun K => Hk.mkrB K "Painter",
  fun K => Hk.insB K "Painter",
  fun K => Hk.gloB K "Fence",
  fun K => Hk.clsB K "Fence",
  fun K => Hk.mkrB K "Fence",
  fun K => Hk.insB K "Fence",
  fun K => Hk.ownB K "Painter" "__eq__",
  fun K => Hk.ownB K "Painter" "__add__",
  fun K => Hk.ownB K "Fence" "__contains__",
  fun K => Hk.ownB K "Fence" "__getitem__",
  fun K => Hk.ownB K "Fence" "__eq__",
  fun K => Hk.ownB K "Fence" "__add__",
  fun K => Hk.addB K "Fence" "Painter",
  fun K => Hk.noatB K "Painter" "parts",
  fun K => Hk.noatB K "Fence" "listed",
  fun K => Hk.noatB K "Fence" "places",
  fun K => Hk.conB K (He.ga K "Painter") "MAX_DAY" 1000000000000000000000000000000,
  fun K => Hk.conB K (He.ga K "Painter") "MAX_POST" 1000000000000000000000000000000,
  fun K => Hk.conB K (He.ga K "Painter") "MAX_STRIDE" 1000000000000000000,
  fun K => Hk.propB K (He.ga K "Painter") "name",
  fun K => Hk.propB K (He.ga K "Painter") "day",
  fun K => Hk.propB K (He.ga K "Painter") "post",
  fun K => Hk.propB K (He.ga K "Painter") "stride",
  fun K => Hk.propB K (He.ga K "Painter") "text",
  fun K => Hk.propB K (He.ga K "Fence") "names",
  fun K => Hk.propB K (He.ga K "Fence") "text",
  fun K => Hk.cmetB K (He.ga K "Painter") "read",
  fun K => Hk.cmetB K (He.ga K "Fence") "read",
  fun K => Hk.creadB K (He.ga K "Fence"),
  fun K => Hk.creadB K (He.ga K "Painter"),
  fun K => Hk.methB K "Fence" "need_name",
  fun K => Hk.freeB K "isinstance",
  fun K => Hk.freeB K "int",
  fun K => Hk.freeB K "bool",
  fun K => Hk.freeB K "str",
  fun K => Hk.freeB K "len",
  fun K => Hk.freeB K "all",
  fun K => Hk.freeB K "enumerate",
  fun K => Hk.freeB K "tuple",
  fun K => Hk.freeB K "range",
  fun K => Hk.freeB K "list",
  fun K => Hk.freeB K "abs",
  fun K => Hk.freeB K "min",
  fun K => Hk.freeB K "repr",
  fun K => Hk.intB K "MAX_PAINTERS" 40,
  fun K => Hk.intB K "MAX_NAME" 8,
  fun K => Hk.intB K "MAX_DIGITS" 80,
  fun K => Hk.strB K "LETTERS" "abcdefghijklmnopqrstuvwxyz",
  fun K => Hk.strB K "DIGITS" "0123456789"]
def ck (K : PySem.W.Frag) : Bool := ckL.all fun f => f K
theorem ck_at {K : PySem.W.Frag} (h : ck K = true) (i : Nat) {f : PySem.W.Frag → Bool} (e : ckL[i]? = some f := by rfl) : f K = true := List.all_eq_true.mp h f (List.mem_of_getElem? e)
theorem tx_of {K : PySem.W.Frag} {h : Heap} {mg : Str → Option Value} (X : K.In h) (G : h.Ns mainGlobals mg) (c : Hk.SaysM ck fnL K) : Tx K mg where
  g_is_integer := Hk.glo_of X G (ck_at c.ck_ 0)
  g_is_between := Hk.glo_of X G (ck_at c.ck_ 1)
  g_is_name := Hk.glo_of X G (ck_at c.ck_ 2)
  g_integer_in := Hk.glo_of X G (ck_at c.ck_ 3)
  g_painter_line := Hk.glo_of X G (ck_at c.ck_ 4)
  g_painter_parts := Hk.glo_of X G (ck_at c.ck_ 5)
  g__law_pen := Hk.glo_of X G (ck_at c.ck_ 6)
  g__law_draw := Hk.glo_of X G (ck_at c.ck_ 7)
  g__law_pick := Hk.glo_of X G (ck_at c.ck_ 8)
  g__law_around := Hk.glo_of X G (ck_at c.ck_ 9)
  g__law_power := Hk.glo_of X G (ck_at c.ck_ 10)
  g__law_great := Hk.glo_of X G (ck_at c.ck_ 11)
  g__law_names := Hk.glo_of X G (ck_at c.ck_ 12)
  g__law_small := Hk.glo_of X G (ck_at c.ck_ 13)
  g__law_aimed := Hk.glo_of X G (ck_at c.ck_ 14)
  g__law_lined := Hk.glo_of X G (ck_at c.ck_ 15)
  g__law_made := Hk.glo_of X G (ck_at c.ck_ 16)
  g__law_line := Hk.glo_of X G (ck_at c.ck_ 17)
  g__law_fence_text := Hk.glo_of X G (ck_at c.ck_ 18)
  g__law_painters := Hk.glo_of X G (ck_at c.ck_ 19)
  g_law := Hk.glo_of X G (ck_at c.ck_ 20)
  g_is_name_names := Hk.ali_of X G (ck_at c.ck_ 21)
  g_Painter := Hk.glo_of X G (ck_at c.ck_ 22)
  cl_Painter := He.cls_ok (ck_at c.ck_ 23)
  m_Painter := He.mkr_ok (ck_at c.ck_ 24)
  ii_Painter := Hk.ins_of (ck_at c.ck_ 25)
  g_Fence := Hk.glo_of X G (ck_at c.ck_ 26)
  cl_Fence := He.cls_ok (ck_at c.ck_ 27)
  m_Fence := He.mkr_ok (ck_at c.ck_ 28)
  ii_Fence := Hk.ins_of (ck_at c.ck_ 29)
  ow_Painter_eq := Hk.own_of (ck_at c.ck_ 30)
  ow_Painter_add := Hk.own_of (ck_at c.ck_ 31)
  ow_Fence_contains := Hk.own_of (ck_at c.ck_ 32)
  ow_Fence_getitem := Hk.own_of (ck_at c.ck_ 33)
  ow_Fence_eq := Hk.own_of (ck_at c.ck_ 34)
  ow_Fence_add := Hk.own_of (ck_at c.ck_ 35)
  ad_Fence_Painter := Hk.add_of (ck_at c.ck_ 36)
  no_Painter_parts := He.noat_ok (ck_at c.ck_ 37)
  no_Fence_listed := He.noat_ok (ck_at c.ck_ 38)
  no_Fence_places := He.noat_ok (ck_at c.ck_ 39)
  co_Painter_MAX_DAY := Hk.con_of (ck_at c.ck_ 40)
  co_Painter_MAX_POST := Hk.con_of (ck_at c.ck_ 41)
  co_Painter_MAX_STRIDE := Hk.con_of (ck_at c.ck_ 42)
  pr_Painter_name := Hk.prop_of (ck_at c.ck_ 43)
  pr_Painter_day := Hk.prop_of (ck_at c.ck_ 44)
  pr_Painter_post := Hk.prop_of (ck_at c.ck_ 45)
  pr_Painter_stride := Hk.prop_of (ck_at c.ck_ 46)
  pr_Painter_text := Hk.prop_of (ck_at c.ck_ 47)
  pr_Fence_names := Hk.prop_of (ck_at c.ck_ 48)
  pr_Fence_text := Hk.prop_of (ck_at c.ck_ 49)
  cm_Painter_read := Hk.cmet_of' (ck_at c.ck_ 50)
  cm_Fence_read := Hk.cmet_of' (ck_at c.ck_ 51)
  r_Fence := Hk.cread_of (ck_at c.ck_ 52)
  r_Painter := Hk.cread_of (ck_at c.ck_ 53)
  me_Fence_need_name := He.meth_ok (ck_at c.ck_ 54)
  n_isinstance := Hk.free_of X G (ck_at c.ck_ 55)
  n_int := Hk.free_of X G (ck_at c.ck_ 56)
  n_bool := Hk.free_of X G (ck_at c.ck_ 57)
  n_str := Hk.free_of X G (ck_at c.ck_ 58)
  n_len := Hk.free_of X G (ck_at c.ck_ 59)
  n_all := Hk.free_of X G (ck_at c.ck_ 60)
  n_enumerate := Hk.free_of X G (ck_at c.ck_ 61)
  n_tuple := Hk.free_of X G (ck_at c.ck_ 62)
  n_range := Hk.free_of X G (ck_at c.ck_ 63)
  n_list := Hk.free_of X G (ck_at c.ck_ 64)
  n_abs := Hk.free_of X G (ck_at c.ck_ 65)
  n_min := Hk.free_of X G (ck_at c.ck_ 66)
  n_repr := Hk.free_of X G (ck_at c.ck_ 67)
  c_MAX_PAINTERS := Hk.int_of X G (ck_at c.ck_ 68)
  c_MAX_NAME := Hk.int_of X G (ck_at c.ck_ 69)
  c_MAX_DIGITS := Hk.int_of X G (ck_at c.ck_ 70)
  c_LETTERS := Hk.str_of X G (ck_at c.ck_ 71)
  c_DIGITS := Hk.str_of X G (ck_at c.ck_ 72)
  f_is_integer := c.def_ 0
  k_is_integer := (c.def_ 0).elim fun _ F => F.kp
  f_is_between := c.def_ 1
  k_is_between := (c.def_ 1).elim fun _ F => F.kp
  f_is_name := c.def_ 2
  k_is_name := (c.def_ 2).elim fun _ F => F.kp
  f_integer_in := c.def_ 3
  k_integer_in := (c.def_ 3).elim fun _ F => F.kp
  f_painter_line := c.def_ 4
  k_painter_line := (c.def_ 4).elim fun _ F => F.kp
  f_painter_parts := c.def_ 5
  k_painter_parts := (c.def_ 5).elim fun _ F => F.kp
  f_Painter_init := c.def_ 6
  k_Painter_init := (c.def_ 6).elim fun _ F => F.kp
  f_Painter_read := c.def_ 7
  k_Painter_read := (c.def_ 7).elim fun _ F => F.kp
  f_Painter_name := c.def_ 8
  k_Painter_name := (c.def_ 8).elim fun _ F => F.kp
  f_Painter_day := c.def_ 9
  k_Painter_day := (c.def_ 9).elim fun _ F => F.kp
  f_Painter_post := c.def_ 10
  k_Painter_post := (c.def_ 10).elim fun _ F => F.kp
  f_Painter_stride := c.def_ 11
  k_Painter_stride := (c.def_ 11).elim fun _ F => F.kp
  f_Painter_text := c.def_ 12
  k_Painter_text := (c.def_ 12).elim fun _ F => F.kp
  f_Painter_eq := c.def_ 13
  k_Painter_eq := (c.def_ 13).elim fun _ F => F.kp
  f_Fence_init := c.def_ 14
  k_Fence_init := (c.def_ 14).elim fun _ F => F.kp
  f_Fence_read := c.def_ 15
  k_Fence_read := (c.def_ 15).elim fun _ F => F.kp
  f_Fence_names := c.def_ 16
  k_Fence_names := (c.def_ 16).elim fun _ F => F.kp
  f_Fence_text := c.def_ 17
  k_Fence_text := (c.def_ 17).elim fun _ F => F.kp
  f_Fence_need_name := c.def_ 18
  k_Fence_need_name := (c.def_ 18).elim fun _ F => F.kp
  f_Fence_contains := c.def_ 19
  k_Fence_contains := (c.def_ 19).elim fun _ F => F.kp
  f_Fence_getitem := c.def_ 20
  k_Fence_getitem := (c.def_ 20).elim fun _ F => F.kp
  f_Fence_eq := c.def_ 21
  k_Fence_eq := (c.def_ 21).elim fun _ F => F.kp
  f_Fence_add := c.def_ 22
  k_Fence_add := (c.def_ 22).elim fun _ F => F.kp
  f_Lpen := c.def_ 23
  k_Lpen := (c.def_ 23).elim fun _ F => F.kp
  f_Ldraw := c.def_ 24
  k_Ldraw := (c.def_ 24).elim fun _ F => F.kp
  f_Lpick := c.def_ 25
  k_Lpick := (c.def_ 25).elim fun _ F => F.kp
  f_Laround := c.def_ 26
  k_Laround := (c.def_ 26).elim fun _ F => F.kp
  f_Lpower := c.def_ 27
  k_Lpower := (c.def_ 27).elim fun _ F => F.kp
  f_Lgreat := c.def_ 28
  k_Lgreat := (c.def_ 28).elim fun _ F => F.kp
  f_Lnames := c.def_ 29
  k_Lnames := (c.def_ 29).elim fun _ F => F.kp
  f_Lsmall := c.def_ 30
  k_Lsmall := (c.def_ 30).elim fun _ F => F.kp
  f_Laimed := c.def_ 31
  k_Laimed := (c.def_ 31).elim fun _ F => F.kp
  f_Llined := c.def_ 32
  k_Llined := (c.def_ 32).elim fun _ F => F.kp
  f_Lmade := c.def_ 33
  k_Lmade := (c.def_ 33).elim fun _ F => F.kp
  f_Lline := c.def_ 34
  k_Lline := (c.def_ 34).elim fun _ F => F.kp
  f_Lfence_text := c.def_ 35
  k_Lfence_text := (c.def_ 35).elim fun _ F => F.kp
  f_Lpainters := c.def_ 36
  k_Lpainters := (c.def_ 36).elim fun _ F => F.kp
  f_law := c.def_ 37
  k_law := (c.def_ 37).elim fun _ F => F.kp
def loose0 : List PySem.Str := ["_wall", "InvalidPainter", "InvalidFence", "DuplicateName", "ParseError", "UnknownName", "TooMany", "MAX_PAINTERS", "MAX_NAME", "MAX_DIGITS", "is_integer", "is_between", "LETTERS", "is_name", "is_name_names", "DIGITS", "integer_in", "painter_line", "painter_parts", "Painter", "Fence", "_law_pen", "_law_draw", "_law_pick", "_law_around", "_law_power", "_law_great", "_law_names", "_law_small", "_law_aimed"]
def loose1 : List PySem.Str := ["_law_lined", "_law_made", "_law_line", "_law_fence_text", "_law_painters"]
def loose2 : List PySem.Str := []
def loose3 : List PySem.Str := []
def looseL : List PySem.Str := loose0 ++ (loose1 ++ (loose2 ++ loose3))
abbrev R : PySem.W.OpenRow := PySem.W.OpenLaw.row PySem.Challenge.rw_paintposts_k83_whole_texts_of_all_fences
abbrev hk : PySem.W.Hook := Hk.hookM 6 ck fnL
def ob (s : PySem.W.SharedT) : He.AlD := Hk.obsMG 6 ck fnL (HandSHeadRun.getT s)
theorem ob_eq (s : PySem.W.SharedT) : ob s = hk.obs s.abs := Hk.obsMG_eq (HandSHeadRun.getT_eq s)
def lawIx : Nat := 42
theorem run (w : World) : HandSHeadRun.RunEq R (PySem.W.view R.prog [42]) hk ob 20000 looseL w := by
  intro os
  kernel_rfl
end Tx

section
set_option maxRecDepth 100000
set_option maxHeartbeats 4000000
open PySem L2 My
local macro_rules | `(tactic| walk_at "go1") => `(tactic| first
  | with_reducible refine r_seq ?_
  | with_reducible refine r_asg ?_
  | with_reducible refine r_gname ?_
  | with_reducible refine r_ifS ?_
  | with_reducible refine r_next ?_
  | with_reducible refine r_ret ?_
  | with_reducible refine r_drop ?_
  | with_reducible refine r_par ?_
  | ((with_reducible show tVar _ _ _ _); refine r_var rfl ?_)
  | with_reducible refine r_c ?_
  | with_reducible refine r_op ?_
  | with_reducible refine r_un ?_
  | with_reducible refine r_cb ?_
  | with_reducible refine r_callR ?_
  | with_reducible refine r_nil ?_
  | with_reducible refine r_cons ?_
  | with_reducible refine r_tup ?_
  | with_reducible refine r_lst ?_
  | with_reducible refine r_dget ?_
  | with_reducible refine r_test ?_
  | with_reducible refine r_tB ?_
  | with_reducible refine r_not ?_
  | with_reducible refine r_notV ?_
  | with_reducible refine r_and ?_
  | with_reducible refine r_or ?_
  | with_reducible refine r_andV ?_
  | with_reducible refine r_orV ?_
  | with_reducible refine r_if ?_
  | with_reducible refine r_sl ?_
  | with_reducible refine r_part ?_
  | with_reducible refine r_nopart ?_
  | with_reducible refine r_bm ?_
  | with_reducible refine r_bm0 ?_
  | with_reducible refine r_m0 ?_
  | with_reducible refine r_m1 ?_
  | with_reducible refine r_fld ?_
  | with_reducible refine r_propR ?_
  | with_reducible refine r_methR ?_
  | with_reducible refine r_makeR ?_
  | with_reducible refine r_cmeth ?_
  | with_reducible refine r_star ?_
  | with_reducible refine r_chain ?_
  | with_reducible refine r_fldS ?_
  | with_reducible refine r_dput ?_
  | with_reducible refine r_gsub ?_
  | ((with_reducible show ∃ _ _, V.ref _ = V.ref _ ∧ DGet _ _ _ _ ∧ _); refine r_dgetV (v := ?_) ?_ ?_; rotate_left; focus (first | exact PenD.rest ‹PenD _ _ _ _ _ _› | exact PenD.begun ‹PenD _ _ _ _ _ _› | exact PenD.cells ‹PenD _ _ _ _ _ _›))
  | with_reducible refine r_for ?_
  | with_reducible refine r_lc ?_
  | with_reducible refine r_rng1 ?_
  | with_reducible refine r_rng2 ?_
  | with_reducible refine r_enumA ?_
  | with_reducible refine r_yes ?_
  | with_reducible refine r_pp0 ?_
  | with_reducible refine r_ppC ?_
  | with_reducible refine r_dc ?_
  | with_reducible refine r_con ?_
  | with_reducible refine r_js0 ?_
  | with_reducible refine r_jsT ?_
  | with_reducible refine r_fmt ?_
  | with_reducible refine r_sgn ?_
  | with_reducible refine r_callS ?_
  | with_reducible refine r_makeS1 ?_
  | with_reducible refine r_gnil ?_
  | with_reducible refine r_gcons ?_
  | with_reducible refine r_I0 ?_
  | with_reducible refine r_U ?_
  | with_reducible refine r_addI ?_
  | with_reducible refine r_eqI ?_
  | with_reducible refine r_neI ?_
  | with_reducible refine r_eqS ?_
  | with_reducible refine r_neS ?_
  | with_reducible refine r_intI ?_
  | with_reducible refine r_strS ?_
  | with_reducible refine r_bl ?_
  | with_reducible refine r_int1 ?_
  | with_reducible refine r_two ?_
  | with_reducible refine r_ints1 ?_
  | with_reducible refine r_ints2 ?_
  | with_reducible refine r_str1 ?_
  | with_reducible refine r_iteT ?_
  | with_reducible refine r_iteF ?_
  | with_reducible refine r_iteNT ?_
  | with_reducible refine r_iteNF ?_
  | ((with_reducible show rI _ _ _ _ _ _); refine r_I ?_ ?_; focus (first | (show (0 : Int) < _; omega) | (show CPow _ _; exact ⟨by decide, by decide, by decide⟩) | (refine (Or.inl ⟨?_, ?_⟩ : CMul _ _) <;> omega) | (refine (Or.inr ⟨?_, ?_⟩ : CMul _ _) <;> omega) | (show CDivW _ _; exact wide_div (b := 64) (by decide) (by decide) (by decide) (by decide))))
  | ((with_reducible show rMulU (V.int _) (V.int _) _ _); refine r_mulI ?_ ?_; focus (first | (refine Or.inl ⟨?_, ?_⟩ <;> omega) | (refine Or.inr ⟨?_, ?_⟩ <;> omega)))
  | ((with_reducible show rLenU _ [V.ref _] _ _); refine r_lenL (ys := ?_) ?_ ?_; rotate_left; focus (first | assumption | exact SqL.of ‹_›))
  | ((with_reducible show rLenU _ [V.ref _] _ _); refine r_lenT (ys := ?_) ?_ ?_; rotate_left; focus (first | assumption | exact SqT.of ‹_›)))
local macro_rules | `(tactic| walk_at "go") => `(tactic| repeat walk_at "go1")

set_option maxRecDepth 100000
set_option maxHeartbeats 4000000
namespace Tx
open PySem PySem.Spec PyProof.Rows L2 My
section
variable {P : Program} {w : World} {K : PySem.W.Frag} {mg : Str → Option Value} {base : Heap}
/-! ### _law_draw -/
def Bd (j : Nat) : Int := 60000000 * 10000000 ^ j
theorem Bd_s (j : Nat) : Bd (j + 1) = 10000000 * Bd j := by
  unfold Bd
  rw [Int.pow_succ]
  omega
theorem Bd_1 (j : Nat) : 60000000 ≤ Bd j := by
  induction j with
  | zero => decide
  | succ j ih =>
    rw [Bd_s]
    omega
/-- behind it: at most c more cells are begun -/
def Drawn (z : PenI) (H : Hp) (n c : Nat) (many : Int) (Q : VK) : Prop := ∀ v n' H', 0 ≤ v → v < many → n' ≤ n + c → Kp H H' → Pen H' z n' → Q (.int v) H'
def spDrawN : Nat → Sp
  | 0 => fun _ _ _ _ => False
  | j + 1 => fun vs H Q _ => ∃ z many n, vs = [.ref (PenI.a z), .int many] ∧ Pen H z n ∧ 1 ≤ many ∧ many ≤ Bd j ∧ many ≤ 10 ^ 60 ∧ n + (j + 1) ≤ 10 ^ 17 + 5 ∧ Drawn z H n (j + 1) many Q
theorem dbound {m : Int} (h : m ≤ 10 ^ 60) (h0 : 1 ≤ m) : m.natAbs < 2 ^ 200 := by
  have h2 : (10 : Int) ^ 60 < 2 ^ 200 := by decide
  omega
theorem ok_drawN (T : Tx K mg) : ∀ j : Nat, FnR P w K mg base (L2.CX P w) j (a_Ldraw K) (spDrawN j)
  | 0 => fun _ _ _ _ _ _ _ _ _ _ _ h => h.elim
  | j + 1 => by
    have F_Ldraw : FnR P w K mg base (L2.CX P w) j (a_Ldraw K) (spDrawN j) := ok_drawN T j
    refine fnR_of T.f_Ldraw sc_Ldraw (fun _ _ _ _ _ _ us hl => match us, hl with | [_, _], _ => rfl) (fun vs H Q E h => ?_) fun A outer s H vs Q E cdv hr h => ?_
    · obtain ⟨z, many, n, rfl, _⟩ := h
      rfl
    · obtain ⟨⟨a, c, ns⟩, many, n, rfl, ⟨b, r, hp, hb0, hbn, hr0⟩, hm1, hm2, hm3, hn, k⟩ := h
      dsimp only at hp
      refine ⟨_, (pss_cons (ps_if (pt_cmpR op_gt (pe_dget (hu_of hr) (pv 0) pe_str (fun _ _ => rfl)) pe_int (nomark _))
 (pss_cons (ps_set (i := 2) sc_Ldraw.nd rfl (by first | exact Or.inl rfl | exact Or.inr rfl) (pe_op op_mod (pe_callTy call_intU rfl T.n_int (by decide +kernel) (pa_cons (pe_dget (hu_of hr) (pv 0) pe_str (fun _ _ => rfl)) pa_nil)) (pv 1)))
 (pss_cons (ps_dput (hu_of hr) (pv 0) pe_str (pe_op op_fdivW (pe_dget (hu_of hr) (pv 0) pe_str (fun _ _ => rfl)) (pv 1)) rfl)
 (pss_one (ps_ret (pv 2)))))
 pss_nil)
 (pss_cons (ps_set (i := 3) sc_Ldraw.nd rfl (by first | exact Or.inl rfl | exact Or.inr rfl) (pe_dget (hu_of hr) (pv 0) pe_str (fun _ _ => rfl)))
 (pss_cons (ps_dput (hu_of hr) (pv 0) pe_str (pe_op (op_addUK (K := K) rfl) (pv 3) pe_int) rfl)
 (pss_cons (ps_set (i := 4) sc_Ldraw.nd rfl (by first | exact Or.inl rfl | exact Or.inr rfl) (pe_op (op_addUK (K := K) rfl) (pe_op op_mulU pe_int (pv 3)) pe_int))
 (C8.pss_cut (ps_if (pt_cmpR (op_neUK (K := K) rfl hr.units) (pe_dget (hu_of hr) (pv 0) pe_str (fun _ _ => rfl)) (pe_lst pa_nil) (nomark _))
 (pss_one (ps_set (i := 4) sc_Ldraw.nd rfl (by first | exact Or.inl rfl | exact Or.inr rfl) (pe_ix (ix_seqK (K := K) rfl) (pe_dget (hu_of hr) (pv 0) pe_str (fun _ _ => rfl)) (pe_op op_mod (pe_callTy call_intU rfl T.n_int (by decide +kernel) (pa_cons (pv 3) pa_nil)) (pe_callB (call_lenUK (K := K) rfl) rfl T.n_len (by decide +kernel) (pa_cons (pe_dget (hu_of hr) (pv 0) pe_str (fun _ _ => rfl)) pa_nil))) (fun _ _ => rfl))))
 pss_nil)
 (C8.pss_cut (ps_if (PW.pt (pw_and (pt_cmpR op_lt (pv 3) (pe_callB (call_lenUK (K := K) rfl) rfl T.n_len (by decide +kernel) (pa_cons (pe_dget (hu_of hr) (pv 0) pe_str (fun _ _ => rfl)) pa_nil)) (nomark _)) (pw_and1 (pt_cmpR op_ge (pe_callB call_abs rfl T.n_abs (by decide +kernel) (pa_cons (pv 4) pa_nil)) (pe_op op_pow pe_int pe_int) (nomark _)))))
 (pss_cons (ps_dput (hu_of hr) (pv 0) pe_str (pe_op op_fdivW (pe_op op_sub (pe_callB call_abs rfl T.n_abs (by decide +kernel) (pa_cons (pv 4) pa_nil)) (pe_op op_pow pe_int pe_int)) (pv 1)) rfl)
 (pss_one (ps_ret (pe_op op_mod (pe_op op_sub (pe_callB call_abs rfl T.n_abs (by decide +kernel) (pa_cons (pv 4) pa_nil)) (pe_op op_pow pe_int pe_int)) (pv 1)))))
 pss_nil)
 (pss_cons (ps_set (i := 5) sc_Ldraw.nd rfl (by first | exact Or.inl rfl | exact Or.inr rfl) (pe_op op_mod (pe_callTy call_intU rfl T.n_int (by decide +kernel) (pa_cons (pe_op (op_addUK (K := K) rfl) (pe_op (op_addUK (K := K) rfl) (pe_op op_mulU (pe_op op_mod (pe_callTy call_intU rfl T.n_int (by decide +kernel) (pa_cons (pv 4) pa_nil)) pe_int) pe_int) (pe_op op_mulU (pe_op op_mulU pe_int (pv 3)) (pv 3))) pe_int) pa_nil)) pe_int))
 (pss_cons (ps_set (i := 5) sc_Ldraw.nd rfl (by first | exact Or.inl rfl | exact Or.inr rfl) (pe_op op_mod (pe_callTy call_intU rfl T.n_int (by decide +kernel) (pa_cons (pe_op (op_addUK (K := K) rfl) (pe_op (op_addUK (K := K) rfl) (pe_op (op_addUK (K := K) rfl) (pe_op op_mulU (pv 5) (pv 5)) (pe_op op_mulU pe_int (pv 5))) (pe_op op_mulU pe_int (pv 3))) pe_int) pa_nil)) pe_int))
 (pss_cons (ps_set (i := 5) sc_Ldraw.nd rfl (by first | exact Or.inl rfl | exact Or.inr rfl) (pe_op op_fdivW (pe_op op_mod (pe_callTy call_intU rfl T.n_int (by decide +kernel) (pa_cons (pe_op op_mulU (pv 5) (pe_op (op_addUK (K := K) rfl) (pv 5) pe_int)) pa_nil)) pe_int) pe_int))
 (C8.pss_cut (ps_if (pt_cmpR op_gt (pv 1) pe_int (nomark _))
 (pss_one (ps_set (i := 5) sc_Ldraw.nd rfl (by first | exact Or.inl rfl | exact Or.inr rfl) (pe_op (op_addUK (K := K) rfl) (pe_op op_mod (pe_callTy call_intU rfl T.n_int (by decide +kernel) (pa_cons (pv 5) pa_nil)) pe_int) (pe_op op_mulU pe_int (pe_callR F_Ldraw (hr.mono (by first | decide | omega)) T.k_Ldraw rfl T.g__law_draw passL (pa_cons (pv 0) (pa_cons (pe_op (op_addUK (K := K) rfl) (pe_op op_fdivW (pv 1) pe_int) pe_int) pa_nil)))))))
 pss_nil)
 (pss_one (ps_ret (pe_op op_mod (pe_callTy call_intU rfl T.n_int (by decide +kernel) (pa_cons (pv 5) pa_nil)) (pv 1)))))))))))))), ?_⟩
      try dsimp only [cxOf]
      walk_at "go"
      refine r_iteD (fun hr1 => ?_) fun hr1 => ?_
      · walk_at "go"
        refine r_I (wide_div (b := 200) (by omega) (dbound hm3 hm1) (by decide) (by decide)) ?_
        walk_at "go"
        refine r_dputV (hp.putRest _) ?_
        walk_at "go"
        exact k _ n _ (Int.emod_nonneg _ (by omega)) (Int.emod_lt_of_pos _ (by omega)) (by omega) (hp.kp _ _) ⟨b, _, hp.upd _ _, hb0, hbn, Int.ediv_nonneg hr0 (by omega)⟩
      · walk_at "go"
        refine r_dputV (hp.putBegun _) ?_
        have hp1 := hp.upd (b + 1) r
        have kp1 := hp.kp (b + 1) r
        generalize upd H a (HO.dK (penKV c (b + 1) r)) = H1 at hp1 kp1
        walk_at "go"
        refine r_cut (fun σ' H' => ∃ cell : Int, σ' = [some (.ref a), some (.int many), none, some (.int b), some (.int cell), none] ∧ Kp H H' ∧ PenD H' a c ns (b + 1) r) ?_ ?_
        · walk_at "go"
          refine ⟨by decide, fun q hq => ?_⟩
          have hp2 : PenD (upd H1 q (.lst [])) a c ns (b + 1) r := Kp.penD hp1 hq
          have kp2 := kp1.then (o := .lst []) hq
          have hq2 : (upd H1 q (.lst [])) q = some (.lst []) := upd_same
          generalize upd H1 q (.lst []) = H2 at hp2 kp2 hq2
          refine r_neL0 (SqL.of hp2.c) (SqL.of hq2) ?_
          walk_at "go"
          refine r_iteD (fun hne => ?_) fun hne => ?_
          · walk_at "go"
            refine r_lenL (SqL.of hp2.c) ?_
            have hl : 0 < (((ns.map V.int).length : Nat) : Int) := by
              rw [List.length_map]
              have := List.length_pos_iff.mpr hne
              omega
            walk_at "go"
            obtain ⟨v, hv, hm⟩ := atI_mod (xs := ns.map V.int) (i := b) (by simpa using hne)
            obtain ⟨cell, _, rfl⟩ := List.mem_map.mp hm
            refine r_ixL (SqL.of hp2.c) hv ?_
            walk_at "go"
            exact ⟨_, rfl, kp2, hp2⟩
          · walk_at "go"
            exact ⟨_, rfl, kp2, hp2⟩
        · rintro σ' H' ⟨cell, rfl, kp2, hp2⟩
          have fin : ∀ mixed : Int, ∀ n' : Nat, ∀ H'' : Hp, n' ≤ n + (j + 1) → Kp H H'' → Pen H'' ⟨a, c, ns⟩ n' → Q (.int (mixed % many)) H'' := fun mixed n' H'' h1 h2 h3 =>
            k _ n' _ (Int.emod_nonneg _ (by omega)) (Int.emod_lt_of_pos _ (by omega)) h1 h2 h3
          refine r_cut (fun σ' H3 => σ' = [some (.ref a), some (.int many), none, some (.int b), some (.int cell), none] ∧ H3 = H') ?_ ?_
          · walk_at "go"
            refine r_lenL (SqL.of hp2.c) ?_
            walk_at "go"
            refine r_iteD (fun h1 => ?_) fun h1 => ?_
            · walk_at "go"
              refine r_iteD (fun h2 => ?_) fun h2 => ?_
              · walk_at "go"
                refine r_I (wide_div (b := 200) (by omega) (dbound hm3 hm1) (by decide) (by decide)) ?_
                walk_at "go"
                refine r_dputV (hp2.putRest _) ?_
                walk_at "go"
                refine k _ (n + 1) _ (Int.emod_nonneg _ (by omega)) (Int.emod_lt_of_pos _ (by omega)) (by omega) (kp2.trans (hp2.kp _ _)) ⟨_, _, hp2.upd _ _, by omega, by omega, Int.ediv_nonneg ?_ (by omega)⟩
                generalize (if cell < 0 then -cell else cell) = cc at h2 ⊢
                omega
              · walk_at "go"
                exact ⟨rfl, rfl⟩
            · walk_at "go"
              exact ⟨rfl, rfl⟩
          · rintro _ _ ⟨rfl, rfl⟩
            walk_at "go"
            refine r_cut (fun σ' H3 => ∃ mixed n', σ' = [some (.ref a), some (.int many), none, some (.int b), some (.int cell), some (.int mixed)] ∧ Kp H H3 ∧ Pen H3 ⟨a, c, ns⟩ n' ∧ n' ≤ n + (j + 1)) ?_ ?_
            · walk_at "go"
              refine r_iteD (fun h1 => ?_) fun h1 => ?_
              · walk_at "go"
                cases j with
                | zero => exact absurd hm2 (by unfold Bd; omega)
                | succ j =>
                  have hb := Bd_s j
                  have hb1 := Bd_1 j
                  refine ⟨⟨a, c, ns⟩, _, n + 1, rfl, ⟨_, _, hp2, by omega, by omega, by omega⟩, by omega, by omega, by omega, by omega, fun v n' H4 h0 h1 h2 h3 h4 => ?_⟩
                  walk_at "go"
                  exact ⟨_, n', rfl, kp2.trans h3, h4, by omega⟩
              · walk_at "go"
                exact ⟨_, n + 1, rfl, kp2, ⟨_, _, hp2, by omega, by omega, by omega⟩, by omega⟩
            · rintro σ' H3 ⟨mixed, n', rfl, k3, p3, hn'⟩
              walk_at "go"
              exact fin _ n' _ hn' k3 p3
/-- _law_draw(pen, many): any number from 0 on below many -/
def spDraw : Sp := fun vs H Q _ => ∃ z many n, vs = [.ref (PenI.a z), .int many] ∧ Pen H z n ∧ 1 ≤ many ∧ many ≤ 10 ^ 34 ∧ n ≤ 10 ^ 17 ∧ Drawn z H n 5 many Q
theorem ok_draw (T : Tx K mg) : FnR P w K mg base (L2.CX P w) 5 (a_Ldraw K) spDraw := (ok_drawN T 5).imp fun vs H Q E h => by
  obtain ⟨z, many, n, e, hp, h1, h2, h3, k⟩ := h
  have hb : Bd 4 = 600000000000000000000000000000000000 := by decide
  exact ⟨z, many, n, e, hp, h1, by rw [hb]; omega, by omega, by show n + 5 ≤ _; omega, k⟩
end
end Tx

set_option maxRecDepth 100000
set_option maxHeartbeats 4000000
namespace Tx
open PySem PySem.Spec PyProof.Rows L2 My
section
variable {P : Program} {w : World} {K : PySem.W.Frag} {mg : Str → Option Value} {base : Heap}
theorem r_draw {z : PenI} {H : Hp} {n : Nat} {many : Int} {Q : VK} {E : XK} (hp : Pen H z n) (h1 : 1 ≤ many) (h2 : many ≤ 10 ^ 34) (h3 : n ≤ 10 ^ 17) (k : ∀ v n' H', 0 ≤ v → v < many → n' ≤ n + 5 → Kp H H' → Pen H' z n' → Q (.int v) H') :
    spDraw [.ref z.a, .int many] H Q E := ⟨z, many, n, rfl, hp, h1, h2, h3, k⟩
def spPick (K : PySem.W.Frag) : Sp := fun vs H Q _ => ∃ z n x, vs = [.ref (PenI.a z), x] ∧ Pen H z n ∧ n ≤ 10 ^ 17 ∧
  ((∃ p xs, x = .ref p ∧ SqL K H p xs ∧ xs ≠ [] ∧ xs.length ≤ 1000 ∧ Aft z H n 5 (fun v _ => v ∈ xs) Q) ∨ ∃ s : Str, x = .str s ∧ 0 < s.length ∧ s.length ≤ 1000 ∧ Aft z H n 5 (fun v _ => ∃ c, c ∈ s.cps.toList ∧ v = .str ⟨#[c]⟩) Q)
theorem ok_pick (T : Tx K mg) : FnR P w K mg base (L2.CX P w) 6 (a_Lpick K) (spPick K) := by
  have F_Ldraw := ok_draw (P := P) (w := w) (base := base) T
  refine fnR_of T.f_Lpick sc_Lpick (fun _ _ _ _ _ _ us hl => match us, hl with | [_, _], _ => rfl) (fun vs H Q E h => ?_) fun A outer s H vs Q E cdv hr h => ?_
  · obtain ⟨z, n, x, rfl, _⟩ := h
    rfl
  · obtain ⟨z, n, x, rfl, hp, hn, h⟩ := h
    refine ⟨_, (pss_one (ps_ret (pe_ix (ix_seqK (K := K) rfl) (pv 1) (pe_callR F_Ldraw (hr.mono (by first | decide | omega)) T.k_Ldraw rfl T.g__law_draw passL (pa_cons (pv 0) (pa_cons (pe_callB (call_lenUK (K := K) rfl) rfl T.n_len (by decide +kernel) (pa_cons (pv 1) pa_nil)) pa_nil))) (fun _ _ => rfl)))), ?_⟩
    try dsimp only [cxOf]
    walk_at "go"
    rcases h with ⟨p, xs, rfl, hl, h0, h1, k⟩ | ⟨s, rfl, h0, h1, k⟩
    · refine r_lenL hl ?_
      walk_at "go"
      have := List.length_pos_iff.mpr h0
      refine r_draw hp (by omega) (by omega) hn fun v n' H' v0 v1 hn' kp hp' => ?_
      obtain ⟨u, hu, _, hm⟩ := atI_in (xs := xs) v0 v1
      walk_at "go"
      exact r_ixL (kp.rdL hl) hu (k _ _ _ hm hn' kp hp')
    · refine r_lenS (by show _ ≤ 16777216; omega) ?_
      walk_at "go"
      refine r_draw hp (by omega) (by omega) hn fun v n' H' v0 v1 hn' kp hp' => ?_
      obtain ⟨u, hu, _, hm⟩ := atI_in (xs := s.cps.toList) v0 v1
      walk_at "go"
      exact r_ixS (by show _ ≤ 16777216; omega) hu (k _ _ _ ⟨u, hm, rfl⟩ hn' kp hp')
theorem r_pickL {z : PenI} {H : Hp} {n : Nat} {p : Addr} {xs : List V} {Q : VK} {E : XK} (hp : Pen H z n) (hl : SqL K H p xs) (h0 : xs ≠ []) (h1 : xs.length ≤ 1000) (hn : n ≤ 10 ^ 17) (k : ∀ v n' H', v ∈ xs → n' ≤ n + 5 → Kp H H' → Pen H' z n' → Q v H') :
    spPick K [.ref z.a, .ref p] H Q E := ⟨z, n, _, rfl, hp, hn, .inl ⟨p, xs, rfl, hl, h0, h1, k⟩⟩
theorem r_pickS {z : PenI} {H : Hp} {n : Nat} {s : Str} {Q : VK} {E : XK} (hp : Pen H z n) (h0 : 0 < s.length) (h1 : s.length ≤ 1000) (hn : n ≤ 10 ^ 17) (k : ∀ c n' H', c ∈ s.cps.toList → n' ≤ n + 5 → Kp H H' → Pen H' z n' → Q (.str ⟨#[c]⟩) H') :
    spPick K [.ref z.a, .str s] H Q E := ⟨z, n, _, rfl, hp, hn, .inr ⟨s, rfl, h0, h1, fun v n' H' ⟨c, hc, e⟩ h2 h3 h4 => by
      subst e
      exact k c n' H' hc h2 h3 h4⟩⟩
/-! ### _law_around -/
def spAround : Sp := fun vs H Q _ => ∃ z n most, vs = [.ref (PenI.a z), .int most] ∧ Pen H z n ∧ n ≤ 10 ^ 17 ∧ 0 ≤ most ∧ most ≤ 10 ^ 33 ∧ Aft z H n 5 (fun v _ => ∃ i, v = .int i ∧ -most ≤ i ∧ i ≤ most) Q
theorem ok_around (T : Tx K mg) : FnR P w K mg base (L2.CX P w) 6 (a_Laround K) spAround := by
  have F_Ldraw := ok_draw (P := P) (w := w) (base := base) T
  refine fnR_of T.f_Laround sc_Laround (fun _ _ _ _ _ _ us hl => match us, hl with | [_, _], _ => rfl) (fun vs H Q E h => ?_) fun A outer s H vs Q E cdv hr h => ?_
  · obtain ⟨z, n, x, rfl, _⟩ := h
    rfl
  · obtain ⟨z, n, most, rfl, hp, hn, m0, m1, k⟩ := h
    refine ⟨_, (pss_one (ps_ret (pe_op op_sub (pe_callR F_Ldraw (hr.mono (by first | decide | omega)) T.k_Ldraw rfl T.g__law_draw passL (pa_cons (pv 0) (pa_cons (pe_op (op_addUK (K := K) rfl) (pe_op op_mulU pe_int (pv 1)) pe_int) pa_nil))) (pv 1)))), ?_⟩
    try dsimp only [cxOf]
    walk_at "go"
    refine r_draw hp (by omega) (by omega) hn fun v n' H' v0 v1 hn' kp hp' => ?_
    walk_at "go"
    exact k _ _ _ ⟨_, rfl, by omega, by omega⟩ hn' kp hp'
theorem r_around {z : PenI} {H : Hp} {n : Nat} {most : Int} {Q : VK} {E : XK} (hp : Pen H z n) (h1 : 0 ≤ most) (h2 : most ≤ 10 ^ 33) (h3 : n ≤ 10 ^ 17) (k : ∀ i n' H', -most ≤ i → i ≤ most → n' ≤ n + 5 → Kp H H' → Pen H' z n' → Q (.int i) H') :
    spAround [.ref z.a, .int most] H Q E := ⟨z, n, most, rfl, hp, h3, h1, h2, fun v n' H' ⟨i, e, a, b⟩ c d f => by
      subst e
      exact k i n' H' a b c d f⟩
/-! ### _law_power -/
def spPower : Sp := fun vs H Q _ => ∃ f : Nat, vs = [.int f] ∧ f ≤ 100 ∧ Q (.int (10 ^ f)) H
theorem ok_power (T : Tx K mg) : FnR P w K mg base (L2.CX P w) 1 (a_Lpower K) spPower := by
  refine fnR_of T.f_Lpower sc_Lpower (fun _ _ _ _ _ _ us hl => match us, hl with | [_], _ => rfl) (fun vs H Q E h => ?_) fun A outer s H vs Q E cdv hr h => ?_
  · obtain ⟨f, rfl, _⟩ := h
    rfl
  · obtain ⟨f, rfl, h1, k⟩ := h
    refine ⟨_, (pss_cons (ps_set (i := 1) sc_Lpower.nd rfl (by first | exact Or.inl rfl | exact Or.inr rfl) pe_int)
 (pss_cons (ps_for (passes_of rfl) rfl (pi_range1 rfl T.n_range (pa_cons (pv 0) pa_nil)) (pg_name (i := 2) sc_Lpower.nd rfl (by first | exact Or.inl rfl | exact Or.inr rfl))
 (pss_one (ps_set (i := 1) sc_Lpower.nd rfl (by first | exact Or.inl rfl | exact Or.inr rfl) (pe_op op_mulU (pv 1) pe_int))))
 (pss_one (ps_ret (pv 1))))), ?_⟩
    try dsimp only [cxOf]
    walk_at "go"
    refine ⟨by omega, by omega, ?_⟩
    refine for_rng (n := f) (by simp) (fun i σ' H' => ∃ o, σ' = [some (.int f), some (.int (10 ^ i)), o] ∧ H' = H) ⟨_, rfl, rfl⟩ (fun i σ' H' hi ⟨o, e1, e2⟩ => ?_) fun σ' H' ⟨o, e1, e2⟩ => ?_
    · subst e1 e2
      walk_at "go"
      exact ⟨_, by rw [Int.pow_succ]; rfl, rfl⟩
    · subst e1 e2
      walk_at "go"
      exact k
/-! ### _law_great -/
theorem p10 {f : Nat} (h1 : 2 ≤ f) (h2 : f ≤ 30) : (100 : Int) ≤ 10 ^ f ∧ (10 : Int) ^ f ≤ 10 ^ 30 := by
  have a := Nat.pow_le_pow_right (n := 10) (by decide) h1
  have b := Nat.pow_le_pow_right (n := 10) (by decide) h2
  have e : ((10 ^ f : Nat) : Int) = 10 ^ f := by simp
  have e2 : ((10 ^ 30 : Nat) : Int) = 10 ^ 30 := by decide
  generalize 10 ^ f = x at *
  omega
def spGreat : Sp := fun vs H Q _ => ∃ z n, ∃ f : Nat, vs = [.ref (PenI.a z), .int f] ∧ Pen H z n ∧ n + 100 ≤ 10 ^ 17 ∧ 2 ≤ f ∧ f ≤ 30 ∧ Aft z H n 30 (fun v _ => ∃ i, v = .int i ∧ 0 ≤ i ∧ i < 10 ^ f) Q
theorem ok_great (T : Tx K mg) : FnR P w K mg base (L2.CX P w) 7 (a_Lgreat K) spGreat := by
  have F_Ldraw := ok_draw (P := P) (w := w) (base := base) T
  have F_Lpick := ok_pick (P := P) (w := w) (base := base) T
  have F_Lpower := ok_power (P := P) (w := w) (base := base) T
  refine fnR_of T.f_Lgreat sc_Lgreat (fun _ _ _ _ _ _ us hl => match us, hl with | [_, _], _ => rfl) (fun vs H Q E h => ?_) fun A outer s H vs Q E cdv hr h => ?_
  · obtain ⟨z, n, f, rfl, _⟩ := h
    rfl
  · obtain ⟨z, n, f, rfl, hp, hn, f0, f1, k⟩ := h
    refine ⟨_, (pss_cons (ps_set (i := 2) sc_Lgreat.nd rfl (by first | exact Or.inl rfl | exact Or.inr rfl) (pe_callR F_Lpower (hr.mono (by first | decide | omega)) T.k_Lpower rfl T.g__law_power passL (pa_cons (pv 1) pa_nil)))
 (pss_cons (ps_set (i := 3) sc_Lgreat.nd rfl (by first | exact Or.inl rfl | exact Or.inr rfl) (pe_lst (pa_cons (pe_callR F_Ldraw (hr.mono (by first | decide | omega)) T.k_Ldraw rfl T.g__law_draw passL (pa_cons (pv 0) (pa_cons pe_int pa_nil))) (pa_cons (pe_callR F_Ldraw (hr.mono (by first | decide | omega)) T.k_Ldraw rfl T.g__law_draw passL (pa_cons (pv 0) (pa_cons (pv 2) pa_nil))) (pa_cons (pe_callR F_Ldraw (hr.mono (by first | decide | omega)) T.k_Ldraw rfl T.g__law_draw passL (pa_cons (pv 0) (pa_cons (pv 2) pa_nil))) pa_nil)))))
 (pss_one (ps_ret (pe_callR F_Lpick (hr.mono (by first | decide | omega)) T.k_Lpick rfl T.g__law_pick passL (pa_cons (pv 0) (pa_cons (pe_op (op_addUK (K := K) rfl) (pv 3) (pe_lst (pa_cons (pe_op (op_addUK (K := K) rfl) (pe_op op_fdivW (pv 2) pe_int) (pe_callR F_Ldraw (hr.mono (by first | decide | omega)) T.k_Ldraw rfl T.g__law_draw passL (pa_cons (pv 0) (pa_cons pe_int pa_nil)))) (pa_cons (pe_op op_sub (pe_op op_sub (pv 2) pe_int) (pe_callR F_Ldraw (hr.mono (by first | decide | omega)) T.k_Ldraw rfl T.g__law_draw passL (pa_cons (pv 0) (pa_cons pe_int pa_nil)))) pa_nil)))) pa_nil))))))), ?_⟩
    try dsimp only [cxOf]
    walk_at "go"
    obtain ⟨q0, q1⟩ := p10 f0 f1
    refine ⟨f, rfl, by omega, ?_⟩
    generalize hm : (10 : Int) ^ f = most at *
    walk_at "go"
    refine r_draw hp (by omega) (by omega) (by omega) fun v1 n1 H1 v10 v11 hn1 kp1 hp1 => ?_
    walk_at "go"
    refine r_draw hp1 (by omega) (by omega) (by omega) fun v2 n2 H2 v20 v21 hn2 kp2 hp2 => ?_
    walk_at "go"
    refine r_draw hp2 (by omega) (by omega) (by omega) fun v3 n3 H3 v30 v31 hn3 kp3 hp3 => ?_
    walk_at "go"
    refine ⟨by show 3 ≤ 16777216; decide, fun p hq => ?_⟩
    have hp4 := hp3.new (o := .lst [.int v1, .int v2, .int v3]) hq
    have kp4 : Kp H _ := ((kp1.trans kp2).trans kp3).then (o := .lst [.int v1, .int v2, .int v3]) hq
    have hl4 : (upd H3 p (.lst [.int v1, .int v2, .int v3])) p = some (.lst [.int v1, .int v2, .int v3]) := upd_same
    generalize upd H3 p (.lst [.int v1, .int v2, .int v3]) = H4 at *
    walk_at "go"
    refine r_draw hp4 (by omega) (by omega) (by omega) fun v5 n5 H5 v50 v51 hn5 kp5 hp5 => ?_
    walk_at "go"
    refine r_draw hp5 (by omega) (by omega) (by omega) fun v6 n6 H6 v60 v61 hn6 kp6 hp6 => ?_
    walk_at "go"
    refine ⟨by show 2 ≤ 16777216; decide, fun p2 hq2 => ?_⟩
    have hp7 := hp6.new (o := .lst [.int (most / 10 + v5), .int (most - 1 - v6)]) hq2
    have kp7 : Kp H _ := ((kp4.trans kp5).trans kp6).then (o := .lst [.int (most / 10 + v5), .int (most - 1 - v6)]) hq2
    have hl7 : (upd H6 p2 (.lst [.int (most / 10 + v5), .int (most - 1 - v6)])) p2 = some (.lst [.int (most / 10 + v5), .int (most - 1 - v6)]) := upd_same
    have hm7 : (upd H6 p2 (.lst [.int (most / 10 + v5), .int (most - 1 - v6)])) p = some (.lst [.int v1, .int v2, .int v3]) := (Kp.new hq2).l (kp6.l (kp5.l hl4))
    generalize upd H6 p2 (.lst [.int (most / 10 + v5), .int (most - 1 - v6)]) = H7 at *
    refine r_catL hm7 hl7 (by show 5 ≤ 16777216; decide) fun p3 hq3 => ?_
    have hp8 := hp7.new (o := .lst ([.int v1, .int v2, .int v3] ++ [.int (most / 10 + v5), .int (most - 1 - v6)])) hq3
    walk_at "go"
    refine r_pickL hp8 (SqL.of upd_same) (by simp) (by simp) (by omega) fun v n9 H9 hv hn9 kp9 hp9 => ?_
    refine k _ _ _ ?_ (by omega) ((kp7.then hq3).trans kp9) hp9
    simp only [List.cons_append, List.nil_append, List.mem_cons, List.not_mem_nil, or_false] at hv
    rcases hv with rfl | rfl | rfl | rfl | rfl <;> exact ⟨_, rfl, by omega, by omega⟩
theorem r_great {z : PenI} {H : Hp} {n f : Nat} {i : Int} {Q : VK} {E : XK} (hi : i = f) (hp : Pen H z n) (h1 : 2 ≤ f) (h2 : f ≤ 30) (h3 : n + 100 ≤ 10 ^ 17) (k : ∀ i n' H', 0 ≤ i → i < 10 ^ f → n' ≤ n + 30 → Kp H H' → Pen H' z n' → Q (.int i) H') :
    spGreat [.ref z.a, .int i] H Q E := ⟨z, n, f, by rw [hi], hp, h3, h1, h2, fun v n' H' ⟨i, e, a, b⟩ c d f => by
      subst e
      exact k i n' H' a b c d f⟩
end
end Tx

set_option maxRecDepth 100000
set_option maxHeartbeats 4000000
namespace Tx
open PySem PySem.Spec PyProof.Rows L2 My
section
variable {P : Program} {w : World} {K : PySem.W.Frag} {mg : Str → Option Value} {base : Heap}
def NamesR (H0 : Hp) (many : Nat) (v : V) (H : Hp) : Prop := ∃ p names, v = .ref p ∧ H0 p = none ∧ H p = some (.lst (names.map V.str)) ∧ NamesOk names many
def spNames : Sp := fun vs H Q _ => ∃ z n, ∃ many : Nat, vs = [.ref (PenI.a z), .int many] ∧ Pen H z n ∧ n + 1000 ≤ 10 ^ 17 ∧ many ≤ 52 ∧ Aft z H n 400 (NamesR H many) Q
theorem stepsV : ∀ {v : V}, v ∈ stepsL.map V.int → ∃ i, v = .int i ∧ i ∈ stepsL := fun h => by
  obtain ⟨i, hi, rfl⟩ := List.mem_map.mp h
  exact ⟨i, rfl, hi⟩
theorem ok_names (T : Tx K mg) : FnR P w K mg base (L2.CX P w) 7 (a_Lnames K) spNames := by
  have F_Ldraw := ok_draw (P := P) (w := w) (base := base) T
  have F_Lpick := ok_pick (P := P) (w := w) (base := base) T
  refine fnR_of T.f_Lnames sc_Lnames (fun _ _ _ _ _ _ us hl => match us, hl with | [_, _], _ => rfl) (fun vs H Q E h => ?_) fun A outer s H vs Q E cdv hr h => ?_
  · obtain ⟨z, n, f, rfl, _⟩ := h
    rfl
  · obtain ⟨z, n, many, rfl, hp, hn, hm, k⟩ := h
    refine ⟨_, (pss_cons (ps_set (i := 2) sc_Lnames.nd rfl (by first | exact Or.inl rfl | exact Or.inr rfl) pe_str)
 (pss_cons (ps_set (i := 3) sc_Lnames.nd rfl (by first | exact Or.inl rfl | exact Or.inr rfl) (pe_join pe_str (pe_lc (own := [("_law_k", 4)]) rfl sc_Lnames.nd (pi_range1 rfl T.n_range (pa_cons (pe_callR F_Ldraw (hr.mono (by first | decide | omega)) T.k_Ldraw rfl T.g__law_draw passL (pa_cons (pv 0) (pa_cons pe_int pa_nil))) pa_nil)) (blkOk_by (own := [("_law_k", 4)]) (N := N_Lnames) (sc := defScope s_Lnames) (by decide +kernel)) (fun _ _ _ _ _ => (pg_name (i := 4) sc_Lnames.nd rfl (by first | exact Or.inl rfl | exact Or.inr rfl))) (fun _ _ _ _ _ => pts_nil) (fun _ _ _ _ _ => (pe_callR F_Lpick (hr.mono (by first | decide | omega)) T.k_Lpick rfl T.g__law_pick passL (pa_cons (pv 0) (pa_cons (pv 2) pa_nil)))))))
 (pss_cons (ps_par (i := 5) (j := 6) (by rfl) sc_Lnames.nd rfl rfl (by decide) rfl rfl (pa_cons (pe_callR F_Ldraw (hr.mono (by first | decide | omega)) T.k_Ldraw rfl T.g__law_draw passL (pa_cons (pv 0) (pa_cons pe_int pa_nil))) (pa_cons (pe_lst pa_nil) pa_nil)) (by rfl))
 (pss_cons (ps_set (i := 7) sc_Lnames.nd rfl (by first | exact Or.inl rfl | exact Or.inr rfl) (pe_callR F_Lpick (hr.mono (by first | decide | omega)) T.k_Lpick rfl T.g__law_pick passL (pa_cons (pv 0) (pa_cons (pe_lst (pa_cons pe_int (pa_cons pe_int (pa_cons pe_int (pa_cons pe_int (pa_cons pe_int (pa_cons pe_int (pa_cons pe_int (pa_cons pe_int (pa_cons pe_int (pa_cons pe_int (pa_cons pe_int (pa_cons pe_int pa_nil))))))))))))) pa_nil))))
 (pss_cons (ps_for (passes_of rfl) rfl (pi_range1 rfl T.n_range (pa_cons (pv 1) pa_nil)) (pg_name (i := 4) sc_Lnames.nd rfl (by first | exact Or.inl rfl | exact Or.inr rfl))
 (pss_cons (ps_set (i := 8) sc_Lnames.nd rfl (by first | exact Or.inl rfl | exact Or.inr rfl) (pe_ix (ix_seqK (K := K) rfl) (pv 2) (pe_op op_mod (pe_callTy call_intU rfl T.n_int (by decide +kernel) (pa_cons (pe_op (op_addUK (K := K) rfl) (pv 5) (pe_op op_mulU (pv 7) (pv 4))) pa_nil)) pe_int) (fun _ _ => rfl)))
 (C8.pss_cut (ps_set (i := 9) sc_Lnames.nd rfl (by first | exact Or.inl rfl | exact Or.inr rfl) (pe_ifExp (pt_cmpR op_lt (pv 4) pe_int (nomark _)) pe_str (pe_callR F_Lpick (hr.mono (by first | decide | omega)) T.k_Lpick rfl T.g__law_pick passL (pa_cons (pv 0) (pa_cons (pv 2) pa_nil)))))
 (pss_one (ps_expr (pe_bm PySem.F.plainAttrs_list PySem.F.slot_list_append PySem.F.type_list_append mt_append (pv 6) (pa_cons (pe_op (op_addUK (K := K) rfl) (pe_ix (ix_seqK (K := K) rfl) (pe_lst (pa_cons (pe_op (op_addUK (K := K) rfl) (pv 3) (pv 8)) (pa_cons (pe_op (op_addUK (K := K) rfl) (pv 8) (pv 3)) pa_nil))) (pe_op op_mod (pe_callB (call_lenUK (K := K) rfl) rfl T.n_len (by decide +kernel) (pa_cons (pv 3) pa_nil)) pe_int) (fun _ _ => rfl)) (pv 9)) pa_nil)))))))
 (pss_one (ps_ret (pv 6)))))))), ?_⟩
    try dsimp only [cxOf]
    walk_at "go"
    refine r_draw hp (by decide) (by decide) (by omega) fun v1 n1 H1 v10 v11 hn1 kp1 hp1 => ?_
    walk_at "go"
    refine ⟨by omega, by omega, ?_⟩
    intro D hD
    refine lc_rng (n := v1.toNat) rfl (fun i H' => ∃ ss : List Str, ss.length = i ∧ (∀ x ∈ ss, ∃ c, Lt c ∧ x = ⟨#[c]⟩) ∧ Acc z H H' (n1 + 5 * i) D (ss.map V.str)) ⟨[], rfl, fun x hx => (List.not_mem_nil hx).elim, Acc.start kp1 hp1 hD⟩ (fun i H' hi ⟨ss, hl, hss, acc⟩ => ?_) fun H' ⟨ss, hl, hss, acc⟩ => ?_
    · walk_at "go"
      refine ⟨rfl, ?_⟩
      walk_at "go"
      refine r_pickS (s := lettersS) acc.pen (by decide +kernel) (by decide +kernel) (by omega) fun c n2 H2 hc hn2 kp2 hp2 => ?_
      have acc2 := acc.go kp2 hp2
      refine ⟨_, acc2.l, by rw [List.length_map]; show _ < 16777216; omega, ss ++ [⟨#[c]⟩], by simp [hl], fun x hx => ?_, ?_⟩
      · rcases List.mem_append.mp hx with y | y
        · exact hss x y
        · exact ⟨c, letters_mem hc, by simpa using y⟩
      · rw [List.map_append]
        exact (acc2.put _).mono (by omega)
    · walk_at "go"
      refine ⟨_, D, ss, rfl, rfl, .inl (SqL.of acc.l), ?_, ?_⟩
      · rw [ones_sum hss]
        show _ + _ * 0 ≤ 16777216
        omega
      · have hstem : ∃ stem : Str, Txt.join "" ss = stem ∧ stem.length ≤ 6 ∧ ∀ c ∈ cl stem, Lt c := ⟨_, rfl, by rw [(join_ones hss).1]; omega, (join_ones hss).2⟩
        obtain ⟨stem, es, hs1, hs2⟩ := hstem
        rw [es]
        walk_at "go"
        refine r_draw acc.pen (by decide) (by decide) (by omega) fun v3 n3 H3 v30 v31 hn3 kp3 hp3 => ?_
        have kp3' := acc.kp.trans kp3
        walk_at "go"
        refine ⟨by decide, fun p hq => ?_⟩
        have acc4 := Acc.start (xs := []) kp3' hp3 hq
        generalize upd H3 p (.lst []) = H4 at *
        walk_at "go"
        refine ⟨by decide, fun p2 hq2 => ?_⟩
        have acc5 := acc4.newO (o := .lst (stepsL.map V.int)) hq2
        have hl5 : (upd H4 p2 (.lst (stepsL.map V.int))) p2 = some (.lst (stepsL.map V.int)) := upd_same
        have e5 : HO.lst [.int 1, .int 3, .int 5, .int 7, .int 9, .int 11, .int 15, .int 17, .int 19, .int 21, .int 23, .int 25] = .lst (stepsL.map V.int) := rfl
        rw [e5]
        generalize upd H4 p2 (.lst (stepsL.map V.int)) = H5 at *
        walk_at "go"
        refine r_pickL acc5.pen (SqL.of hl5) (by decide) (by decide) (by omega) fun v6 n6 H6 hv6 hn6 kp6 hp6 => ?_
        have acc6 := acc5.go kp6 hp6
        obtain ⟨step, rfl, hstep⟩ := stepsV hv6
        walk_at "go"
        refine ⟨by omega, by omega, ?_⟩
        refine for_rng (n := many) (by simp) (fun i σ' H' => ∃ o4 o8 o9, ∃ names : List Str, σ' = [some (.ref z.a), some (.int many), some (.str lettersS), some (.str stem), o4, some (.int v3), some (.ref p), some (.int step), o8, o9] ∧
          names.length = i ∧ NmRow stem v3 step names ∧ Acc z H H' (n6 + 5 * i) p (names.map V.str)) ⟨_, _, _, [], rfl, rfl, fun j x hj => by simp at hj, acc6⟩ (fun i σ' H' hi ⟨o4, o8, o9, names, e, hl, hrow, acc⟩ => ?_) fun σ' H' ⟨o4, o8, o9, names, e, hl, hrow, acc⟩ => ?_
        · subst e
          walk_at "go"
          have hm0 := Int.emod_nonneg (v3 + step * i) (show (26 : Int) ≠ 0 by decide)
          have hm1 := Int.emod_lt_of_pos (v3 + step * i) (show (0 : Int) < 26 by decide)
          refine r_ixS (by decide +kernel) (letters_at hm0 hm1) ?_
          have hownlt := ownAt_lt v3 step i
          have eown : 97 + ((v3 + step * i) % 26).toNat = ownAt v3 step i := rfl
          rw [eown]
          walk_at "go"
          refine r_cut (fun σ' H7 => ∃ (tail : Str) (n7 : Nat), σ' = [some (.ref z.a), some (.int many), some (.str lettersS), some (.str stem), some (.int i), some (.int v3), some (.ref p), some (.int step), some (.str ⟨#[ownAt v3 step i]⟩), some (.str tail)] ∧
            TailOk i (cl tail) ∧ tail.length ≤ 1 ∧ n7 ≤ n6 + 5 * i + 5 ∧ Acc z H H7 n7 p (names.map V.str)) ?_ ?_
          · walk_at "go"
            refine r_iteD (fun h1 => ?_) fun h1 => ?_
            · walk_at "go"
              exact ⟨_, _, rfl, ⟨fun _ => rfl, fun h => absurd h (by omega)⟩, by decide, by omega, acc⟩
            · walk_at "go"
              refine r_pickS (s := lettersS) acc.pen (by decide +kernel) (by decide +kernel) (by omega) fun c n2 H2 hc hn2 kp2 hp2 => ?_
              walk_at "go"
              exact ⟨_, _, rfl, ⟨fun h => absurd h (by omega), fun _ => ⟨c, letters_mem hc, rfl⟩⟩, Nat.le_refl 1, by omega, acc.go kp2 hp2⟩
          · rintro σ' H7 ⟨tail, n7, rfl, ht, ht1, hn7, acc7⟩
            walk_at "go"
            refine ⟨ty_list acc7.l, ?_⟩
            walk_at "go"
            refine r_addS (by show _ + 1 ≤ 16777216; omega) ?_
            walk_at "go"
            refine r_addS (by show 1 + _ ≤ 16777216; omega) ?_
            walk_at "go"
            refine ⟨by show 2 ≤ 16777216; decide, fun p2 hq2 => ?_⟩
            walk_at "go"
            refine r_lenS (by show _ ≤ 16777216; omega) ?_
            walk_at "go"
            have acc8 := acc7.newO (o := .lst [.str (stem ++ ⟨#[ownAt v3 step i]⟩), .str (⟨#[ownAt v3 step i]⟩ ++ stem)]) hq2
            have hx : ∃ y : Str, atI [V.str (stem ++ ⟨#[ownAt v3 step i]⟩), V.str (⟨#[ownAt v3 step i]⟩ ++ stem)] ((stem.length : Int) % 2) = some (.str y) ∧ cl y = nmL (cl stem) (ownAt v3 step i) := by
              unfold nmL
              rw [cl_len]
              rcases Nat.mod_two_eq_zero_or_one stem.length with h | h
              · refine ⟨stem ++ ⟨#[ownAt v3 step i]⟩, ?_, by rw [if_pos h, cl_app, cl_one]⟩
                have e : (stem.length : Int) % 2 = ((0 : Nat) : Int) := by omega
                rw [e]
                exact atI_nat rfl
              · refine ⟨⟨#[ownAt v3 step i]⟩ ++ stem, ?_, by rw [if_neg (by omega), cl_app, cl_one]; rfl⟩
                have e : (stem.length : Int) % 2 = ((1 : Nat) : Int) := by omega
                rw [e]
                exact atI_nat rfl
            obtain ⟨y, hy1, hy2⟩ := hx
            have hyl : y.length ≤ 7 := by
              rw [← cl_len, hy2, nmL_len, cl_len]
              omega
            refine r_ixL (SqL.of upd_same) hy1 ?_
            walk_at "go"
            refine r_addS (by show _ ≤ 16777216; omega) ?_
            walk_at "go"
            refine r_append acc8.l (by rw [List.length_map]; show _ < 16777216; omega) ?_
            have acc9 := acc8.put (names.map V.str ++ [.str (y ++ tail)])
            generalize upd (upd H7 p2 _) p _ = H9 at *
            walk_at "go"
            refine ⟨_, _, _, names ++ [y ++ tail], rfl, by simp [hl], hrow.snoc (t := cl tail) (by rw [cl_app, hl, hy2]) (by rw [hl]; exact ht), ?_⟩
            rw [List.map_append]
            exact acc9.mono (by omega)
        · subst e
          walk_at "go"
          exact k _ _ _ ⟨p, names, rfl, acc.new, acc.l, by rw [← hl]; exact names_ok (by omega) hs1 hs2 hstep hrow⟩ (by omega) acc.kp acc.pen
theorem r_names {z : PenI} {H : Hp} {n many : Nat} {i : Int} {Q : VK} {E : XK} (hi : i = many) (hp : Pen H z n) (h1 : n + 1000 ≤ 10 ^ 17) (h2 : many ≤ 52) (k : ∀ p names n' H', H p = none → H' p = some (.lst (names.map V.str)) → NamesOk names many → n' ≤ n + 400 → Kp H H' → Pen H' z n' → Q (.ref p) H') :
    spNames [.ref z.a, .int i] H Q E := ⟨z, n, many, by rw [hi], hp, h1, h2, fun v n' H' ⟨p, names, e, a, b, c⟩ d f g => by
      subst e
      exact k p names n' H' a b c d f g⟩
end
end Tx

set_option maxRecDepth 100000
set_option maxHeartbeats 4000000
namespace Tx
open PySem PySem.Spec PyProof.Rows L2 My
section
variable {P : Program} {w : World} {K : PySem.W.Frag} {mg : Str → Option Value} {base : Heap}
def spRows (N : Nat) : Sp := fun vs H Q _ => ∃ z n, ∃ most : Nat, vs = [.ref (PenI.a z), .int most] ∧ Pen H z n ∧ n + 20000 ≤ 10 ^ 17 ∧ 1 ≤ most ∧ most ≤ 40 ∧ Aft z H n 10000 (RowsR H) Q
theorem v2 {a b v : V} (h : v ∈ [a, b]) : v = a ∨ v = b := by simpa using h
theorem v3 {a b c v : V} (h : v ∈ [a, b, c]) : v = a ∨ v = b ∨ v = c := by simpa using h
section
variable {z : PenI} {H0 H : Hp} {n : Nat} {p : Addr} {vs : List V} {Q : VK} {E : XK}
theorem accPick {q : Addr} {xs : List V} (a : Acc z H0 H n p vs) (hq : H q = none) (h0 : xs ≠ []) (h1 : xs.length ≤ 1000) (hn : n ≤ 10 ^ 17) (k : ∀ v n' H', v ∈ xs → n' ≤ n + 5 → Kp H H' → Acc z H0 H' n' p vs → Q v H') :
    spPick K [.ref z.a, .ref q] (upd H q (.lst xs)) Q E :=
  r_pickL (a.newO hq).pen (SqL.of upd_same) h0 h1 hn fun v n' H' h2 h3 h4 h5 => k v n' H' h2 h3 ((Kp.new hq).trans h4) ((a.newO hq).go h4 h5)
theorem accDraw {many : Int} (a : Acc z H0 H n p vs) (h1 : 1 ≤ many) (h2 : many ≤ 10 ^ 34) (h3 : n ≤ 10 ^ 17) (k : ∀ v n' H', 0 ≤ v → v < many → n' ≤ n + 5 → Kp H H' → Acc z H0 H' n' p vs → Q (.int v) H') :
    spDraw [.ref z.a, .int many] H Q E := r_draw a.pen h1 h2 h3 fun v n' H' h4 h5 h6 h7 h8 => k v n' H' h4 h5 h6 h7 (a.go h7 h8)
theorem accAround {most : Int} (a : Acc z H0 H n p vs) (h1 : 0 ≤ most) (h2 : most ≤ 10 ^ 33) (h3 : n ≤ 10 ^ 17) (k : ∀ v n' H', -most ≤ v → v ≤ most → n' ≤ n + 5 → Kp H H' → Acc z H0 H' n' p vs → Q (.int v) H') :
    spAround [.ref z.a, .int most] H Q E := r_around a.pen h1 h2 h3 fun v n' H' h4 h5 h6 h7 h8 => k v n' H' h4 h5 h6 h7 (a.go h7 h8)
theorem accGreat {f : Nat} {i : Int} (hi : i = f) (a : Acc z H0 H n p vs) (h1 : 2 ≤ f) (h2 : f ≤ 30) (h3 : n + 100 ≤ 10 ^ 17) (k : ∀ v n' H', 0 ≤ v → v < 10 ^ f → n' ≤ n + 30 → Kp H H' → Acc z H0 H' n' p vs → Q (.int v) H') :
    spGreat [.ref z.a, .int i] H Q E := r_great hi a.pen h1 h2 h3 fun v n' H' h4 h5 h6 h7 h8 => k v n' H' h4 h5 h6 h7 (a.go h7 h8)
end
/-- one of two signs -/
theorem sign_of {v : V} (h : v ∈ [V.int 1, V.int (-1)]) : ∃ s : Int, v = .int s ∧ (s = 1 ∨ s = -1) := by
  rcases v2 h with rfl | rfl
  · exact ⟨1, rfl, .inl rfl⟩
  · exact ⟨-1, rfl, .inr rfl⟩
theorem label_at {names : List Str} {i : Nat} {x : V} (hx : (names.map V.str)[i]? = some x) : ∃ label, names[i]? = some label ∧ x = .str label ∧ i < names.length := by
  rw [List.getElem?_map] at hx
  obtain ⟨l, h, e⟩ := Option.map_eq_some_iff.mp hx
  exact ⟨l, h, e.symm, (List.getElem?_eq_some_iff.mp h).1⟩
theorem ok_small (T : Tx K mg) : FnR P w K mg base (L2.CX P w) 8 (a_Lsmall K) (spRows 0) := by
  have F_Ldraw := ok_draw (P := P) (w := w) (base := base) T
  have F_Lpick := ok_pick (P := P) (w := w) (base := base) T
  have F_Laround := ok_around (P := P) (w := w) (base := base) T
  have F_Lnames := ok_names (P := P) (w := w) (base := base) T
  refine fnR_of T.f_Lsmall sc_Lsmall (fun _ _ _ _ _ _ us hl => match us, hl with | [_, _], _ => rfl) (fun vs H Q E h => ?_) fun A outer s H vs Q E cdv hr h => ?_
  · obtain ⟨z, n, f, rfl, _⟩ := h
    rfl
  · obtain ⟨z, n, most, rfl, hp, hn, m0, m1, k⟩ := h
    refine ⟨_, (pss_cons (ps_par (i := 2) (j := 3) (by rfl) sc_Lsmall.nd rfl rfl (by decide) rfl rfl (pa_cons (pe_lst pa_nil) (pa_cons (pe_op (op_addUK (K := K) rfl) pe_int (pe_callR F_Ldraw (hr.mono (by first | decide | omega)) T.k_Ldraw rfl T.g__law_draw passL (pa_cons (pv 0) (pa_cons (pv 1) pa_nil)))) pa_nil)) (by rfl))
 (pss_cons (ps_for (passes_of rfl) rfl (pi_anyK (K := K) rfl (pe_callR F_Lnames (hr.mono (by first | decide | omega)) T.k_Lnames rfl T.g__law_names passL (pa_cons (pv 0) (pa_cons (pv 3) pa_nil)))) (pg_name (i := 4) sc_Lsmall.nd rfl (by first | exact Or.inl rfl | exact Or.inr rfl))
 (pss_cons (ps_set (i := 5) sc_Lsmall.nd rfl (by first | exact Or.inl rfl | exact Or.inr rfl) (pe_op (op_addUK (K := K) rfl) pe_int (pe_callR F_Lpick (hr.mono (by first | decide | omega)) T.k_Lpick rfl T.g__law_pick passL (pa_cons (pv 0) (pa_cons (pe_lst (pa_cons (pe_callR F_Ldraw (hr.mono (by first | decide | omega)) T.k_Ldraw rfl T.g__law_draw passL (pa_cons (pv 0) (pa_cons pe_int pa_nil))) (pa_cons (pe_callR F_Ldraw (hr.mono (by first | decide | omega)) T.k_Ldraw rfl T.g__law_draw passL (pa_cons (pv 0) (pa_cons pe_int pa_nil))) pa_nil))) pa_nil)))))
 (pss_cons (ps_set (i := 5) sc_Lsmall.nd rfl (by first | exact Or.inl rfl | exact Or.inr rfl) (pe_op op_mulU (pv 5) (pe_callR F_Lpick (hr.mono (by first | decide | omega)) T.k_Lpick rfl T.g__law_pick passL (pa_cons (pv 0) (pa_cons (pe_lst (pa_cons pe_int (pa_cons (pe_un un_neg pe_int) pa_nil))) pa_nil)))))
 (pss_cons (ps_set (i := 6) sc_Lsmall.nd rfl (by first | exact Or.inl rfl | exact Or.inr rfl) (pe_callR F_Lpick (hr.mono (by first | decide | omega)) T.k_Lpick rfl T.g__law_pick passL (pa_cons (pv 0) (pa_cons (pe_lst (pa_cons pe_int (pa_cons pe_int (pa_cons (pe_callR F_Ldraw (hr.mono (by first | decide | omega)) T.k_Ldraw rfl T.g__law_draw passL (pa_cons (pv 0) (pa_cons pe_int pa_nil))) pa_nil)))) pa_nil))))
 (pss_cons (ps_expr (pe_bm PySem.F.plainAttrs_list PySem.F.slot_list_append PySem.F.type_list_append mt_append (pv 2) (pa_cons (pe_tup (pa_cons (pv 4) (pa_cons (pv 6) (pa_cons (pe_callR F_Laround (hr.mono (by first | decide | omega)) T.k_Laround rfl T.g__law_around passL (pa_cons (pv 0) (pa_cons pe_int pa_nil))) (pa_cons (pv 5) pa_nil))))) pa_nil)))
 (pss_one (ps_if (PW.pt (pw_and (pt_cmpR op_gt (pe_callB (call_lenUK (K := K) rfl) rfl T.n_len (by decide +kernel) (pa_cons (pv 2) pa_nil)) pe_int (nomark _)) (pw_and1 (pt_cmpR (op_eqUK (K := K) rfl hr.units) (pe_callR F_Ldraw (hr.mono (by first | decide | omega)) T.k_Ldraw rfl T.g__law_draw passL (pa_cons (pv 0) (pa_cons pe_int pa_nil))) pe_int (nomark _)))))
 (pss_one (ps_asg (pe_op (op_addUK (K := K) rfl) (pe_tup (pa_cons (pv 4) pa_nil)) (pe_slice (sl_anyK (K := K) rfl) (pe_callR F_Lpick (hr.mono (by first | decide | omega)) T.k_Lpick rfl T.g__law_pick passL (pa_cons (pv 0) (pa_cons (pe_slice (sl_anyK (K := K) rfl) (pv 2) po_none (po_some (pe_un un_neg pe_int))) pa_nil))) (po_some pe_int) po_none)) (pg_sub (pv 2) (pe_un un_neg pe_int) set_list)))
 pss_nil)))))))
 (pss_one (ps_ret (pv 2))))), ?_⟩
    try dsimp only [cxOf]
    walk_at "go"
    refine ⟨by decide, fun p hq => ?_⟩
    have acc := Acc.start (xs := []) (Kp.refl H) hp hq
    generalize upd H p (.lst []) = H1 at acc
    walk_at "go"
    refine accDraw acc (by omega) (by omega) (by omega) fun v2 n2 H2 v20 v21 hn2 kp2 acc2 => ?_
    walk_at "go"
    obtain ⟨many, hm⟩ : ∃ m : Nat, 1 + v2 = m := ⟨(1 + v2).toNat, by omega⟩
    rw [hm]
    refine r_iL ?_
    walk_at "go"
    refine r_names rfl acc2.pen (by omega) (by omega) fun q names n3 H3 hq0 hq1 hok hn3 kp3 hp3 => ?_
    have acc3 := acc2.go kp3 hp3
    refine ⟨_, rfl, ⟨_, SqL.of hq1⟩, ?_⟩
    have hne : q ≠ p := fun e => by
      rw [e, acc2.l] at hq0
      cases hq0
    refine for_list (fun i σ' H' => ∃ n', ∃ o4 o5 o6 : Option V, ∃ vs rs, σ' = [some (.ref z.a), some (.int most), some (.ref p), some (.int many), o4, o5, o6] ∧ n' ≤ n3 + 50 * i ∧ RI z H H' n' p q names i vs rs)
      ⟨n3, _, _, _, [], [], rfl, by omega, .start acc3 hq1 hne⟩ (fun i σ' H' _ ⟨n', o4, o5, o6, vs, rs, e, h1, h2⟩ => SqL.of h2.src) (fun i x σ' H' hx ⟨n', o4, o5, o6, vs, rs, e, h1, h2⟩ => ?_)
      fun σ' H' ⟨n', o4, o5, o6, vs, rs, e, h1, h2⟩ => ?_
    · subst e
      have hlen : names.length ≤ 40 := by have := hok.1; omega
      obtain ⟨label, hlab, rfl, hi⟩ := label_at hx
      walk_at "go"
      refine accDraw h2.acc (by decide) (by decide) (by omega) fun v4 n4 H4 v40 v41 hn4 kp4 acc4 => ?_
      walk_at "go"
      refine accDraw acc4 (by decide) (by decide) (by omega) fun v5 n5 H5 v50 v51 hn5 kp5 acc5 => ?_
      walk_at "go"
      refine ⟨by show 2 ≤ 16777216; decide, fun q6 hq6 => ?_⟩
      walk_at "go"
      refine accPick acc5 hq6 (by simp) (by simp) (by omega) fun v6 n6 H6 v60 hn6 kp6 acc6 => ?_
      obtain ⟨pace0, rfl, hpace0⟩ : ∃ i, v6 = .int i ∧ 0 ≤ i ∧ i < 6 := by
        rcases Tx.v2 v60 with rfl | rfl
        · exact ⟨_, rfl, v40, v41⟩
        · exact ⟨_, rfl, v50, by omega⟩
      walk_at "go"
      refine ⟨by show 2 ≤ 16777216; decide, fun q7 hq7 => ?_⟩
      walk_at "go"
      refine accPick acc6 hq7 (by simp) (by simp) (by omega) fun v7 n7 H7 v70 hn7 kp7 acc7 => ?_
      obtain ⟨sg, rfl, hsg⟩ := sign_of v70
      walk_at "go"
      refine accDraw acc7 (by decide) (by decide) (by omega) fun v8 n8 H8 v80 v81 hn8 kp8 acc8 => ?_
      walk_at "go"
      refine ⟨by show 3 ≤ 16777216; decide, fun q9 hq9 => ?_⟩
      walk_at "go"
      refine accPick acc8 hq9 (by simp) (by simp) (by omega) fun v9 n9 H9 v90 hn9 kp9 acc9 => ?_
      obtain ⟨date, rfl, hdate⟩ : ∃ i, v9 = .int i ∧ 0 ≤ i ∧ i < 7 := by
        rcases Tx.v3 v90 with rfl | rfl | rfl
        · exact ⟨_, rfl, by decide, by decide⟩
        · exact ⟨_, rfl, by decide, by decide⟩
        · exact ⟨_, rfl, v80, by omega⟩
      walk_at "go"
      refine ⟨ty_list acc9.l, ?_⟩
      walk_at "go"
      refine accAround acc9 (by decide) (by decide) (by omega) fun v10 n10 H10 v100 v101 hn10 kp10 acc10 => ?_
      walk_at "go"
      refine ⟨by show 4 ≤ 16777216; decide, fun q11 hq11 => ?_⟩
      walk_at "go"
      have hpg : (1 + pace0) * sg = 1 + pace0 ∨ (1 + pace0) * sg = -(1 + pace0) := by
        rcases hsg with rfl | rfl
        · exact .inl (by omega)
        · exact .inr (by omega)
      have hrow : NumOk ⟨label, date, v10, (1 + pace0) * sg⟩ := ⟨hdate.1, by show date ≤ _; omega, by show _ ≤ v10; omega, by show v10 ≤ _; omega, by show _ ≤ (1 + pace0) * sg; omega, by show (1 + pace0) * sg ≤ _; omega, by show (1 + pace0) * sg ≠ 0; omega⟩
      have kpA : Kp H' H10 := kp4.trans (kp5.trans (kp6.trans (kp7.trans (kp8.trans (kp9.trans kp10)))))
      have ri := (h2.go kpA acc10).new (o := .tup [.str label, .int date, .int v10, .int ((1 + pace0) * sg)]) hq11
      have hvl := ri.len
      refine r_append ri.acc.l (by show vs.length < 16777216; omega) ?_
      have ri := ri.app (t := q11) (row := ⟨label, date, v10, (1 + pace0) * sg⟩) upd_same hlab hrow
      generalize rs ++ [_] = rs2 at ri
      generalize hvs : vs ++ [V.ref q11] = vs2 at ri ⊢
      generalize upd (upd H10 q11 _) p _ = H12 at ri ⊢
      have hvl2 := ri.eqlen (by omega)
      walk_at "go"
      refine r_lenL (SqL.of ri.acc.l) ?_
      walk_at "go"
      refine r_iteD (fun hl2 => ?_) fun hl2 => ?_
      · walk_at "go"
        refine accDraw ri.acc (by decide) (by decide) (by omega) fun v13 n13 H13 v130 v131 hn13 kp13 acc13 => ?_
        have ri := ri.go kp13 acc13
        walk_at "go"
        refine r_iteD (fun hz => ?_) fun hz => ?_
        · walk_at "go"
          refine ⟨by show 1 ≤ 16777216; decide, fun q14 hq14 => ?_⟩
          have ri14 := ri.new (o := .tup [.str label]) hq14
          have hq14' : (upd H13 q14 (.tup [.str label])) q14 = some (.tup [.str label]) := upd_same
          generalize upd H13 q14 (.tup [.str label]) = H14 at ri14 hq14' ⊢
          walk_at "go"
          refine r_slL (SqL.of ri14.acc.l) fun q15 hq15 => ?_
          rw [cut_last (by omega)]
          walk_at "go"
          refine accPick ri14.acc hq15 (fun e => ?_) (by rw [List.length_take]; omega) (by omega) fun v16 n16 H16 v160 hn16 kp16 acc16 => ?_
          · have := congrArg List.length e
            rw [List.length_take] at this
            have e0 : ([] : List V).length = 0 := rfl
            omega
          have ri16 := ri14.go kp16 acc16
          obtain ⟨q17, row, hrm, rfl, hq17⟩ := ri16.rows.mem (List.mem_of_mem_take v160)
          walk_at "go"
          refine r_slA hq17 (fun h => (show ¬ (HT.sIx 4 0 (some 1) = 0) by decide) h.1) fun q18 hq18 => ?_
          have ri18 := ri16.new (o := .tup [.int row.day, .int row.post, .int row.pace]) hq18
          have hq18' : (upd H16 q18 (.tup [.int row.day, .int row.post, .int row.pace])) q18 = some (.tup [.int row.day, .int row.post, .int row.pace]) := upd_same
          have hq14'' : (upd H16 q18 (.tup [.int row.day, .int row.post, .int row.pace])) q14 = some (.tup [.str label]) := (Kp.new hq18).t (kp16.t hq14')
          have e18 : HO.tup (cutV (rowV row) (some 1) none) = .tup [.int row.day, .int row.post, .int row.pace] := rfl
          rw [e18]
          generalize upd H16 q18 _ = H18 at ri18 hq18' hq14'' ⊢
          walk_at "go"
          refine r_catA hq14'' hq18' (by simp) (by simp) (by show 4 ≤ 16777216; decide) fun q19 hq19 => ?_
          have ri19 := ri18.new (o := .tup [.str label, .int row.day, .int row.post, .int row.pace]) hq19
          have hq19' : (upd H18 q19 (.tup [.str label, .int row.day, .int row.post, .int row.pace])) q19 = some (.tup (rowV ⟨label, row.day, row.post, row.pace⟩)) := upd_same
          have e19 : HO.tup ([.str label] ++ [.int row.day, .int row.post, .int row.pace]) = .tup [.str label, .int row.day, .int row.post, .int row.pace] := rfl
          rw [e19]
          generalize upd H18 q19 _ = H19 at ri19 hq19' ⊢
          walk_at "go"
          refine r_setL ri19.acc.l (ixN_last (by omega)) ?_
          have ri20 := ri19.set (j := vs2.length - 1) hq19' (by rw [hvl2]; exact hlab) (by omega) (show NumOk ⟨label, row.day, row.post, row.pace⟩ from (ri16.nums row hrm : NumOk row))
          walk_at "go"
          exact ⟨n3 + 50 * (i + 1), _, _, _, _, _, rfl, Nat.le_refl _, ri20.mono (by omega)⟩
        · walk_at "go"
          exact ⟨n3 + 50 * (i + 1), _, _, _, _, _, rfl, Nat.le_refl _, ri.mono (by omega)⟩
      · walk_at "go"
        exact ⟨n3 + 50 * (i + 1), _, _, _, _, _, rfl, Nat.le_refl _, ri.mono (by omega)⟩
    · subst e
      walk_at "go"
      rw [List.length_map, hok.1] at h1 h2
      exact k _ _ _ (h2.done hok (Nat.le_refl _) (by omega)) (by omega) h2.acc.kp h2.acc.pen
end
end Tx

set_option maxRecDepth 100000
set_option maxHeartbeats 4000000
namespace Tx
open PySem PySem.Spec PyProof.Rows L2 My
section
variable {P : Program} {w : World} {K : PySem.W.Frag} {mg : Str → Option Value} {base : Heap}
def HubsAt (H : Hp) (hvs : List V) : Prop := ∀ v ∈ hvs, ∃ t, ∃ d s : Int, v = .ref t ∧ H t = some (.tup [.int d, .int s]) ∧ 10 ^ 12 ≤ d ∧ d < 10 ^ 12 + 10 ^ 29 ∧ -(10 ^ 28) < s ∧ s < 10 ^ 28
theorem HubsAt.kp {H H' : Hp} {hvs : List V} (h : HubsAt H hvs) (k : Kp H H') : HubsAt H' hvs := fun v hv => by
  obtain ⟨t, d, s, e, ht, b⟩ := h v hv
  exact ⟨t, d, s, e, k.t ht, b⟩
theorem HubsAt.put {H : Hp} {p : Addr} {hvs xs ys : List V} (h : HubsAt H hvs) (e : H p = some (.lst xs)) : HubsAt (upd H p (.lst ys)) hvs := fun v hv => by
  obtain ⟨t, d, s, e1, ht, b⟩ := h v hv
  exact ⟨t, d, s, e1, by rw [upd_ne (ne_of ht e (by intro z; cases z))]; exact ht, b⟩
theorem HubsAt.snoc {H : Hp} {hvs : List V} {t : Addr} {d s : Int} (h : HubsAt H hvs) (ht : H t = some (.tup [.int d, .int s])) (h1 : 10 ^ 12 ≤ d) (h2 : d < 10 ^ 12 + 10 ^ 29) (h3 : -(10 ^ 28) < s) (h4 : s < 10 ^ 28) : HubsAt H (hvs ++ [.ref t]) := fun v hv => by
  rcases List.mem_append.mp hv with y | y
  · exact h v y
  · have : v = .ref t := by simpa using y
    exact ⟨t, d, s, this, ht, h1, h2, h3, h4⟩
theorem sg_mul {a s b : Int} (hs : s = 1 ∨ s = -1) (h0 : 0 ≤ a) (h1 : a < b) : -b < a * s ∧ a * s < b := by
  rcases hs with rfl | rfl
  · omega
  · omega
theorem mulB {a b A B : Int} (a0 : 0 ≤ a) (a1 : a ≤ A) (b0 : 0 ≤ b) (b1 : b ≤ B) : 0 ≤ a * b ∧ a * b ≤ A * B := ⟨Int.mul_nonneg a0 b0, Int.mul_le_mul a1 b1 b0 (by omega)⟩
theorem mulS {a b A B : Int} (a0 : 0 ≤ a) (a1 : a ≤ A) (b0 : -B ≤ b) (b1 : b ≤ B) : -(A * B) ≤ a * b ∧ a * b ≤ A * B := by
  rcases Int.le_total 0 b with h | h
  · have := mulB a0 a1 h b1
    omega
  · have := mulB a0 a1 (show 0 ≤ -b by omega) (show -b ≤ B by omega)
    rw [Int.mul_neg] at this
    omega
theorem ok_aimed (T : Tx K mg) : FnR P w K mg base (L2.CX P w) 8 (a_Laimed K) (spRows 0) := by
  have F_Ldraw := ok_draw (P := P) (w := w) (base := base) T
  have F_Lpick := ok_pick (P := P) (w := w) (base := base) T
  have F_Lgreat := ok_great (P := P) (w := w) (base := base) T
  have F_Lnames := ok_names (P := P) (w := w) (base := base) T
  refine fnR_of T.f_Laimed sc_Laimed (fun _ _ _ _ _ _ us hl => match us, hl with | [_, _], _ => rfl) (fun vs H Q E h => ?_) fun A outer s H vs Q E cdv hr h => ?_
  · obtain ⟨z, n, f, rfl, _⟩ := h
    rfl
  · obtain ⟨z, n, most, rfl, hp, hn, m0, m1, k⟩ := h
    refine ⟨_, (pss_cons (ps_par (i := 2) (j := 3) (by rfl) sc_Laimed.nd rfl rfl (by decide) rfl rfl (pa_cons (pe_lst pa_nil) (pa_cons (pe_op (op_addUK (K := K) rfl) pe_int (pe_callR F_Ldraw (hr.mono (by first | decide | omega)) T.k_Ldraw rfl T.g__law_draw passL (pa_cons (pv 0) (pa_cons (pv 1) pa_nil)))) pa_nil)) (by rfl))
 (pss_cons (ps_set (i := 4) sc_Laimed.nd rfl (by first | exact Or.inl rfl | exact Or.inr rfl) (pe_lst pa_nil))
 (pss_cons (ps_for (passes_of rfl) rfl (pi_range1 rfl T.n_range (pa_cons pe_int pa_nil)) (pg_name (i := 5) sc_Laimed.nd rfl (by first | exact Or.inl rfl | exact Or.inr rfl))
 (pss_cons (ps_set (i := 6) sc_Laimed.nd rfl (by first | exact Or.inl rfl | exact Or.inr rfl) (pe_op op_mulU (pe_callR F_Lgreat (hr.mono (by first | decide | omega)) T.k_Lgreat rfl T.g__law_great passL (pa_cons (pv 0) (pa_cons pe_int pa_nil))) (pe_callR F_Lpick (hr.mono (by first | decide | omega)) T.k_Lpick rfl T.g__law_pick passL (pa_cons (pv 0) (pa_cons (pe_lst (pa_cons pe_int (pa_cons (pe_un un_neg pe_int) pa_nil))) pa_nil)))))
 (pss_one (ps_expr (pe_bm PySem.F.plainAttrs_list PySem.F.slot_list_append PySem.F.type_list_append mt_append (pv 4) (pa_cons (pe_tup (pa_cons (pe_op (op_addUK (K := K) rfl) (pe_op op_pow pe_int pe_int) (pe_callR F_Lgreat (hr.mono (by first | decide | omega)) T.k_Lgreat rfl T.g__law_great passL (pa_cons (pv 0) (pa_cons pe_int pa_nil)))) (pa_cons (pv 6) pa_nil))) pa_nil))))))
 (pss_cons (ps_set (i := 7) sc_Laimed.nd rfl (by first | exact Or.inl rfl | exact Or.inr rfl) (pe_op (op_addUK (K := K) rfl) pe_int (pe_callR F_Lgreat (hr.mono (by first | decide | omega)) T.k_Lgreat rfl T.g__law_great passL (pa_cons (pv 0) (pa_cons pe_int pa_nil)))))
 (pss_cons (ps_for (passes_of rfl) rfl (pi_anyK (K := K) rfl (pe_callR F_Lnames (hr.mono (by first | decide | omega)) T.k_Lnames rfl T.g__law_names passL (pa_cons (pv 0) (pa_cons (pv 3) pa_nil)))) (pg_name (i := 8) sc_Laimed.nd rfl (by first | exact Or.inl rfl | exact Or.inr rfl))
 (pss_cons (ps_asg (pe_callR F_Lpick (hr.mono (by first | decide | omega)) T.k_Lpick rfl T.g__law_pick passL (pa_cons (pv 0) (pa_cons (pv 4) pa_nil))) (pg_tupK (K := K) (n := 2) rfl rfl (pgs_cons (pg_name (i := 9) sc_Laimed.nd rfl (by first | exact Or.inl rfl | exact Or.inr rfl)) (pgs_cons (pg_name (i := 6) sc_Laimed.nd rfl (by first | exact Or.inl rfl | exact Or.inr rfl)) pgs_nil))))
 (pss_cons (ps_set (i := 10) sc_Laimed.nd rfl (by first | exact Or.inl rfl | exact Or.inr rfl) (pe_lst (pa_cons (pe_callR F_Lgreat (hr.mono (by first | decide | omega)) T.k_Lgreat rfl T.g__law_great passL (pa_cons (pv 0) (pa_cons pe_int pa_nil))) (pa_cons (pe_op op_mulU (pv 7) (pe_op (op_addUK (K := K) rfl) pe_int (pe_callR F_Ldraw (hr.mono (by first | decide | omega)) T.k_Ldraw rfl T.g__law_draw passL (pa_cons (pv 0) (pa_cons pe_int pa_nil))))) (pa_cons (pe_callR F_Ldraw (hr.mono (by first | decide | omega)) T.k_Ldraw rfl T.g__law_draw passL (pa_cons (pv 0) (pa_cons pe_int pa_nil))) pa_nil)))))
 (pss_cons (ps_set (i := 11) sc_Laimed.nd rfl (by first | exact Or.inl rfl | exact Or.inr rfl) (pe_op op_mulU (pe_op (op_addUK (K := K) rfl) pe_int (pe_callR F_Lpick (hr.mono (by first | decide | omega)) T.k_Lpick rfl T.g__law_pick passL (pa_cons (pv 0) (pa_cons (pv 10) pa_nil)))) (pe_callR F_Lpick (hr.mono (by first | decide | omega)) T.k_Lpick rfl T.g__law_pick passL (pa_cons (pv 0) (pa_cons (pe_lst (pa_cons pe_int (pa_cons (pe_un un_neg pe_int) pa_nil))) pa_nil)))))
 (pss_cons (ps_set (i := 12) sc_Laimed.nd rfl (by first | exact Or.inl rfl | exact Or.inr rfl) (pe_callR F_Lpick (hr.mono (by first | decide | omega)) T.k_Lpick rfl T.g__law_pick passL (pa_cons (pv 0) (pa_cons (pe_lst (pa_cons (pe_callR F_Ldraw (hr.mono (by first | decide | omega)) T.k_Ldraw rfl T.g__law_draw passL (pa_cons (pv 0) (pa_cons pe_int pa_nil))) (pa_cons (pe_callR F_Lgreat (hr.mono (by first | decide | omega)) T.k_Lgreat rfl T.g__law_great passL (pa_cons (pv 0) (pa_cons pe_int pa_nil))) (pa_cons (pe_callR F_Lgreat (hr.mono (by first | decide | omega)) T.k_Lgreat rfl T.g__law_great passL (pa_cons (pv 0) (pa_cons pe_int pa_nil))) pa_nil)))) pa_nil))))
 (pss_cons (ps_set (i := 9) sc_Laimed.nd rfl (by first | exact Or.inl rfl | exact Or.inr rfl) (pe_op op_sub (pe_op (op_addUK (K := K) rfl) (pv 9) (pe_callR F_Lpick (hr.mono (by first | decide | omega)) T.k_Lpick rfl T.g__law_pick passL (pa_cons (pv 0) (pa_cons (pe_lst (pa_cons pe_int (pa_cons pe_int (pa_cons (pe_callR F_Ldraw (hr.mono (by first | decide | omega)) T.k_Ldraw rfl T.g__law_draw passL (pa_cons (pv 0) (pa_cons pe_int pa_nil))) pa_nil)))) pa_nil)))) (pv 12)))
 (pss_cons (ps_expr (pe_bm PySem.F.plainAttrs_list PySem.F.slot_list_append PySem.F.type_list_append mt_append (pv 2) (pa_cons (pe_tup (pa_cons (pv 8) (pa_cons (pv 9) (pa_cons (pe_op op_sub (pv 6) (pe_op op_mulU (pv 12) (pv 11))) (pa_cons (pv 11) pa_nil))))) pa_nil)))
 (pss_one (ps_if (PW.pt (pw_and (pt_cmpR op_gt (pe_callB (call_lenUK (K := K) rfl) rfl T.n_len (by decide +kernel) (pa_cons (pv 2) pa_nil)) pe_int (nomark _)) (pw_and1 (pt_cmpR (op_eqUK (K := K) rfl hr.units) (pe_callR F_Ldraw (hr.mono (by first | decide | omega)) T.k_Ldraw rfl T.g__law_draw passL (pa_cons (pv 0) (pa_cons pe_int pa_nil))) pe_int (nomark _)))))
 (pss_one (ps_asg (pe_op (op_addUK (K := K) rfl) (pe_tup (pa_cons (pv 8) pa_nil)) (pe_slice (sl_anyK (K := K) rfl) (pe_callR F_Lpick (hr.mono (by first | decide | omega)) T.k_Lpick rfl T.g__law_pick passL (pa_cons (pv 0) (pa_cons (pe_slice (sl_anyK (K := K) rfl) (pv 2) po_none (po_some (pe_un un_neg pe_int))) pa_nil))) (po_some pe_int) po_none)) (pg_sub (pv 2) (pe_un un_neg pe_int) set_list)))
 pss_nil)))))))))
 (pss_one (ps_ret (pv 2)))))))), ?_⟩
    try dsimp only [cxOf]
    walk_at "go"
    refine ⟨by decide, fun p hq => ?_⟩
    have acc := Acc.start (xs := []) (Kp.refl H) hp hq
    generalize upd H p (.lst []) = H1 at acc
    walk_at "go"
    refine accDraw acc (by omega) (by omega) (by omega) fun v2 n2 H2 v20 v21 hn2 kp2 acc2 => ?_
    walk_at "go"
    obtain ⟨many, hm⟩ : ∃ m : Nat, 1 + v2 = m := ⟨(1 + v2).toNat, by omega⟩
    rw [hm]
    refine ⟨by decide, fun hb hhb => ?_⟩
    have acb := Acc.start (xs := []) (Kp.refl H2) acc2.pen hhb
    generalize upd H2 hb (.lst []) = H3 at acb
    walk_at "go"
    refine ⟨by decide, by decide, ?_⟩
    refine for_rng (n := 3) rfl (fun i σ' H' => ∃ n', ∃ o5 o6 : Option V, ∃ hvs, σ' = [some (.ref z.a), some (.int most), some (.ref p), some (.int many), some (.ref hb), o5, o6, none, none, none, none, none, none] ∧ n' ≤ n2 + 100 * i ∧ hvs.length = i ∧ Acc z H2 H' n' hb hvs ∧ HubsAt H' hvs)
      ⟨n2, _, _, [], rfl, by omega, rfl, acb, fun v hv => (List.not_mem_nil hv).elim⟩ (fun i σ' H' hi ⟨n', o5, o6, hvs, e, h1, h2, h3, h4⟩ => ?_)
      fun σ' H' ⟨n', o5, o6, hvs, e, h1, h2, h3, h4⟩ => ?_
    · subst e
      walk_at "go"
      refine accGreat (f := 28) rfl h3 (by decide) (by decide) (by omega) fun v4 n4 H4 v40 v41 hn4 kp4 acc4 => ?_
      walk_at "go"
      refine ⟨by show 2 ≤ 16777216; decide, fun q5 hq5 => ?_⟩
      walk_at "go"
      refine accPick acc4 hq5 (by simp) (by simp) (by omega) fun v5 n5 H5 v50 hn5 kp5 acc5 => ?_
      obtain ⟨sg, rfl, hsg⟩ := sign_of v50
      walk_at "go"
      obtain ⟨b1, b2⟩ := sg_mul hsg v40 v41
      walk_at "go"
      refine ⟨ty_list acc5.l, ?_⟩
      walk_at "go"
      refine accGreat (f := 29) rfl acc5 (by decide) (by decide) (by omega) fun v6 n6 H6 v60 v61 hn6 kp6 acc6 => ?_
      walk_at "go"
      refine ⟨by show 2 ≤ 16777216; decide, fun q7 hq7 => ?_⟩
      have acc7 := acc6.newO (o := .tup [.int (10 ^ 12 + v6), .int (v4 * sg)]) hq7
      have hub7 := (h4.kp (kp4.trans (kp5.trans (kp6.then (o := .tup [.int (10 ^ 12 + v6), .int (v4 * sg)]) hq7)))).snoc (t := q7) (d := 10 ^ 12 + v6) (s := v4 * sg) upd_same (by omega) (by omega) b1 b2
      walk_at "go"
      refine r_append acc7.l (by show _ < 16777216; omega) ?_
      walk_at "go"
      exact ⟨_, _, _, _, rfl, (show n6 ≤ n2 + 100 * (i + 1) by omega), by simp [h2], acc7.put _, hub7.put acc7.l⟩
    · subst e
      walk_at "go"
      have acc3 := acc2.go h3.kp h3.pen
      have hhl := h3.l
      refine accGreat (f := 9) rfl acc3 (by decide) (by decide) (by omega) fun v4 n4 H4 v40 v41 hn4 kp4 acc4 => ?_
      have hub4 := h4.kp kp4
      have hhl4 := kp4.l hhl
      walk_at "go"
      refine r_iL ?_
      walk_at "go"
      refine r_names rfl acc4.pen (by omega) (by omega) fun q names n5 H5 hq0 hq1 hok hn5 kp5 hp5 => ?_
      have acc5 := acc4.go kp5 hp5
      have hub5 := hub4.kp kp5
      have hhl5 := kp5.l hhl4
      have hne : q ≠ p := fun e => by
        rw [e, acc4.l] at hq0
        cases hq0
      have hne2 : hb ≠ p := fun e => by
        have := acc2.l
        rw [e] at hhb
        rw [hhb] at this
        cases this
      have hvne : hvs ≠ [] := fun e => by rw [e] at h2; exact absurd h2 (by decide)
      refine ⟨_, rfl, ⟨_, SqL.of hq1⟩, ?_⟩
      refine for_list (fun i σ' H' => ∃ n', ∃ o6 o8 o9 o10 o11 o12 : Option V, ∃ vs rs, σ' = [some (.ref z.a), some (.int most), some (.ref p), some (.int many), some (.ref hb), o5, o6, some (.int (1 + v4)), o8, o9, o10, o11, o12] ∧ n' ≤ n5 + 200 * i ∧ RI z H H' n' p q names i vs rs ∧ HubsAt H' hvs ∧ H' hb = some (.lst hvs))
        ⟨n5, _, _, _, _, _, _, [], [], rfl, by omega, .start acc5 hq1 hne, hub5, hhl5⟩ (fun i σ' H' _ ⟨n', o6, o8, o9, o10, o11, o12, vs, rs, e, h1, h2, _⟩ => SqL.of h2.src) (fun i x σ' H' hx ⟨n', o6, o8, o9, o10, o11, o12, vs, rs, e, h1, h2, hub, hhl⟩ => ?_)
        fun σ' H' ⟨n', o6, o8, o9, o10, o11, o12, vs, rs, e, h1, h2, _⟩ => ?_
      · subst e
        have hlen : names.length ≤ 40 := by have := hok.1; omega
        obtain ⟨label, hlab, rfl, hi⟩ := label_at hx
        walk_at "go"
        refine r_pickL h2.acc.pen (SqL.of hhl) hvne (by omega) (by omega) fun v6 n6 H6 v60 hn6 kp6 hp6 => ?_
        obtain ⟨t6, d6, s6, rfl, ht6, b1, b2, b3, b4⟩ := (hub.kp kp6) v6 v60
        have acc6 := h2.acc.go kp6 hp6
        walk_at "go"
        refine r_gtup ht6 rfl ?_
        walk_at "go"
        have ri6 := h2.go kp6 acc6
        have hub6 := hub.kp kp6
        have hhl6 := kp6.l hhl
        refine accGreat (f := 17) rfl acc6 (by decide) (by decide) (by omega) fun v7 n7 H7 v70 v71 hn7 kp7 acc7 => ?_
        walk_at "go"
        refine accDraw acc7 (by decide) (by decide) (by omega) fun v8 n8 H8 v80 v81 hn8 kp8 acc8 => ?_
        walk_at "go"
        obtain ⟨m80, m81⟩ := mulB (a := 1 + v4) (b := 1 + v8) (A := 10 ^ 9) (B := 6) (by omega) (by omega) (by omega) (by omega)
        generalize (1 + v4) * (1 + v8) = m8 at *
        refine accDraw acc8 (by decide) (by decide) (by omega) fun v9 n9 H9 v90 v91 hn9 kp9 acc9 => ?_
        walk_at "go"
        refine ⟨by show 3 ≤ 16777216; decide, fun q10 hq10 => ?_⟩
        have acc10 := acc9.newO (o := .lst [.int v7, .int m8, .int v9]) hq10
        have hq10' : (upd H9 q10 (.lst [.int v7, .int m8, .int v9])) q10 = some (.lst [.int v7, .int m8, .int v9]) := upd_same
        have kp10 : Kp H6 _ := (kp7.trans (kp8.trans kp9)).then (o := .lst [.int v7, .int m8, .int v9]) hq10
        generalize upd H9 q10 (.lst [.int v7, .int m8, .int v9]) = H10 at acc10 hq10' kp10 ⊢
        walk_at "go"
        refine r_pickL acc10.pen (SqL.of hq10') (by simp) (by simp) (by omega) fun v11 n11 H11 v110 hn11 kp11 hp11 => ?_
        have acc11 := acc10.go kp11 hp11
        obtain ⟨pace0, rfl, hpa0, hpa1⟩ : ∃ i, v11 = .int i ∧ 0 ≤ i ∧ i < 10 ^ 17 := by
          rcases Tx.v3 v110 with rfl | rfl | rfl
          · exact ⟨_, rfl, v70, v71⟩
          · exact ⟨_, rfl, m80, by omega⟩
          · exact ⟨_, rfl, v90, by omega⟩
        walk_at "go"
        refine ⟨by show 2 ≤ 16777216; decide, fun q12 hq12 => ?_⟩
        walk_at "go"
        refine accPick acc11 hq12 (by simp) (by simp) (by omega) fun v12 n12 H12 v120 hn12 kp12 acc12 => ?_
        obtain ⟨sg, rfl, hsg⟩ := sign_of v120
        walk_at "go"
        have hpg : (1 + pace0) * sg = 1 + pace0 ∨ (1 + pace0) * sg = -(1 + pace0) := by
          rcases hsg with rfl | rfl
          · exact .inl (by omega)
          · exact .inr (by omega)
        generalize (1 + pace0) * sg = pace at hpg ⊢
        refine accDraw acc12 (by decide) (by decide) (by omega) fun v13 n13 H13 v130 v131 hn13 kp13 acc13 => ?_
        walk_at "go"
        refine accGreat (f := 11) rfl acc13 (by decide) (by decide) (by omega) fun v14 n14 H14 v140 v141 hn14 kp14 acc14 => ?_
        walk_at "go"
        refine accGreat (f := 11) rfl acc14 (by decide) (by decide) (by omega) fun v15 n15 H15 v150 v151 hn15 kp15 acc15 => ?_
        walk_at "go"
        refine ⟨by show 3 ≤ 16777216; decide, fun q16 hq16 => ?_⟩
        walk_at "go"
        refine accPick acc15 hq16 (by simp) (by simp) (by omega) fun v16 n16 H16 v160 hn16 kp16 acc16 => ?_
        obtain ⟨steps, rfl, hst0, hst1⟩ : ∃ i, v16 = .int i ∧ 0 ≤ i ∧ i < 10 ^ 11 := by
          rcases Tx.v3 v160 with rfl | rfl | rfl
          · exact ⟨_, rfl, v130, by omega⟩
          · exact ⟨_, rfl, v140, v141⟩
          · exact ⟨_, rfl, v150, v151⟩
        walk_at "go"
        refine accDraw acc16 (by decide) (by decide) (by omega) fun v17 n17 H17 v170 v171 hn17 kp17 acc17 => ?_
        walk_at "go"
        refine ⟨by show 3 ≤ 16777216; decide, fun q18 hq18 => ?_⟩
        walk_at "go"
        refine accPick acc17 hq18 (by simp) (by simp) (by omega) fun v19 n19 H19 v190 hn19 kp19 acc19 => ?_
        obtain ⟨off, rfl, hof0, hof1⟩ : ∃ i, v19 = .int i ∧ 0 ≤ i ∧ i < 4 := by
          rcases Tx.v3 v190 with rfl | rfl | rfl
          · exact ⟨_, rfl, by decide, by decide⟩
          · exact ⟨_, rfl, by decide, by decide⟩
          · exact ⟨_, rfl, v170, by omega⟩
        walk_at "go"
        refine ⟨ty_list acc19.l, ?_⟩
        walk_at "go"
        obtain ⟨sp0, sp1⟩ := mulS (a := steps) (b := pace) (A := 10 ^ 11) (B := 10 ^ 17) hst0 (by omega) (by omega) (by omega)
        have hspot : ∃ spot, s6 - steps * pace = spot ∧ -(10 ^ 30) ≤ spot ∧ spot ≤ 10 ^ 30 := ⟨_, rfl, by omega, by omega⟩
        have hdate : ∃ date, d6 + off - steps = date ∧ 0 ≤ date ∧ date ≤ 10 ^ 30 := ⟨_, rfl, by omega, by omega⟩
        obtain ⟨spot, es, hs0, hs1⟩ := hspot
        obtain ⟨date, ed, hd0, hd1⟩ := hdate
        rw [es, ed]
        refine ⟨by show 4 ≤ 16777216; decide, fun q20 hq20 => ?_⟩
        walk_at "go"
        have hrow : NumOk ⟨label, date, spot, pace⟩ := ⟨hd0, hd1, hs0, hs1, by show _ ≤ pace; omega, by show pace ≤ _; omega, by show pace ≠ 0; omega⟩
        have kpA : Kp H6 H19 := kp10.trans (kp11.trans (kp12.trans (kp13.trans (kp14.trans (kp15.trans (kp16.trans (kp17.trans kp19)))))))
        have ri := (ri6.go kpA acc19).new (o := .tup [.str label, .int date, .int spot, .int pace]) hq20
        have hub12 := (hub6.kp (kpA.then (o := .tup [.str label, .int date, .int spot, .int pace]) hq20)).put (ys := vs ++ [.ref q20]) ri.acc.l
        have hhl12 : (upd (upd H19 q20 (.tup [.str label, .int date, .int spot, .int pace])) p (.lst (vs ++ [.ref q20]))) hb = some (.lst hvs) := by
          rw [upd_ne hne2]
          exact (kpA.then hq20).l hhl6
        have hvl := ri.len
        refine r_append ri.acc.l (by show vs.length < 16777216; omega) ?_
        have ri := ri.app (t := q20) (row := ⟨label, date, spot, pace⟩) upd_same hlab hrow
        generalize rs ++ [_] = rs2 at ri
        generalize hvv : vs ++ [V.ref q20] = vs2 at ri hub12 hhl12 ⊢
        generalize upd (upd H19 q20 _) p _ = H12 at ri hub12 hhl12 ⊢
        have hvl2 := ri.eqlen (by omega)
        walk_at "go"
        refine r_lenL (SqL.of ri.acc.l) ?_
        walk_at "go"
        refine r_iteD (fun hl2 => ?_) fun hl2 => ?_
        · walk_at "go"
          refine accDraw ri.acc (by decide) (by decide) (by omega) fun v13 n13 H13 v130 v131 hn13 kp13 acc13 => ?_
          have ri := ri.go kp13 acc13
          have hub13 := hub12.kp kp13
          have hhl13 := kp13.l hhl12
          walk_at "go"
          refine r_iteD (fun hz => ?_) fun hz => ?_
          · walk_at "go"
            refine ⟨by show 1 ≤ 16777216; decide, fun q14 hq14 => ?_⟩
            have ri14 := ri.new (o := .tup [.str label]) hq14
            have hq14' : (upd H13 q14 (.tup [.str label])) q14 = some (.tup [.str label]) := upd_same
            have hub14 := hub13.kp (Kp.new (o := .tup [.str label]) hq14)
            have hhl14 := (Kp.new (o := .tup [.str label]) hq14).l hhl13
            generalize upd H13 q14 (.tup [.str label]) = H14 at ri14 hq14' hub14 hhl14 ⊢
            walk_at "go"
            refine r_slL (SqL.of ri14.acc.l) fun q15 hq15 => ?_
            rw [cut_last (by omega)]
            walk_at "go"
            refine accPick ri14.acc hq15 (fun e => ?_) (by rw [List.length_take]; omega) (by omega) fun v16 n16 H16 v160 hn16 kp16 acc16 => ?_
            · have := congrArg List.length e
              rw [List.length_take] at this
              have e0 : ([] : List V).length = 0 := rfl
              omega
            have ri16 := ri14.go kp16 acc16
            obtain ⟨q17, row, hrm, rfl, hq17⟩ := ri16.rows.mem (List.mem_of_mem_take v160)
            walk_at "go"
            refine r_slA hq17 (fun h => (show ¬ (HT.sIx 4 0 (some 1) = 0) by decide) h.1) fun q18 hq18 => ?_
            have ri18 := ri16.new (o := .tup [.int row.day, .int row.post, .int row.pace]) hq18
            have hq18' : (upd H16 q18 (.tup [.int row.day, .int row.post, .int row.pace])) q18 = some (.tup [.int row.day, .int row.post, .int row.pace]) := upd_same
            have hq14'' : (upd H16 q18 (.tup [.int row.day, .int row.post, .int row.pace])) q14 = some (.tup [.str label]) := (Kp.new hq18).t (kp16.t hq14')
            have e18 : HO.tup (cutV (rowV row) (some 1) none) = .tup [.int row.day, .int row.post, .int row.pace] := rfl
            rw [e18]
            have hub18 := (hub14.kp kp16).kp (Kp.new (o := .tup [.int row.day, .int row.post, .int row.pace]) hq18)
            have hhl18 := (Kp.new (o := .tup [.int row.day, .int row.post, .int row.pace]) hq18).l (kp16.l hhl14)
            generalize upd H16 q18 _ = H18 at ri18 hq18' hq14'' hub18 hhl18 ⊢
            walk_at "go"
            refine r_catA hq14'' hq18' (by simp) (by simp) (by show 4 ≤ 16777216; decide) fun q19 hq19 => ?_
            have ri19 := ri18.new (o := .tup [.str label, .int row.day, .int row.post, .int row.pace]) hq19
            have hq19' : (upd H18 q19 (.tup [.str label, .int row.day, .int row.post, .int row.pace])) q19 = some (.tup (rowV ⟨label, row.day, row.post, row.pace⟩)) := upd_same
            have e19 : HO.tup ([.str label] ++ [.int row.day, .int row.post, .int row.pace]) = .tup [.str label, .int row.day, .int row.post, .int row.pace] := rfl
            rw [e19]
            have hub19 := hub18.kp (Kp.new (o := .tup [.str label, .int row.day, .int row.post, .int row.pace]) hq19)
            have hhl19 := (Kp.new (o := .tup [.str label, .int row.day, .int row.post, .int row.pace]) hq19).l hhl18
            generalize upd H18 q19 _ = H20 at ri19 hq19' hub19 hhl19 ⊢
            walk_at "go"
            refine r_setL ri19.acc.l (ixN_last (by omega)) ?_
            have ri20 := ri19.set (j := vs2.length - 1) hq19' (by rw [hvl2]; exact hlab) (by omega) (show NumOk ⟨label, row.day, row.post, row.pace⟩ from (ri16.nums row hrm : NumOk row))
            walk_at "go"
            exact ⟨n5 + 200 * (i + 1), _, _, _, _, _, _, _, _, rfl, Nat.le_refl _, ri20.mono (by omega), hub19.put ri19.acc.l, by rw [upd_ne hne2]; exact hhl19⟩
          · walk_at "go"
            exact ⟨n5 + 200 * (i + 1), _, _, _, _, _, _, _, _, rfl, Nat.le_refl _, ri.mono (by omega), hub13, hhl13⟩
        · walk_at "go"
          exact ⟨n5 + 200 * (i + 1), _, _, _, _, _, _, _, _, rfl, Nat.le_refl _, ri.mono (by omega), hub12, hhl12⟩
      · subst e
        walk_at "go"
        rw [List.length_map, hok.1] at h1 h2
        exact k _ _ _ (h2.done hok (Nat.le_refl _) (by omega)) (by omega) h2.acc.kp h2.acc.pen
end
end Tx

set_option maxRecDepth 100000
set_option maxHeartbeats 4000000
namespace Tx
open PySem PySem.Spec PyProof.Rows L2 My
section
variable {P : Program} {w : World} {K : PySem.W.Frag} {mg : Str → Option Value} {base : Heap}
theorem ok_lined (T : Tx K mg) : FnR P w K mg base (L2.CX P w) 8 (a_Llined K) (spRows 0) := by
  have F_Ldraw := ok_draw (P := P) (w := w) (base := base) T
  have F_Lpick := ok_pick (P := P) (w := w) (base := base) T
  have F_Lgreat := ok_great (P := P) (w := w) (base := base) T
  have F_Laround := ok_around (P := P) (w := w) (base := base) T
  have F_Lnames := ok_names (P := P) (w := w) (base := base) T
  refine fnR_of T.f_Llined sc_Llined (fun _ _ _ _ _ _ us hl => match us, hl with | [_, _], _ => rfl) (fun vs H Q E h => ?_) fun A outer s H vs Q E cdv hr h => ?_
  · obtain ⟨z, n, f, rfl, _⟩ := h
    rfl
  · obtain ⟨z, n, most, rfl, hp, hn, m0, m1, k⟩ := h
    refine ⟨_, (pss_cons (ps_par (i := 2) (j := 3) (by rfl) sc_Llined.nd rfl rfl (by decide) rfl rfl (pa_cons (pe_lst pa_nil) (pa_cons (pe_op (op_addUK (K := K) rfl) pe_int (pe_callR F_Ldraw (hr.mono (by first | decide | omega)) T.k_Ldraw rfl T.g__law_draw passL (pa_cons (pv 0) (pa_cons (pv 1) pa_nil)))) pa_nil)) (by rfl))
 (pss_cons (ps_par (i := 4) (j := 5) (by rfl) sc_Llined.nd rfl rfl (by decide) rfl rfl (pa_cons (pe_op (op_addUK (K := K) rfl) pe_int (pe_callR F_Lgreat (hr.mono (by first | decide | omega)) T.k_Lgreat rfl T.g__law_great passL (pa_cons (pv 0) (pa_cons pe_int pa_nil)))) (pa_cons (pe_op op_mulU (pe_callR F_Lgreat (hr.mono (by first | decide | omega)) T.k_Lgreat rfl T.g__law_great passL (pa_cons (pv 0) (pa_cons pe_int pa_nil))) (pe_callR F_Lpick (hr.mono (by first | decide | omega)) T.k_Lpick rfl T.g__law_pick passL (pa_cons (pv 0) (pa_cons (pe_lst (pa_cons pe_int (pa_cons (pe_un un_neg pe_int) pa_nil))) pa_nil)))) pa_nil)) (by rfl))
 (pss_cons (ps_for (passes_of rfl) rfl (pi_anyK (K := K) rfl (pe_callR F_Lnames (hr.mono (by first | decide | omega)) T.k_Lnames rfl T.g__law_names passL (pa_cons (pv 0) (pa_cons (pv 3) pa_nil)))) (pg_name (i := 6) sc_Llined.nd rfl (by first | exact Or.inl rfl | exact Or.inr rfl))
 (pss_cons (ps_set (i := 7) sc_Llined.nd rfl (by first | exact Or.inl rfl | exact Or.inr rfl) (pe_op op_mulU (pe_op op_mulU (pv 4) (pe_op (op_addUK (K := K) rfl) pe_int (pe_callR F_Ldraw (hr.mono (by first | decide | omega)) T.k_Ldraw rfl T.g__law_draw passL (pa_cons (pv 0) (pa_cons pe_int pa_nil))))) (pe_callR F_Lpick (hr.mono (by first | decide | omega)) T.k_Lpick rfl T.g__law_pick passL (pa_cons (pv 0) (pa_cons (pe_lst (pa_cons pe_int (pa_cons pe_int (pa_cons (pe_un un_neg pe_int) pa_nil)))) pa_nil)))))
 (pss_cons (ps_set (i := 8) sc_Llined.nd rfl (by first | exact Or.inl rfl | exact Or.inr rfl) (pe_op (op_addUK (K := K) rfl) (pv 5) (pe_callR F_Ldraw (hr.mono (by first | decide | omega)) T.k_Ldraw rfl T.g__law_draw passL (pa_cons (pv 0) (pa_cons (pe_callB (call_min2 rfl) rfl T.n_min (by decide +kernel) (pa_cons (pv 4) (pa_cons pe_int pa_nil))) pa_nil)))))
 (pss_cons (ps_set (i := 8) sc_Llined.nd rfl (by first | exact Or.inl rfl | exact Or.inr rfl) (pe_op (op_addUK (K := K) rfl) (pv 8) (pe_op op_mulU (pv 4) (pe_callR F_Laround (hr.mono (by first | decide | omega)) T.k_Laround rfl T.g__law_around passL (pa_cons (pv 0) (pa_cons (pe_callR F_Lpick (hr.mono (by first | decide | omega)) T.k_Lpick rfl T.g__law_pick passL (pa_cons (pv 0) (pa_cons (pe_lst (pa_cons pe_int (pa_cons pe_int (pa_cons (pe_op op_pow pe_int pe_int) pa_nil)))) pa_nil))) pa_nil))))))
 (pss_cons (ps_set (i := 9) sc_Llined.nd rfl (by first | exact Or.inl rfl | exact Or.inr rfl) (pe_callR F_Lpick (hr.mono (by first | decide | omega)) T.k_Lpick rfl T.g__law_pick passL (pa_cons (pv 0) (pa_cons (pe_lst (pa_cons pe_int (pa_cons (pe_callR F_Ldraw (hr.mono (by first | decide | omega)) T.k_Ldraw rfl T.g__law_draw passL (pa_cons (pv 0) (pa_cons pe_int pa_nil))) (pa_cons (pe_callR F_Lgreat (hr.mono (by first | decide | omega)) T.k_Lgreat rfl T.g__law_great passL (pa_cons (pv 0) (pa_cons pe_int pa_nil))) pa_nil)))) pa_nil))))
 (pss_one (ps_expr (pe_bm PySem.F.plainAttrs_list PySem.F.slot_list_append PySem.F.type_list_append mt_append (pv 2) (pa_cons (pe_tup (pa_cons (pv 6) (pa_cons (pv 9) (pa_cons (pv 8) (pa_cons (pv 7) pa_nil))))) pa_nil)))))))))
 (pss_one (ps_ret (pv 2)))))), ?_⟩
    try dsimp only [cxOf]
    walk_at "go"
    refine ⟨by decide, fun p hq => ?_⟩
    have acc := Acc.start (xs := []) (Kp.refl H) hp hq
    generalize upd H p (.lst []) = H1 at acc
    walk_at "go"
    refine accDraw acc (by omega) (by omega) (by omega) fun v2 n2 H2 v20 v21 hn2 kp2 acc2 => ?_
    walk_at "go"
    obtain ⟨many, hm⟩ : ∃ m : Nat, 1 + v2 = m := ⟨(1 + v2).toNat, by omega⟩
    rw [hm]
    refine accGreat (f := 16) rfl acc2 (by decide) (by decide) (by omega) fun v3 n3 H3 v30 v31 hn3 kp3 acc3 => ?_
    walk_at "go"
    refine accGreat (f := 29) rfl acc3 (by decide) (by decide) (by omega) fun v4 n4 H4 v40 v41 hn4 kp4 acc4 => ?_
    walk_at "go"
    refine ⟨by show 2 ≤ 16777216; decide, fun q5 hq5 => ?_⟩
    walk_at "go"
    refine accPick acc4 hq5 (by simp) (by simp) (by omega) fun v5 n5 H5 v50 hn5 kp5 acc5 => ?_
    obtain ⟨sg, rfl, hsg⟩ := sign_of v50
    walk_at "go"
    obtain ⟨b1, b2⟩ := sg_mul hsg v40 v41
    generalize v4 * sg = lbase at b1 b2 ⊢
    generalize hlot : 1 + v3 = lot
    have lot0 : 1 ≤ lot := by omega
    have lot1 : lot ≤ 10 ^ 16 := by omega
    refine r_iL ?_
    walk_at "go"
    refine r_names rfl acc5.pen (by omega) (by omega) fun q names n6 H6 hq0 hq1 hok hn6 kp6 hp6 => ?_
    have acc6 := acc5.go kp6 hp6
    have hne : q ≠ p := fun e => by
      rw [e, acc5.l] at hq0
      cases hq0
    refine ⟨_, rfl, ⟨_, SqL.of hq1⟩, ?_⟩
    refine for_list (fun i σ' H' => ∃ n', ∃ o6 o7 o8 o9 : Option V, ∃ vs rs, σ' = [some (.ref z.a), some (.int most), some (.ref p), some (.int many), some (.int lot), some (.int lbase), o6, o7, o8, o9] ∧ n' ≤ n6 + 200 * i ∧ RI z H H' n' p q names i vs rs)
      ⟨n6, _, _, _, _, [], [], rfl, by omega, .start acc6 hq1 hne⟩ (fun i σ' H' _ ⟨n', o6, o7, o8, o9, vs, rs, e, h1, h2⟩ => SqL.of h2.src) (fun i x σ' H' hx ⟨n', o6, o7, o8, o9, vs, rs, e, h1, h2⟩ => ?_)
      fun σ' H' ⟨n', o6, o7, o8, o9, vs, rs, e, h1, h2⟩ => ?_
    · subst e
      have hlen : names.length ≤ 40 := by have := hok.1; omega
      obtain ⟨label, hlab, rfl, hi⟩ := label_at hx
      walk_at "go"
      refine accDraw h2.acc (by decide) (by decide) (by omega) fun v7 n7 H7 v70 v71 hn7 kp7 acc7 => ?_
      walk_at "go"
      obtain ⟨m0, m1⟩ := mulB (a := lot) (b := 1 + v7) (A := 10 ^ 16) (B := 12) (by omega) (by omega) (by omega) (by omega)
      have m2 : 1 ≤ lot * (1 + v7) := by
        have := Int.mul_pos (show 0 < lot by omega) (show 0 < 1 + v7 by omega)
        omega
      generalize lot * (1 + v7) = pace0 at *
      refine ⟨by show 3 ≤ 16777216; decide, fun q8 hq8 => ?_⟩
      walk_at "go"
      refine accPick acc7 hq8 (by simp) (by simp) (by omega) fun v8 n8 H8 v80 hn8 kp8 acc8 => ?_
      obtain ⟨sg, rfl, hsg⟩ : ∃ s : Int, v8 = .int s ∧ (s = 1 ∨ s = -1) := by
        rcases Tx.v3 v80 with rfl | rfl | rfl
        · exact ⟨1, rfl, .inl rfl⟩
        · exact ⟨1, rfl, .inl rfl⟩
        · exact ⟨-1, rfl, .inr rfl⟩
      walk_at "go"
      have hpg : pace0 * sg = pace0 ∨ pace0 * sg = -pace0 := by
        rcases hsg with rfl | rfl
        · exact .inl (by omega)
        · exact .inr (by omega)
      generalize pace0 * sg = pace at hpg ⊢
      have hmin : (1 : Int) ≤ (if (2 : Int) < lot then 2 else lot) ∧ (if (2 : Int) < lot then 2 else lot) ≤ 2 := by
        split <;> omega
      generalize (if (2 : Int) < lot then 2 else lot) = mn at hmin ⊢
      refine accDraw acc8 hmin.1 (by omega) (by omega) fun v9 n9 H9 v90 v91 hn9 kp9 acc9 => ?_
      walk_at "go"
      refine ⟨by show 3 ≤ 16777216; decide, fun q10 hq10 => ?_⟩
      walk_at "go"
      refine accPick acc9 hq10 (by simp) (by simp) (by omega) fun v11 n11 H11 v110 hn11 kp11 acc11 => ?_
      obtain ⟨wide, rfl, hw0, hw1⟩ : ∃ i, v11 = .int i ∧ 0 ≤ i ∧ i ≤ 10 ^ 12 := by
        rcases Tx.v3 v110 with rfl | rfl | rfl
        · exact ⟨_, rfl, by decide, by decide⟩
        · exact ⟨_, rfl, by decide, by decide⟩
        · exact ⟨_, rfl, by decide, by decide⟩
      walk_at "go"
      refine accAround acc11 hw0 (by omega) (by omega) fun v12 n12 H12 v120 v121 hn12 kp12 acc12 => ?_
      walk_at "go"
      obtain ⟨sp0, sp1⟩ := mulS (a := lot) (b := v12) (A := 10 ^ 16) (B := 10 ^ 12) (by omega) (by omega) (by omega) (by omega)
      refine accDraw acc12 (by decide) (by decide) (by omega) fun v13 n13 H13 v130 v131 hn13 kp13 acc13 => ?_
      walk_at "go"
      refine accGreat (f := 29) rfl acc13 (by decide) (by decide) (by omega) fun v14 n14 H14 v140 v141 hn14 kp14 acc14 => ?_
      walk_at "go"
      refine ⟨by show 3 ≤ 16777216; decide, fun q16 hq16 => ?_⟩
      walk_at "go"
      refine accPick acc14 hq16 (by simp) (by simp) (by omega) fun v16 n16 H16 v160 hn16 kp16 acc16 => ?_
      obtain ⟨date, rfl, hd0, hd1⟩ : ∃ i, v16 = .int i ∧ 0 ≤ i ∧ i < 10 ^ 29 := by
        rcases Tx.v3 v160 with rfl | rfl | rfl
        · exact ⟨_, rfl, by decide, by decide⟩
        · exact ⟨_, rfl, v130, by omega⟩
        · exact ⟨_, rfl, v140, v141⟩
      walk_at "go"
      refine ⟨ty_list acc16.l, ?_⟩
      walk_at "go"
      obtain ⟨spot, es, hs0, hs1⟩ : ∃ spot, lbase + v9 + lot * v12 = spot ∧ -(10 ^ 30) ≤ spot ∧ spot ≤ 10 ^ 30 := ⟨_, rfl, by omega, by omega⟩
      rw [es]
      refine ⟨by show 4 ≤ 16777216; decide, fun q20 hq20 => ?_⟩
      walk_at "go"
      have hrow : NumOk ⟨label, date, spot, pace⟩ := ⟨hd0, by show date ≤ _; omega, hs0, hs1, by show _ ≤ pace; omega, by show pace ≤ _; omega, by show pace ≠ 0; omega⟩
      have kpA : Kp H' H16 := kp7.trans (kp8.trans (kp9.trans (kp11.trans (kp12.trans (kp13.trans (kp14.trans kp16))))))
      have ri := (h2.go kpA acc16).new (o := .tup [.str label, .int date, .int spot, .int pace]) hq20
      have hvl := ri.len
      refine r_append ri.acc.l (by show vs.length < 16777216; omega) ?_
      have ri := ri.app (t := q20) (row := ⟨label, date, spot, pace⟩) upd_same hlab hrow
      walk_at "go"
      exact ⟨n6 + 200 * (i + 1), _, _, _, _, _, _, rfl, Nat.le_refl _, ri.mono (by omega)⟩
    · subst e
      walk_at "go"
      rw [List.length_map, hok.1] at h1 h2
      exact k _ _ _ (h2.done hok (Nat.le_refl _) (by omega)) (by omega) h2.acc.kp h2.acc.pen
theorem r_rows {z : PenI} {H : Hp} {n most : Nat} {i : Int} {Q : VK} {E : XK} (hi : i = most) (hp : Pen H z n) (h1 : n + 20000 ≤ 10 ^ 17) (h2 : 1 ≤ most) (h3 : most ≤ 40) (k : Aft z H n 10000 (RowsR H) Q) :
    spRows 0 [.ref z.a, .int i] H Q E := ⟨z, n, most, by rw [hi], hp, h1, h2, h3, k⟩
/-! ### _law_painters -/
def spPainters : Sp := fun vs H Q _ => ∃ z n, vs = [.ref (PenI.a z)] ∧ Pen H z n ∧ n + 30000 ≤ 10 ^ 17 ∧ Aft z H n 11000 (RowsR H) Q
theorem rowsR_kp {H0 H1 H : Hp} {v : V} (h : RowsR H1 v H) (k : Kp H0 H1) : RowsR H0 v H := by
  obtain ⟨p, vs, rs, e, a, b⟩ := h
  exact ⟨p, vs, rs, e, k.f _ a, b⟩
theorem ok_painters (T : Tx K mg) : FnR P w K mg base (L2.CX P w) 9 (a_Lpainters K) spPainters := by
  have F_Ldraw := ok_draw (P := P) (w := w) (base := base) T
  have F_Lsmall := ok_small (P := P) (w := w) (base := base) T
  have F_Laimed := ok_aimed (P := P) (w := w) (base := base) T
  have F_Llined := ok_lined (P := P) (w := w) (base := base) T
  refine fnR_of T.f_Lpainters sc_Lpainters (fun _ _ _ _ _ _ us hl => match us, hl with | [_], _ => rfl) (fun vs H Q E h => ?_) fun A outer s H vs Q E cdv hr h => ?_
  · obtain ⟨z, n, rfl, _⟩ := h
    rfl
  · obtain ⟨z, n, rfl, hp, hn, k⟩ := h
    refine ⟨_, (pss_cons (ps_set (i := 1) sc_Lpainters.nd rfl (by first | exact Or.inl rfl | exact Or.inr rfl) (pe_callR F_Ldraw (hr.mono (by first | decide | omega)) T.k_Ldraw rfl T.g__law_draw passL (pa_cons (pv 0) (pa_cons pe_int pa_nil))))
 (pss_cons (ps_if (pt_cmpR (op_eqUK (K := K) rfl hr.units) (pv 1) pe_int (nomark _))
 (pss_one (ps_ret (pe_lst pa_nil)))
 pss_nil)
 (pss_cons (ps_if (pt_cmpR op_lt (pv 1) pe_int (nomark _))
 (pss_one (ps_ret (pe_callR F_Lsmall (hr.mono (by first | decide | omega)) T.k_Lsmall rfl T.g__law_small passL (pa_cons (pv 0) (pa_cons pe_int pa_nil)))))
 pss_nil)
 (pss_one (ps_ret (pe_ifExp (pt_cmpR op_lt (pv 1) pe_int (nomark _)) (pe_callR F_Laimed (hr.mono (by first | decide | omega)) T.k_Laimed rfl T.g__law_aimed passL (pa_cons (pv 0) (pa_cons pe_int pa_nil))) (pe_callR F_Llined (hr.mono (by first | decide | omega)) T.k_Llined rfl T.g__law_lined passL (pa_cons (pv 0) (pa_cons pe_int pa_nil))))))))), ?_⟩
    try dsimp only [cxOf]
    walk_at "go"
    refine r_draw hp (by decide) (by decide) (by omega) fun v2 n2 H2 v20 v21 hn2 kp2 hp2 => ?_
    have kk : ∀ v n' H', RowsR H2 v H' → n' ≤ n2 + 10000 → Kp H2 H' → Pen H' z n' → Q v H' := fun v n' H' h1 h2 h3 h4 => k v n' H' (rowsR_kp h1 kp2) (by omega) (kp2.trans h3) h4
    walk_at "go"
    refine r_iteD (fun h1 => ?_) fun h1 => ?_
    · walk_at "go"
      refine ⟨by decide, fun p hq => ?_⟩
      exact kk _ n2 _ ⟨p, [], [], rfl, hq, upd_same, trivial, fun r hr => (List.not_mem_nil hr).elim, List.nodup_nil, fun r hr => (List.not_mem_nil hr).elim, Nat.zero_le _⟩ (by omega) (Kp.new hq) (hp2.new hq)
    · walk_at "go"
      refine r_iteD (fun h1 => ?_) fun h1 => ?_
      · walk_at "go"
        exact r_rows (most := 6) rfl hp2 (by omega) (by decide) (by decide) kk
      · walk_at "go"
        refine r_iteD (fun h1 => ?_) fun h1 => ?_
        · walk_at "go"
          exact r_rows (most := 6) rfl hp2 (by omega) (by decide) (by decide) kk
        · walk_at "go"
          exact r_rows (most := 6) rfl hp2 (by omega) (by decide) (by decide) kk
end
end Tx

set_option maxRecDepth 100000
set_option maxHeartbeats 4000000
namespace Tx
open PySem PySem.Spec PyProof.Rows L2 My
section
variable {P : Program} {w : World} {K : PySem.W.Frag} {mg : Str → Option Value} {base : Heap}
/-! ### is_integer, is_between, is_name -/
def Kit (K : PySem.W.Frag) (H : Hp) (v : V) (T : String) (b : Bool) : Prop := ∃ t, TyX K H v t ∧ PySem.W.kitOne K t (.type T) = some b
theorem kit_int {H : Hp} {i : Int} : Kit K H (.int i) "int" true ∧ Kit K H (.int i) "bool" false := ⟨⟨_, .base (.int i), by rfl⟩, ⟨_, .base (.int i), by rfl⟩⟩
theorem kit_str {H : Hp} {s : Str} : Kit K H (.str s) "str" true ∧ Kit K H (.str s) "int" false := ⟨⟨_, .base (.str s), by rfl⟩, ⟨_, .base (.str s), by rfl⟩⟩
theorem r_isi {H : Hp} {v : V} {T : String} {b : Bool} {Q : VK} (h : Kit K H v T b) (q : Q (.bl b) H) : rIsi K [v, .ty T] H Q := by
  obtain ⟨t, h1, h2⟩ := h
  exact ⟨v, .ty T, t, .type T, b, rfl, .ty T, h1, h2, q⟩
def spIsInt (K : PySem.W.Frag) : Sp := fun vs H Q _ => ∃ v b1 b2, vs = [v] ∧ Kit K H v "int" b1 ∧ (b1 = true → Kit K H v "bool" b2) ∧ Q (.bl (b1 && !b2)) H
theorem ok_isint (T : Tx K mg) : FnR P w K mg base (L2.CX P w) 1 (a_is_integer K) (spIsInt K) := by
  refine fnR_of T.f_is_integer sc_is_integer (fun _ _ _ _ _ _ us hl => match us, hl with | [_], _ => rfl) (fun vs H Q E h => ?_) fun A outer s H vs Q E cdv hr h => ?_
  · obtain ⟨v, b1, b2, rfl, _⟩ := h
    rfl
  · obtain ⟨v, b1, b2, rfl, h1, h2, k⟩ := h
    refine ⟨_, (pss_one (ps_ret (pe_and (pe_callB call_isi rfl T.n_isinstance (by decide +kernel) (pa_cons (pv 0) (pa_cons (pe_bltn (v := .ty "int") rfl T.n_int (by decide +kernel) rfl) pa_nil))) (pe_one (pe_not (pe_callB call_isi rfl T.n_isinstance (by decide +kernel) (pa_cons (pv 0) (pa_cons (pe_bltn (v := .ty "bool") rfl T.n_bool (by decide +kernel) rfl) pa_nil)))))))), ?_⟩
    try dsimp only [cxOf]
    walk_at "go"
    refine r_isi h1 ⟨_, rfl, ?_⟩
    cases b1 with
    | false => exact r_iteF k
    | true =>
      refine r_iteT ?_
      walk_at "go"
      refine r_isi (h2 rfl) ?_
      walk_at "go"
      exact k
def spBetween (K : PySem.W.Frag) : Sp := fun vs H Q _ => (∃ i l h : Int, vs = [.int i, .int l, .int h] ∧ Q (.bl (decide (l ≤ i) && decide (i ≤ h))) H) ∨
  ∃ v l h b1 b2, vs = [v, l, h] ∧ Kit K H v "int" b1 ∧ (b1 = true → Kit K H v "bool" b2) ∧ (b1 && !b2) = false ∧ Q (.bl false) H
theorem ok_between (T : Tx K mg) : FnR P w K mg base (L2.CX P w) 2 (a_is_between K) (spBetween K) := by
  have F_is_integer := ok_isint (P := P) (w := w) (base := base) T
  refine fnR_of T.f_is_between sc_is_between (fun _ _ _ _ _ _ us hl => match us, hl with | [_, _, _], _ => rfl) (fun vs H Q E h => ?_) fun A outer s H vs Q E cdv hr h => ?_
  · rcases h with ⟨i, l, h, rfl, _⟩ | ⟨v, l, h, b1, b2, rfl, _⟩ <;> rfl
  · refine ⟨_, (pss_one (ps_ret (pe_and (pe_callR F_is_integer (hr.mono (by first | decide | omega)) T.k_is_integer rfl T.g_is_integer passL (pa_cons (pv 0) pa_nil)) (pe_one (pe_chain op_le op_le (pv 1) (pv 0) (pv 2)))))), ?_⟩
    try dsimp only [cxOf]
    rcases h with ⟨i, l, h, rfl, k⟩ | ⟨v, l, h, b1, b2, rfl, h1, h2, h3, k⟩
    · walk_at "go"
      refine ⟨_, true, false, rfl, kit_int.1, fun _ => kit_int.2, ⟨_, rfl, r_iteT ?_⟩⟩
      walk_at "go"
      refine r_iteD (fun h1 => ?_) fun h1 => ?_
      · walk_at "go"
        rw [decide_eq_true h1, Bool.true_and] at k
        exact k
      · walk_at "go"
        rw [decide_eq_false h1, Bool.false_and] at k
        exact k
    · walk_at "go"
      refine ⟨_, b1, b2, rfl, h1, h2, ⟨_, rfl, ?_⟩⟩
      rw [h3]
      exact r_iteF k
/-- whether all signs of a text lie in another -/
theorem all_bls {l : List Nat} {f : Nat → Bool} : (l.map f).all id = l.all f := by
  induction l with
  | nil => rfl
  | cons c r ih => rw [List.map_cons, List.all_cons, List.all_cons, ih]; rfl
def spIsName (K : PySem.W.Frag) : Sp := fun vs H Q _ => (∃ s : Str, vs = [.str s] ∧ s.length ≤ sizeLine ∧ ∀ H', Gr H H' → Q (.bl (nmB s)) H') ∨ ∃ v, vs = [v] ∧ Kit K H v "str" false ∧ Q (.bl false) H
theorem ok_isname (T : Tx K mg) : FnR P w K mg base (L2.CX P w) 1 (a_is_name K) (spIsName K) := by
  refine fnR_of T.f_is_name sc_is_name (fun _ _ _ _ _ _ us hl => match us, hl with | [_], _ => rfl) (fun vs H Q E h => ?_) fun A outer s H vs Q E cdv hr h => ?_
  · rcases h with ⟨s, rfl, _⟩ | ⟨v, rfl, _⟩ <;> rfl
  · refine ⟨_, (pss_cons (ps_if (PW.pt (pw_or (pt_not (pt_val (pe_callB call_isi rfl T.n_isinstance (by decide +kernel) (pa_cons (pv 0) (pa_cons (pe_bltn (v := .ty "str") rfl T.n_str (by decide +kernel) rfl) pa_nil))))) (pw_or1 (pt_not (pt_chain op_le op_le pe_int (pe_callB (call_lenUK (K := K) rfl) rfl T.n_len (by decide +kernel) (pa_cons (pv 0) pa_nil)) (C8.pe_gc rfl T.c_MAX_NAME))))))
 (pss_one (ps_ret pe_bl))
 pss_nil)
 (pss_one (ps_ret (pe_callB (cr_all rfl) rfl T.n_all (by decide +kernel) (pa_cons (pe_lc (own := [("letter", 1)]) rfl sc_is_name.nd (pi_anyK (K := K) rfl (pv 0)) (blkOk_by (own := [("letter", 1)]) (N := N_is_name) (sc := defScope s_is_name) (by decide +kernel)) (fun _ _ _ _ _ => (pg_name (i := 1) sc_is_name.nd rfl (by first | exact Or.inl rfl | exact Or.inr rfl))) (fun _ _ _ _ _ => pts_nil) (fun _ _ _ _ _ => (pe_cmpR op_sgn (pv 1) (C8.pe_gc rfl T.c_LETTERS) (by rfl)))) pa_nil))))), ?_⟩
    try dsimp only [cxOf]
    rcases h with ⟨s, rfl, hl, k⟩ | ⟨v, rfl, h1, k⟩
    · walk_at "go"
      refine r_isi kit_str.1 ⟨_, rfl, ?_⟩
      refine r_iteF ?_
      walk_at "go"
      refine r_lenS hl ?_
      walk_at "go"
      refine r_iteD (fun h1 => ?_) fun h1 => ?_
      · walk_at "go"
        refine r_iteN (fun h2 => ?_) fun h2 => ?_
        · walk_at "go"
          have e : nmB s = false := by
            unfold nmB
            rw [decide_eq_false (show ¬ s.length ≤ 8 by omega)]
            simp
          rw [e] at k
          exact k _ (Gr.refl _)
        · walk_at "go"
          refine r_iS ?_
          walk_at "go"
          refine ⟨_, rfl, fun D hD => ?_⟩
          refine lc_txt (fun i H' => Gr H H' ∧ H' D = some (.lst ((s.cps.toList.take i).map fun c => V.bl (decide (c ∈ lettersS.cps.toList))))) ⟨Gr.new hD, upd_same⟩ (fun i c H' hc ⟨g, hd⟩ => ?_) fun H' ⟨g, hd⟩ => ?_
          · walk_at "go"
            refine ⟨rfl, ?_⟩
            walk_at "go"
            refine ⟨_, hd, by rw [List.length_map, List.length_take]; show _ < 16777216; have e9 : s.cps.toList.length = s.length := cl_len s; omega, g.mut hD, ?_⟩
            rw [upd_same, List.take_add_one, hc]
            simp
          · walk_at "go"
            refine ⟨D, (cl s).map fun c => decide (c ∈ lettersS.cps.toList), rfl, SqL.of (by rw [hd, List.map_map, List.take_of_length_le (show s.cps.toList.length ≤ s.length from Nat.le_of_eq (cl_len s))]; rfl), ?_⟩
            rw [all_bls]
            have e : nmB s = (cl s).all fun c => decide (c ∈ lettersS.cps.toList) := by
              unfold nmB
              rw [decide_eq_true (show 1 ≤ s.length by omega), decide_eq_true (show s.length ≤ 8 by omega)]
              rfl
            rw [← e]
            exact k _ g
      · walk_at "go"
        have e : nmB s = false := by
          unfold nmB
          rw [decide_eq_false (show ¬ 1 ≤ s.length by omega)]
          rfl
        rw [e] at k
        exact k _ (Gr.refl _)
    · walk_at "go"
      refine r_isi h1 ⟨_, rfl, ?_⟩
      refine r_iteT ?_
      walk_at "go"
      exact k
end
end Tx

set_option maxRecDepth 100000
set_option maxHeartbeats 4000000
namespace Tx
open PySem PySem.Spec PyProof.Rows L2 My
section
variable {P : Program} {w : World} {K : PySem.W.Frag} {mg : Str → Option Value} {base : Heap}
/-! ### integer_in -/
def optV : Option Int → V
  | some i => .int i
  | none => .non
def spIntIn : Sp := fun vs H Q _ => ∃ s : Str, vs = [.str s] ∧ s.length ≤ sizeLine ∧ ∀ H', Gr H H' → Q (optV (intIn 80 s)) H'
theorem ok_intin (T : Tx K mg) : FnR P w K mg base (L2.CX P w) 1 (a_integer_in K) spIntIn := by
  refine fnR_of1 T.f_integer_in sc_integer_in (fun fd F => ?_) rfl (fun vs H Q E h => ?_) fun A outer s H vs Q E cdv hr h => ?_
  · obtain ⟨ds, hd, hb⟩ := F.binds1 (ps := ["word", "digits"]) 1 0 (by simp) rfl (fun T kV doc pm an cdv ct us its hu hi => match us, its, hu, hi with | [_], [_], _, _ => ⟨_, rfl, rfl⟩)
    exact bindsR_of1 hb hd rfl
  · obtain ⟨s, rfl, _⟩ := h
    rfl
  · obtain ⟨s, rfl, hl, k⟩ := h
    refine ⟨_, (C8.pss_cut (ps_set (i := 2) sc_integer_in.nd rfl (by first | exact Or.inl rfl | exact Or.inr rfl) (pe_ifExp (pt_cmpR (op_eqUK (K := K) rfl hr.units) (pe_slice (sl_anyK (K := K) rfl) (pv 0) po_none (po_some pe_int)) pe_str (nomark _)) (pe_slice (sl_anyK (K := K) rfl) (pv 0) (po_some pe_int) po_none) (pv 0)))
 (pss_cons (ps_if (PW.pt (pw_or (pt_not (pt_chain op_le op_le pe_int (pe_callB (call_lenUK (K := K) rfl) rfl T.n_len (by decide +kernel) (pa_cons (pv 2) pa_nil)) (pv 1))) (pw_or1 (pt_not (pt_val (pe_callB (cr_all rfl) rfl T.n_all (by decide +kernel) (pa_cons (pe_lc (own := [("digit", 3)]) rfl sc_integer_in.nd (pi_anyK (K := K) rfl (pv 2)) (blkOk_by (own := [("digit", 3)]) (N := N_integer_in) (sc := defScope s_integer_in) (by decide +kernel)) (fun _ _ _ _ _ => (pg_name (i := 3) sc_integer_in.nd rfl (by first | exact Or.inl rfl | exact Or.inr rfl))) (fun _ _ _ _ _ => pts_nil) (fun _ _ _ _ _ => (pe_cmpR op_sgn (pv 3) (C8.pe_gc rfl T.c_DIGITS) (by rfl)))) pa_nil)))))))
 (pss_one (ps_ret pe_non))
 pss_nil)
 (pss_cons (ps_if (PW.pt (pw_and (pt_cmpR (op_eqUK (K := K) rfl hr.units) (pe_ix (ix_seqK (K := K) rfl) (pv 2) pe_int (fun _ _ => rfl)) pe_str (nomark _)) (pw_and1 (pt_cmpR (op_neUK (K := K) rfl hr.units) (pv 0) pe_str (nomark _)))))
 (pss_one (ps_ret pe_non))
 pss_nil)
 (pss_one (ps_ret (pe_callTy call_intU rfl T.n_int (by decide +kernel) (pa_cons (pv 0) pa_nil))))))), ?_⟩
    try dsimp only [cxOf]
    refine r_cut (fun σ' H' => σ' = [some (.str s), some (.int 80), some (.str (dgs s)), none] ∧ H = H') ?_ ?_
    · walk_at "go"
      refine r_slS hl ?_
      walk_at "go"
      refine r_iteD (fun h1 => ?_) fun h1 => ?_
      · walk_at "go"
        refine r_slS hl ?_
        walk_at "go"
        exact ⟨by unfold dgs; rw [if_pos h1]; rfl, rfl⟩
      · walk_at "go"
        exact ⟨by unfold dgs; rw [if_neg h1]; rfl, rfl⟩
    · rintro σ' H' ⟨rfl, rfl⟩
      have hd : (dgs s).length ≤ sizeLine := by
        unfold dgs
        split
        · exact Nat.le_trans (cutS_length s _ _) hl
        · exact hl
      have bad : ∀ H1, inOk 80 s = false → Gr H H1 → Q .non H1 := fun H1 h g => by
        have k := k H1 g
        unfold intIn at k
        rw [h] at k
        exact k
      walk_at "go"
      refine r_lenS hd ?_
      walk_at "go"
      have hpart : ∀ H1, Gr H H1 → (∃ b, ((cl (dgs s)).all fun c => decide (c ∈ digitsS.cps.toList)) = b) := fun _ _ => ⟨_, rfl⟩
      refine r_iteD (fun h1 => ?_) fun h1 => ?_
      · walk_at "go"
        refine r_iteN (fun h2 => ?_) fun h2 => ?_
        · walk_at "go"
          refine bad _ ?_ (Gr.refl _)
          unfold inOk
          rw [decide_eq_false h2]
          simp
        · walk_at "go"
          refine r_iS ?_
          walk_at "go"
          refine ⟨_, rfl, fun D hD => ?_⟩
          refine lc_txt (fun i H' => Gr H H' ∧ H' D = some (.lst (((dgs s).cps.toList.take i).map fun c => V.bl (decide (c ∈ digitsS.cps.toList))))) ⟨Gr.new hD, upd_same⟩ (fun i c H' hc ⟨g, hl2⟩ => ?_) fun H' ⟨g, hl2⟩ => ?_
          · walk_at "go"
            refine ⟨rfl, ?_⟩
            walk_at "go"
            refine ⟨_, hl2, by rw [List.length_map, List.length_take]; show _ < 16777216; have e9 : (dgs s).cps.toList.length = (dgs s).length := cl_len (dgs s); omega, g.mut hD, ?_⟩
            rw [upd_same, List.take_add_one, hc]
            simp
          · walk_at "go"
            refine ⟨D, (cl (dgs s)).map fun c => decide (c ∈ digitsS.cps.toList), rfl, SqL.of (by rw [hl2, List.map_map, List.take_of_length_le (show (dgs s).cps.toList.length ≤ (dgs s).length from Nat.le_of_eq (cl_len (dgs s)))]; rfl), ?_⟩
            rw [all_bls]
            cases hall : (cl (dgs s)).all fun c => decide (c ∈ digitsS.cps.toList) with
            | false =>
              walk_at "go"
              refine bad _ ?_ g
              unfold inOk
              rw [hall]
              simp
            | true =>
              walk_at "go"
              have c0 : ∃ c0, atI (dgs s).cps.toList 0 = some c0 ∧ (cl (dgs s)).head? = some c0 := by
                have hlen : (cl (dgs s)).length = (dgs s).length := cl_len _
                cases hc : cl (dgs s) with
                | nil => rw [hc] at hlen; simp at hlen; omega
                | cons c0 r => exact ⟨c0, by show atI (cl (dgs s)) 0 = _; rw [hc]; exact atI_nat (j := 0) rfl, rfl⟩
              obtain ⟨c0, hat, hhd⟩ := c0
              refine r_ixS hd hat ?_
              walk_at "go"
              have fin : ∀ H1, Gr H H1 → inOk 80 s = true → rIntU [.str s] H1 Q := fun H1 g h => by
                obtain ⟨hl3, n, hn⟩ := inOk_text h (by decide)
                have k := k H1 g
                unfold intIn at k
                rw [if_pos h, hn] at k
                exact .inr ⟨s, n, rfl, hn, hl3, k⟩
              have z48 : (⟨#[c0]⟩ : Str) = "0" ↔ c0 = 48 := by
                have e : cl "0" = [48] := by decide
                constructor
                · intro h
                  have := congrArg cl h
                  rw [e, cl_one] at this
                  simpa using this
                · intro h
                  exact cl_inj (by rw [e, cl_one, h])
              refine r_iteD (fun h3 => ?_) fun h3 => ?_
              · walk_at "go"
                refine r_iteN (fun h4 => ?_) fun h4 => ?_
                · walk_at "go"
                  refine bad _ ?_ g
                  unfold inOk
                  rw [hhd, z48.mp h3, decide_eq_false h4]
                  simp
                · walk_at "go"
                  refine fin _ g ?_
                  unfold inOk
                  rw [hall, decide_eq_true h1, decide_eq_true h2, decide_eq_true h4]
                  simp
              · walk_at "go"
                refine fin _ g ?_
                unfold inOk
                rw [hall, decide_eq_true h1, decide_eq_true h2, hhd, decide_eq_false (show ¬ (some c0 = some 48) from fun h => h3 (z48.mpr (by simpa using h)))]
                simp
      · walk_at "go"
        refine bad _ ?_ (Gr.refl _)
        unfold inOk
        rw [decide_eq_false h1]
        rfl
/-! ### painter_line -/
def spLine : Sp := fun vs H Q _ => ∃ r, vs = rowV r ∧ r.nm.length ≤ 1000 ∧ NumOk r ∧ Q (.str (rowS r)) H
theorem ok_line (T : Tx K mg) : FnR P w K mg base (L2.CX P w) 1 (a_painter_line K) spLine := by
  refine fnR_of T.f_painter_line sc_painter_line (fun _ _ _ _ _ _ us hl => match us, hl with | [_, _, _, _], _ => rfl) (fun vs H Q E h => ?_) fun A outer s H vs Q E cdv hr h => ?_
  · obtain ⟨r, rfl, _⟩ := h
    rfl
  · obtain ⟨r, rfl, hl, hn, k⟩ := h
    refine ⟨_, (pss_one (ps_ret (pe_joined (L2.PJ.cons (pe_fmt (pv 0)) (L2.PJ.cons pe_str (L2.PJ.cons (pe_fmt (pv 1)) (L2.PJ.cons pe_str (L2.PJ.cons (pe_fmt (pv 2)) (L2.PJ.cons pe_str (L2.PJ.cons (pe_fmt (pv 3)) L2.PJ.nil)))))))))), ?_⟩
    try dsimp only [cxOf]
    walk_at "go"
    refine .inl ⟨_, rfl, by show _ ≤ 16777216; omega, ?_⟩
    walk_at "go"
    have e0 : Str.empty.length = 0 := rfl
    have e1 : (" " : Str).length = 1 := by decide
    obtain ⟨a1, a2, a3, a4, a5, a6, a7⟩ := hn
    have l1 := tS_small (i := r.day) (k := 31) (by omega) (by omega) (by decide)
    have l2 := tS_small (i := r.post) (k := 31) (by omega) (by omega) (by decide)
    have l3 := tS_small (i := r.pace) (k := 31) (by omega) (by omega) (by decide)
    refine ⟨_, rfl, by rw [PySem.Str.length_append, e0]; show _ ≤ 16777216; omega, ?_⟩
    walk_at "go"
    refine ⟨_, rfl, by rw [PySem.Str.length_append, PySem.Str.length_append, e0, e1]; show _ ≤ 16777216; omega, ?_⟩
    walk_at "go"
    refine .inr ⟨_, rfl, log_small (by omega) (by omega), ?_⟩
    walk_at "go"
    refine ⟨_, rfl, by simp only [PySem.Str.length_append, e0, e1]; show 0 + r.nm.length + 1 + (tS r.day).length ≤ 16777216; omega, ?_⟩
    walk_at "go"
    refine ⟨_, rfl, by simp only [PySem.Str.length_append, e0, e1]; show 0 + r.nm.length + 1 + (tS r.day).length + 1 ≤ 16777216; omega, ?_⟩
    walk_at "go"
    refine .inr ⟨_, rfl, log_small (by omega) (by omega), ?_⟩
    refine ⟨_, rfl, by simp only [PySem.Str.length_append, e0, e1]; show 0 + r.nm.length + 1 + (tS r.day).length + 1 + (tS r.post).length ≤ 16777216; omega, ?_⟩
    walk_at "go"
    refine ⟨_, rfl, by simp only [PySem.Str.length_append, e0, e1]; show 0 + r.nm.length + 1 + (tS r.day).length + 1 + (tS r.post).length + 1 ≤ 16777216; omega, ?_⟩
    walk_at "go"
    refine .inr ⟨_, rfl, log_small (by omega) (by omega), ?_⟩
    refine ⟨_, rfl, by simp only [PySem.Str.length_append, e0, e1]; show 0 + r.nm.length + 1 + (tS r.day).length + 1 + (tS r.post).length + 1 + (tS r.pace).length ≤ 16777216; omega, ?_⟩
    walk_at "go"
    rw [← line_eq] at k
    exact k
end
end Tx

set_option maxRecDepth 100000
set_option maxHeartbeats 4000000
namespace Tx
open PySem PySem.Spec PyProof.Rows L2 My
section
variable {P : Program} {w : World} {K : PySem.W.Frag} {mg : Str → Option Value} {base : Heap}
/-! ### painter_parts -/
def numsOf : List (Option Int) → Option (Int × Int × Int)
  | [some a, some b, some c] => some (a, b, c)
  | _ => none
def partsW : List Str → Option Rw
  | [] => none
  | nm :: rest => if nmB nm = true then (numsOf (rest.map (intIn 80))).map fun t => ⟨nm, t.1, t.2.1, t.2.2⟩ else none
def partsOf (line : Str) : Option Rw := partsW (Txt.split line " ")
def PartsQ (H : Hp) (Q : VK) (o : Option Rw) : Prop := match o with
  | none => ∀ H', Gr H H' → Q .non H'
  | some r => ∀ p H', Gr H H' → H p = none → H' p = some (.tup (rowV r)) → Q (.ref p) H'
def spParts : Sp := fun vs H Q _ => ∃ line : Str, vs = [.str line] ∧ line.length + 2 ≤ sizeLine ∧ PartsQ H Q (partsOf line)
theorem sum_mem {n : Nat} : ∀ {l : List Nat}, n ∈ l → n ≤ l.sum
  | a :: r, h => by
    rw [List.sum_cons]
    rcases List.mem_cons.mp h with rfl | h
    · omega
    · have := sum_mem h
      omega
theorem partsW_cons (nm : Str) (rest : List Str) : partsW (nm :: rest) = if nmB nm = true then (numsOf (rest.map (intIn 80))).map fun t => ⟨nm, t.1, t.2.1, t.2.2⟩ else none := rfl
theorem numsOf_ne : ∀ {nums : List (Option Int)}, nums.length ≠ 3 → numsOf nums = none
  | [], _ => rfl
  | [x], _ => by cases x <;> rfl
  | [x, y], _ => by cases x <;> cases y <;> rfl
  | [x, y, z], h => absurd rfl h
  | x :: y :: z :: u :: r, _ => by cases x <;> cases y <;> cases z <;> rfl
theorem three {α : Type} : ∀ {l : List α}, l.length = 3 → ∃ x y z, l = [x, y, z]
  | [x, y, z], _ => ⟨x, y, z, rfl⟩
theorem flat_opt (o : Option Int) : flatV (optV o) = true := by cases o <;> rfl
theorem in_non : ∀ l : List (Option Int), inV .non (l.map optV) = l.any fun o => o.isNone
  | [] => rfl
  | o :: r => by
    have ih := in_non r
    unfold inV at ih ⊢
    rw [List.map_cons, List.any_cons, List.any_cons, ih]
    cases o <;> rfl
theorem split_each {x s : Str} {c : Nat} (h : s ∈ Txt.split x ⟨#[c]⟩) : s.length ≤ x.length := by
  have hw := split_weight x ⟨#[c]⟩ (Nat.le_refl 1)
  have h1 : s.length ≤ ((Txt.split x ⟨#[c]⟩).map (·.length)).sum := sum_mem (List.mem_map_of_mem h)
  have h2 := split_pos x ⟨#[c]⟩
  omega
theorem ok_parts (T : Tx K mg) : FnR P w K mg base (L2.CX P w) 2 (a_painter_parts K) spParts := by
  have F_integer_in := ok_intin (P := P) (w := w) (base := base) T
  have F_is_name := ok_isname (P := P) (w := w) (base := base) T
  refine fnR_of T.f_painter_parts sc_painter_parts (fun _ _ _ _ _ _ us hl => match us, hl with | [_], _ => rfl) (fun vs H Q E h => ?_) fun A outer s H vs Q E cdv hr h => ?_
  · obtain ⟨l, rfl, _⟩ := h
    rfl
  · obtain ⟨l, rfl, hl, k⟩ := h
    refine ⟨_, (pss_cons (ps_asg (pe_split (pv 0) pe_str) (pg_star rfl (pg_name (i := 1) sc_painter_parts.nd rfl (by first | exact Or.inl rfl | exact Or.inr rfl)) (pg_name (i := 2) sc_painter_parts.nd rfl (by first | exact Or.inl rfl | exact Or.inr rfl))))
 (pss_cons (ps_setLc (i := 3) (own := [("word", 4)]) rfl sc_painter_parts.nd rfl rfl (sw_true rfl rfl rfl (by decide +kernel)) (pi_anyK (K := K) rfl (pv 2)) (blkOk_by (own := [("word", 4)]) (N := N_painter_parts) (sc := defScope s_painter_parts) (by decide +kernel)) (fun _ _ _ _ _ => (pg_name (i := 4) sc_painter_parts.nd rfl (by first | exact Or.inl rfl | exact Or.inr rfl))) (fun _ _ _ _ _ => pts_nil) (fun _ _ _ _ _ => (pe_callR F_integer_in (hr.mono (by first | decide | omega)) T.k_integer_in rfl T.g_integer_in passL (pa_cons (pv 4) pa_nil))))
 (pss_cons (ps_if (PW.pt (pw_or (pt_not (pt_val (pe_callR F_is_name (hr.mono (by first | decide | omega)) T.k_is_name rfl T.g_is_name_names passL (pa_cons (pv 1) pa_nil)))) (pw_or (pt_cmpR (op_neUK (K := K) rfl hr.units) (pe_callB (call_lenUK (K := K) rfl) rfl T.n_len (by decide +kernel) (pa_cons (pv 3) pa_nil)) pe_int (nomark _)) (pw_or1 (pt_cmpR (op_inK (K := K) rfl) pe_non (pv 3) (by rfl))))))
 (pss_one (ps_ret pe_non))
 pss_nil)
 (pss_one (ps_ret (pe_tup (pa_cons (pv 1) (StX.pa_star (pv 3) pa_nil)))))))), ?_⟩
    try dsimp only [cxOf]
    walk_at "go"
    refine ⟨_, _, rfl, rfl, by decide, hl, fun p hp => ?_⟩
    have hz : ∀ s ∈ Txt.split l " ", s.length ≤ l.length := fun s hs => by
      rw [sp_mk] at hs
      exact split_each hs
    unfold partsOf at k
    have hne : Txt.split l " " ≠ [] := by
      rw [sp_mk]
      exact split_ne l 32
    cases hws : Txt.split l " " with
    | nil => exact absurd hws hne
    | cons nm rest =>
      rw [hws] at hz k
      have g1 := Gr.new (o := .lst ((nm :: rest).map V.str)) hp
      refine ⟨p, .str nm, rest.map V.str, rfl, SqL.of upd_same, fun q hq => ?_⟩
      have g2 := g1.then (o := .lst (rest.map V.str)) hq
      have hq2 : (upd (upd H p (.lst ((nm :: rest).map V.str))) q (.lst (rest.map V.str))) q = some (.lst (rest.map V.str)) := upd_same
      generalize upd (upd H p (.lst ((nm :: rest).map V.str))) q (.lst (rest.map V.str)) = H2 at g2 hq2 ⊢
      walk_at "go"
      refine r_iL ?_
      walk_at "go"
      refine ⟨_, rfl, ⟨_, SqL.of hq2⟩, fun D hD => ?_⟩
      have hDq : q ≠ D := ne_of_none hq2 hD
      refine lc_list (xs := rest.map V.str) (fun i H' => Gr H2 H' ∧ H' D = some (.lst ((rest.take i).map fun w => optV (intIn 80 w)))) ⟨Gr.new hD, upd_same⟩ (fun i H' hi ⟨g, hd⟩ => SqL.of (g.e _ _ hq2)) (fun i x H' hx ⟨g, hd⟩ => ?_) fun H' ⟨g, hd⟩ => ?_
      · rw [List.getElem?_map] at hx
        obtain ⟨wd, hwd, rfl⟩ := Option.map_eq_some_iff.mp hx
        walk_at "go"
        refine ⟨rfl, ?_⟩
        walk_at "go"
        have hwl : wd.length ≤ sizeLine := by
          have := hz wd (List.mem_cons_of_mem _ (List.mem_of_getElem? hwd))
          omega
        refine ⟨wd, rfl, hwl, fun H'' g' => ⟨_, g'.e _ _ hd, ?_, (g.trans g').mut hD, ?_⟩⟩
        · rw [List.length_map, List.length_take]
          have h1 := split_weight l ⟨#[32]⟩ (Nat.le_refl 1)
          rw [← sp_mk, hws, List.length_cons] at h1
          show _ < 16777216
          have h2 : l.length + 2 ≤ 16777216 := hl
          omega
        · rw [upd_same, List.take_add_one, hwd]
          simp
      · have hd : H' D = some (.lst ((rest.map (intIn 80)).map optV)) := by
          rw [hd, List.map_map, List.length_map, List.take_of_length_le (Nat.le_refl _)]
          rfl
        have g3 := g2.trans g
        walk_at "go"
        refine .inl ⟨nm, rfl, by have := hz nm List.mem_cons_self; omega, fun H4 g4 => ⟨_, rfl, ?_⟩⟩
        have g5 := g3.trans g4
        have hd4 := g4.e _ _ hd
        generalize hnums : rest.map (intIn 80) = nums at hd4 k ⊢
        cases hnm : nmB nm with
        | false =>
          refine r_iteT ?_
          walk_at "go"
          have k : PartsQ H Q none := by
            rw [partsW_cons, hnm, if_neg (by decide)] at k
            exact k
          exact k _ g5
        | true =>
          have k : PartsQ H Q ((numsOf nums).map fun t => ⟨nm, t.1, t.2.1, t.2.2⟩) := by
            rw [partsW_cons, hnm, if_pos rfl, hnums] at k
            exact k
          refine r_iteF ?_
          walk_at "go"
          refine r_iteN (fun h3 => ?_) fun h3 => ?_
          · walk_at "go"
            have e : numsOf nums = none := numsOf_ne (fun z => h3 (by rw [List.length_map, z]; rfl))
            rw [e] at k
            exact k _ g5
          · walk_at "go"
            refine ⟨D, _, rfl, .inl (SqL.of hd4), rfl, ?_, ?_⟩
            · rw [List.all_map, List.all_eq_true]
              exact fun o _ => flat_opt o
            · rw [in_non]
              walk_at "go"
              obtain ⟨x, y, z, rfl⟩ : ∃ x y z, nums = [x, y, z] := three (by rw [List.length_map] at h3; omega)
              have bad : (x = none ∨ y = none ∨ z = none) → numsOf [x, y, z] = none := by
                rintro (rfl | rfl | rfl)
                · rfl
                · cases x <;> rfl
                · cases x <;> cases y <;> rfl
              by_cases hb : x = none ∨ y = none ∨ z = none
              · have e : ([x, y, z].any fun o => o.isNone) = true := by
                  rcases hb with rfl | rfl | rfl <;> simp
                rw [e]
                refine r_iteT ?_
                walk_at "go"
                rw [bad hb] at k
                exact k _ g5
              · obtain ⟨x, rfl⟩ : ∃ a, x = some a := by cases x with | none => simp at hb | some a => exact ⟨a, rfl⟩
                obtain ⟨y, rfl⟩ : ∃ a, y = some a := by cases y with | none => simp at hb | some a => exact ⟨a, rfl⟩
                obtain ⟨z, rfl⟩ : ∃ a, z = some a := by cases z with | none => simp at hb | some a => exact ⟨a, rfl⟩
                walk_at "go"
                refine r_iteF ?_
                walk_at "go"
                refine ⟨D, _, rfl, .inr (SqL.of hd4), ?_⟩
                walk_at "go"
                refine ⟨by show 4 ≤ 16777216; decide, fun p5 hp5 => ?_⟩
                have k : ∀ p H', Gr H H' → H p = none → H' p = some (.tup (rowV ⟨nm, x, y, z⟩)) → Q (.ref p) H' := k
                exact k p5 _ (g5.then hp5) (g5.f _ hp5) upd_same
end
end Tx

set_option maxRecDepth 100000
set_option maxHeartbeats 4000000
namespace Tx
open PySem PySem.Spec PyProof.Rows L2 My
section
variable {P : Program} {w : World} {K : PySem.W.Frag} {mg : Str → Option Value} {base : Heap}
/-! ### Painter -/
abbrev CP (K : PySem.W.Frag) : Addr := He.ga K "Painter"
def PAt (K : PySem.W.Frag) (H : Hp) (a : Addr) (r : Rw) : Prop := ∃ dx t, H a = some (.ins (CP K) dx [("parts", .ref t)]) ∧ H t = some (.tup (rowV r)) ∧ IsNm r.nm ∧ NumOk r
theorem PAt.ext {H H' : Hp} {a : Addr} {r : Rw} (h : PAt K H a r) (e : Ext H H') : PAt K H' a r := by
  obtain ⟨dx, t, h1, h2, h3⟩ := h
  exact ⟨dx, t, e _ _ h1, e _ _ h2, h3⟩
def spPInit (K : PySem.W.Frag) : Sp := fun vs H Q _ => ∃ x r dx, vs = .ref x :: rowV r ∧ H x = some (.ins (CP K) dx []) ∧ IsNm r.nm ∧ NumOk r ∧ ∀ t H1, Gr H H1 → H t = none → H1 t = some (.tup (rowV r)) → Q .non (upd H1 x (.ins (CP K) dx [("parts", .ref t)]))
theorem ok_pinit (T : Tx K mg) : FnR P w K mg base (L2.CX P w) 3 (a_Painter_init K) (spPInit K) := by
  have F_is_between := ok_between (P := P) (w := w) (base := base) T
  have F_is_name := ok_isname (P := P) (w := w) (base := base) T
  refine fnR_of T.f_Painter_init sc_Painter_init (fun _ _ _ _ _ _ us hl => match us, hl with | [_, _, _, _, _], _ => rfl) (fun vs H Q E h => ?_) fun A outer s H vs Q E cdv hr h => ?_
  · obtain ⟨x, r, dx, rfl, _⟩ := h
    rfl
  · obtain ⟨x, r, dx, rfl, hx, hn, hk, k⟩ := h
    refine ⟨_, (pss_cons (ps_if (pt_not (pt_val (pe_callR F_is_name (hr.mono (by first | decide | omega)) T.k_is_name rfl T.g_is_name_names passL (pa_cons (pv 1) pa_nil))))
 (pss_one ps_never)
 pss_nil)
 (pss_cons (ps_if (pt_not (pt_val (pe_callR F_is_between (hr.mono (by first | decide | omega)) T.k_is_between rfl T.g_is_between passL (pa_cons (pv 2) (pa_cons pe_int (pa_cons (pe_con (pv 0) rfl) pa_nil))))))
 (pss_one ps_never)
 pss_nil)
 (pss_cons (ps_if (pt_not (pt_val (pe_callR F_is_between (hr.mono (by first | decide | omega)) T.k_is_between rfl T.g_is_between passL (pa_cons (pv 3) (pa_cons (pe_un un_neg (pe_con (pv 0) rfl)) (pa_cons (pe_con (pv 0) rfl) pa_nil))))))
 (pss_one ps_never)
 pss_nil)
 (pss_cons (ps_if (PW.pt (pw_or (pt_not (pt_val (pe_callR F_is_between (hr.mono (by first | decide | omega)) T.k_is_between rfl T.g_is_between passL (pa_cons (pv 4) (pa_cons (pe_un un_neg (pe_con (pv 0) rfl)) (pa_cons (pe_con (pv 0) rfl) pa_nil)))))) (pw_or1 (pt_cmpR (op_eqUK (K := K) rfl hr.units) (pv 4) pe_int (nomark _)))))
 (pss_one ps_never)
 pss_nil)
 (pss_one (ps_fld (pv 0) (pe_tup (pa_cons (pv 1) (pa_cons (pv 2) (pa_cons (pv 3) (pa_cons (pv 4) pa_nil))))) rfl)))))), ?_⟩
    try dsimp only [cxOf]
    walk_at "go"
    refine .inl ⟨_, rfl, by have := hn.2.1; show _ ≤ 16777216; omega, fun H1 g1 => ⟨_, rfl, ?_⟩⟩
    rw [nmB_iff.mpr hn]
    refine r_iteF ?_
    obtain ⟨k1, k2, k3, k4, k5, k6, k7⟩ := hk
    have hx1 := g1.e _ _ hx
    walk_at "go"
    refine r_conV hx1 T.cl_Painter T.co_Painter_MAX_DAY rfl ?_
    walk_at "go"
    refine .inl ⟨_, _, _, rfl, ⟨_, rfl, ?_⟩⟩
    rw [decide_eq_true k1, decide_eq_true (show r.day ≤ 1000000000000000000000000000000 by omega)]
    refine r_iteF ?_
    walk_at "go"
    refine r_conV hx1 T.cl_Painter T.co_Painter_MAX_POST rfl ?_
    walk_at "go"
    refine r_conV hx1 T.cl_Painter T.co_Painter_MAX_POST rfl ?_
    walk_at "go"
    refine .inl ⟨_, _, _, rfl, ⟨_, rfl, ?_⟩⟩
    rw [decide_eq_true (show -1000000000000000000000000000000 ≤ r.post by omega), decide_eq_true (show r.post ≤ 1000000000000000000000000000000 by omega)]
    refine r_iteF ?_
    walk_at "go"
    refine r_conV hx1 T.cl_Painter T.co_Painter_MAX_STRIDE rfl ?_
    walk_at "go"
    refine r_conV hx1 T.cl_Painter T.co_Painter_MAX_STRIDE rfl ?_
    walk_at "go"
    refine .inl ⟨_, _, _, rfl, ⟨_, rfl, ?_⟩⟩
    rw [decide_eq_true (show -1000000000000000000 ≤ r.pace by omega), decide_eq_true (show r.pace ≤ 1000000000000000000 by omega)]
    refine r_iteF ?_
    walk_at "go"
    rw [decide_eq_false k7]
    walk_at "go"
    refine ⟨by show 4 ≤ 16777216; decide, fun t ht => ?_⟩
    walk_at "go"
    have hx2 := (Gr.new (o := .tup (rowV r)) ht).e _ _ hx1
    refine ⟨x, _, _, _, rfl, hx2, T.cl_Painter, T.no_Painter_parts, by decide, ?_⟩
    exact k t _ (g1.then ht) (g1.f _ ht) upd_same
/-! the properties -/
def spPP (K : PySem.W.Frag) (f : Rw → V) : Sp := fun vs H Q _ => ∃ a r, vs = [.ref a] ∧ PAt K H a r ∧ Q (f r) H
theorem ok_name (T : Tx K mg) : FnR P w K mg base (L2.CX P w) 1 (a_Painter_name K) (spPP K fun r => .str r.nm) := by
  refine fnR_of T.f_Painter_name sc_Painter_name (fun _ _ _ _ _ _ us hl => match us, hl with | [_], _ => rfl) (fun vs H Q E h => ?_) fun A outer s H vs Q E cdv hr h => ?_
  · obtain ⟨a, r, rfl, _⟩ := h
    rfl
  · obtain ⟨a, r, rfl, ⟨dx, t, h1, h2, _⟩, k⟩ := h
    refine ⟨_, (pss_one (ps_ret (pe_ix (ix_seqK (K := K) rfl) (pe_fld (pv 0) rfl) pe_int (fun _ _ => rfl)))), ?_⟩
    try dsimp only [cxOf]
    walk_at "go"
    refine r_fldV h1 T.cl_Painter T.no_Painter_parts rfl ?_
    walk_at "go"
    exact r_ixT (SqT.of h2) (atI_nat (j := 0) rfl) k
theorem ok_day (T : Tx K mg) : FnR P w K mg base (L2.CX P w) 1 (a_Painter_day K) (spPP K fun r => .int r.day) := by
  refine fnR_of T.f_Painter_day sc_Painter_day (fun _ _ _ _ _ _ us hl => match us, hl with | [_], _ => rfl) (fun vs H Q E h => ?_) fun A outer s H vs Q E cdv hr h => ?_
  · obtain ⟨a, r, rfl, _⟩ := h
    rfl
  · obtain ⟨a, r, rfl, ⟨dx, t, h1, h2, _⟩, k⟩ := h
    refine ⟨_, (pss_one (ps_ret (pe_ix (ix_seqK (K := K) rfl) (pe_fld (pv 0) rfl) pe_int (fun _ _ => rfl)))), ?_⟩
    try dsimp only [cxOf]
    walk_at "go"
    refine r_fldV h1 T.cl_Painter T.no_Painter_parts rfl ?_
    walk_at "go"
    exact r_ixT (SqT.of h2) (atI_nat (j := 1) rfl) k
theorem ok_post (T : Tx K mg) : FnR P w K mg base (L2.CX P w) 1 (a_Painter_post K) (spPP K fun r => .int r.post) := by
  refine fnR_of T.f_Painter_post sc_Painter_post (fun _ _ _ _ _ _ us hl => match us, hl with | [_], _ => rfl) (fun vs H Q E h => ?_) fun A outer s H vs Q E cdv hr h => ?_
  · obtain ⟨a, r, rfl, _⟩ := h
    rfl
  · obtain ⟨a, r, rfl, ⟨dx, t, h1, h2, _⟩, k⟩ := h
    refine ⟨_, (pss_one (ps_ret (pe_ix (ix_seqK (K := K) rfl) (pe_fld (pv 0) rfl) pe_int (fun _ _ => rfl)))), ?_⟩
    try dsimp only [cxOf]
    walk_at "go"
    refine r_fldV h1 T.cl_Painter T.no_Painter_parts rfl ?_
    walk_at "go"
    exact r_ixT (SqT.of h2) (atI_nat (j := 2) rfl) k
theorem ok_stride (T : Tx K mg) : FnR P w K mg base (L2.CX P w) 1 (a_Painter_stride K) (spPP K fun r => .int r.pace) := by
  refine fnR_of T.f_Painter_stride sc_Painter_stride (fun _ _ _ _ _ _ us hl => match us, hl with | [_], _ => rfl) (fun vs H Q E h => ?_) fun A outer s H vs Q E cdv hr h => ?_
  · obtain ⟨a, r, rfl, _⟩ := h
    rfl
  · obtain ⟨a, r, rfl, ⟨dx, t, h1, h2, _⟩, k⟩ := h
    refine ⟨_, (pss_one (ps_ret (pe_ix (ix_seqK (K := K) rfl) (pe_fld (pv 0) rfl) pe_int (fun _ _ => rfl)))), ?_⟩
    try dsimp only [cxOf]
    walk_at "go"
    refine r_fldV h1 T.cl_Painter T.no_Painter_parts rfl ?_
    walk_at "go"
    exact r_ixT (SqT.of h2) (atI_nat (j := 3) rfl) k
theorem ok_ptext (T : Tx K mg) : FnR P w K mg base (L2.CX P w) 2 (a_Painter_text K) (spPP K fun r => .str (rowS r)) := by
  have F_painter_line := ok_line (P := P) (w := w) (base := base) T
  refine fnR_of T.f_Painter_text sc_Painter_text (fun _ _ _ _ _ _ us hl => match us, hl with | [_], _ => rfl) (fun vs H Q E h => ?_) fun A outer s H vs Q E cdv hr h => ?_
  · obtain ⟨a, r, rfl, _⟩ := h
    rfl
  · obtain ⟨a, r, rfl, ⟨dx, t, h1, h2, h3, h4⟩, k⟩ := h
    refine ⟨_, (pss_one (ps_ret (pe_callS1 F_painter_line (hr.mono (by first | decide | omega)) T.k_painter_line rfl T.g_painter_line passL (pe_fld (pv 0) rfl)))), ?_⟩
    try dsimp only [cxOf]
    walk_at "go"
    refine r_fldV h1 T.cl_Painter T.no_Painter_parts rfl ?_
    exact ⟨t, _, rfl, .inl (SqT.of h2), r, rfl, by have := h3.2.1; omega, h4, k⟩
def RP (K : PySem.W.Frag) (a b : Addr) (H : Hp) : Prop := ∃ r, PAt K H a r ∧ PAt K H b r
theorem ok_peq (T : Tx K mg) : FnR P w K mg base (L2.CX P w) 1 (He.ma K (CP K) "__eq__") (spEq (RP K)) := by
  refine fnR_of T.f_Painter_eq sc_Painter_eq (fun _ _ _ _ _ _ us hl => match us, hl with | [_, _], _ => rfl) (fun vs H Q E h => ?_) fun A outer s H vs Q E cdv hr h => ?_
  · obtain ⟨a, b, rfl, _⟩ := h
    rfl
  · obtain ⟨a, b, rfl, ⟨r, ⟨dx, t, h1, h2, h3, h4⟩, ⟨dy, u, j1, j2, _⟩⟩, k⟩ := h
    refine ⟨_, (pss_one (ps_ret (pe_and (pe_callB call_isi rfl T.n_isinstance (by decide +kernel) (pa_cons (pv 1) (pa_cons (pe_glob (v := .ref (He.ga K "Painter")) rfl T.g_Painter rfl) pa_nil))) (pe_one (pe_cmpR (op_eqUK (K := K) rfl hr.units) (pe_fld (pv 0) rfl) (pe_fld (pv 1) rfl) (nomark _)))))), ?_⟩
    try dsimp only [cxOf]
    walk_at "go"
    refine ⟨_, _, _, _, _, rfl, .own _, .base (.ins j1 T.cl_Painter T.ii_Painter.ha T.ii_Painter.hn T.ii_Painter.htk T.ii_Painter.hm), T.ii_Painter.me, ⟨_, rfl, r_iteT ?_⟩⟩
    walk_at "go"
    refine r_fldV h1 T.cl_Painter T.no_Painter_parts rfl ?_
    walk_at "go"
    refine r_fldV j1 T.cl_Painter T.no_Painter_parts rfl ?_
    refine .inr ⟨rowD r, rowD r, rowD_dp h2, rowD_dp j2, rowD_shaped h3, rowD_shaped h3, ?_⟩
    rw [PySem.SeqAt.eqv_refl (rowD r) (rowD_lay h3)]
    exact k H fun _ _ z => z
end
end Tx

set_option maxRecDepth 100000
set_option maxHeartbeats 4000000
namespace Tx
open PySem PySem.Spec PyProof.Rows L2 My
section
variable {P : Program} {w : World} {K : PySem.W.Frag} {mg : Str → Option Value} {base : Heap}
/-! ### Painter.read -/
theorem partsOf_nm {s : Str} {r : Rw} (h : partsOf s = some r) : IsNm r.nm := by
  unfold partsOf partsW at h
  split at h
  · cases h
  · rename_i nm rest _
    split at h
    · rename_i hn
      obtain ⟨t, _, e⟩ := Option.map_eq_some_iff.mp h
      rw [← e]
      exact nmB_iff.mp hn
    · cases h
/-- the text of a row is read as the row -/
theorem partsOf_row {r : Rw} (h : IsNm r.nm) (hn : NumOk r) : partsOf (rowS r) = some r := by
  unfold partsOf
  rw [row_split h, partsW_cons, if_pos (nmB_iff.mpr h)]
  obtain ⟨a1, a2, a3, a4, a5, a6, a7⟩ := hn
  rw [List.map_cons, List.map_cons, List.map_cons, List.map_nil, intIn_tS (by omega) (by omega), intIn_tS (by omega) (by omega), intIn_tS (by omega) (by omega)]
  rfl
def spPRead (K : PySem.W.Frag) : Sp := fun vs H Q _ => ∃ s r, vs = [.ref (CP K), .str s] ∧ s.length + 2 ≤ sizeLine ∧ partsOf s = some r ∧ NumOk r ∧ ∀ a H1, Gr H H1 → H a = none → PAt K H1 a r → Q (.ref a) H1
theorem ok_pread (T : Tx K mg) : FnR P w K mg base (L2.CX P w) 5 (a_Painter_read K) (spPRead K) := by
  have F_painter_parts := ok_parts (P := P) (w := w) (base := base) T
  have F_Painter_init := ok_pinit (P := P) (w := w) (base := base) T
  refine fnR_of T.f_Painter_read sc_Painter_read (fun _ _ _ _ _ _ us hl => match us, hl with | [_, _], _ => rfl) (fun vs H Q E h => ?_) fun A outer s H vs Q E cdv hr h => ?_
  · obtain ⟨s, r, rfl, _⟩ := h
    rfl
  · obtain ⟨s, r, rfl, hl, hp, hn, k⟩ := h
    refine ⟨_, (pss_cons (ps_set (i := 2) sc_Painter_read.nd rfl (by first | exact Or.inl rfl | exact Or.inr rfl) (pe_ifExp (pt_val (pe_callB call_isi rfl T.n_isinstance (by decide +kernel) (pa_cons (pv 1) (pa_cons (pe_bltn (v := .ty "str") rfl T.n_str (by decide +kernel) rfl) pa_nil)))) (pe_callR F_painter_parts (hr.mono (by first | decide | omega)) T.k_painter_parts rfl T.g_painter_parts passL (pa_cons (pv 1) pa_nil)) pe_non))
 (pss_cons (ps_if (pt_cmpR op_isN (pv 2) pe_non (nomark _))
 (pss_one ps_never)
 pss_nil)
 (pss_one (ps_try_thru0 (pss_one (ps_ret (pe_makeV1 T.m_Painter F_Painter_init (hr.mono (by first | decide | omega)) passL (pv 2) (pv 0)))))))), ?_⟩
    try dsimp only [cxOf]
    walk_at "go"
    refine r_isi kit_str.1 ⟨_, rfl, r_iteT ?_⟩
    walk_at "go"
    refine ⟨s, rfl, hl, ?_⟩
    rw [hp]
    intro p H1 g1 hp0 hp1
    walk_at "go"
    refine ⟨rfl, _, rfl, ?_⟩
    rw [decide_eq_false (show ¬ (V.ref p = V.non) from fun z => by cases z)]
    refine r_iteF ?_
    walk_at "go"
    refine ⟨rfl, ?_⟩
    walk_at "go"
    refine ⟨p, _, rfl, .inl (SqT.of hp1), fun x dx hx hdx hne => ?_⟩
    have hx' : (upd H1 dx (.own x)) x = none := by rw [upd_ne (Ne.symm hne)]; exact hx
    have hnm := partsOf_nm hp
    refine ⟨x, r, dx, rfl, upd_same, hnm, hn, fun t H2 g2 ht h2 => ⟨rfl, ?_⟩⟩
    have hxt : t ≠ x := ne_of h2 (g2.e _ _ upd_same) (by intro z; cases z)
    exact k x _ (((g1.trans ((Gr.new hdx).then hx')).trans g2).mut (g1.f _ hx)) (g1.f _ hx) ⟨dx, t, upd_same, by rw [upd_ne hxt]; exact h2, hnm, hn⟩
/-! ### Fence -/
abbrev CF (K : PySem.W.Frag) : Addr := He.ga K "Fence"
/-- painters at the values vs -/
def PsAt (K : PySem.W.Frag) (H : Hp) : List V → List Rw → Prop
  | [], [] => True
  | v :: vs, r :: rs => (∃ a, v = .ref a ∧ PAt K H a r) ∧ PsAt K H vs rs
  | _, _ => False
theorem PsAt.ext {H H' : Hp} (e : Ext H H') : ∀ {vs : List V} {rs : List Rw}, PsAt K H vs rs → PsAt K H' vs rs
  | [], [], _ => trivial
  | _ :: _, _ :: _, ⟨⟨a, e1, e2⟩, h⟩ => ⟨⟨a, e1, e2.ext e⟩, PsAt.ext e h⟩
theorem PsAt.len {H : Hp} : ∀ {vs : List V} {rs : List Rw}, PsAt K H vs rs → vs.length = rs.length
  | [], [], _ => rfl
  | _ :: _, _ :: _, ⟨_, h⟩ => congrArg (· + 1) (PsAt.len h)
theorem PsAt.snoc {H : Hp} {a : Addr} {r : Rw} (e : PAt K H a r) : ∀ {vs : List V} {rs : List Rw}, PsAt K H vs rs → PsAt K H (vs ++ [.ref a]) (rs ++ [r])
  | [], [], _ => ⟨⟨a, rfl, e⟩, trivial⟩
  | _ :: _, _ :: _, ⟨h1, h⟩ => ⟨h1, PsAt.snoc e h⟩
theorem PsAt.at {H : Hp} {v : V} : ∀ {vs : List V} {rs : List Rw} {i : Nat}, PsAt K H vs rs → vs[i]? = some v → ∃ a r, rs[i]? = some r ∧ v = .ref a ∧ PAt K H a r
  | [], [], _, _, h => by simp at h
  | u :: vs, r :: rs, 0, ⟨⟨a, e1, e2⟩, h⟩, hm => by
    have : u = v := by simpa using hm
    subst this
    exact ⟨a, r, rfl, e1, e2⟩
  | u :: vs, r :: rs, i + 1, ⟨_, h⟩, hm => by simpa using PsAt.at (vs := vs) (rs := rs) (i := i) h (by simpa using hm)
/-- the dict of places -/
def plKV (i : Nat) : List Str → List (Key × V)
  | [] => []
  | n :: r => (.inr n, .int i) :: plKV (i + 1) r
theorem plKV_len : ∀ {k : Nat} {l : List Str}, (plKV k l).length = l.length
  | _, [] => rfl
  | k, n :: r => congrArg (· + 1) (plKV_len (k := k + 1) (l := r))
theorem plKV_snoc {nm : Str} : ∀ {k : Nat} {l : List Str}, plKV k (l ++ [nm]) = plKV k l ++ [(.inr nm, .int ((k + l.length : Nat) : Int))]
  | _, [] => rfl
  | k, n :: r => by
    show (Sum.inr n, V.int k) :: plKV (k + 1) (r ++ [nm]) = (Sum.inr n, V.int k) :: (plKV (k + 1) r ++ _)
    rw [plKV_snoc (k := k + 1) (l := r), List.length_cons]
    have e : k + 1 + r.length = k + (r.length + 1) := by omega
    rw [e]
theorem plKV_key : ∀ {k : Nat} {l : List Str} {kv : Key × V}, kv ∈ plKV k l → ∃ n ∈ l, kv.1 = .inr n
  | _, [], _, h => (List.not_mem_nil h).elim
  | k, n :: r, kv, h => by
    rcases List.mem_cons.mp h with rfl | h
    · exact ⟨n, List.mem_cons_self, rfl⟩
    · obtain ⟨m, h1, h2⟩ := plKV_key h
      exact ⟨m, List.mem_cons_of_mem _ h1, h2⟩
theorem putK_new {kvs : List (Key × V)} {k : Key} {v : V} (h : ∀ kv ∈ kvs, kv.1 ≠ k) : putK kvs k v = kvs ++ [(k, v)] := by
  unfold putK
  rw [if_neg]
  rw [List.any_eq_true]
  rintro ⟨kv, h1, h2⟩
  exact h kv h1 (of_decide_eq_true h2)
theorem pl_put {names : List Str} {nm : Str} {i : Nat} (hn : names.Nodup) (h : names[i]? = some nm) : putK (plKV 0 (names.take i)) (.inr nm) (.int i) = plKV 0 (names.take (i + 1)) := by
  obtain ⟨hi1, hi2⟩ := List.getElem?_eq_some_iff.mp h
  rw [putK_new fun kv hkv e => ?_, List.take_add_one, h]
  · show _ = plKV 0 (names.take i ++ [nm])
    rw [plKV_snoc, List.length_take, Nat.min_eq_left (by omega), Nat.zero_add]
  · obtain ⟨m, hm, e2⟩ := plKV_key hkv
    rw [e2] at e
    have e3 : m = nm := Sum.inr.inj e
    subst e3
    obtain ⟨j, hj⟩ := List.mem_iff_getElem?.mp hm
    have hji : j < i := by
      have := (List.getElem?_eq_some_iff.mp hj).1
      rw [List.length_take] at this
      omega
    rw [List.getElem?_take_of_lt hji] at hj
    obtain ⟨hj1, hj2⟩ := List.getElem?_eq_some_iff.mp hj
    exact (List.pairwise_iff_getElem.mp (List.nodup_iff_pairwise_ne.mp hn)) j i hj1 hi1 hji (hj2.trans hi2.symm)
def FAt (K : PySem.W.Frag) (H : Hp) (a : Addr) (rs : List Rw) : Prop := ∃ dx t d vs, H a = some (.ins (CF K) dx [("listed", .ref t), ("places", .ref d)]) ∧ SqT K H t vs ∧ PsAt K H vs rs ∧ H d = some (.dK (plKV 0 (rs.map Rw.nm))) ∧ RowsOk rs
theorem FAt.ext {H H' : Hp} {a : Addr} {rs : List Rw} (h : FAt K H a rs) (e : Ext H H') : FAt K H' a rs := by
  obtain ⟨dx, t, d, vs, h1, h2, h3, h4, h5⟩ := h
  exact ⟨dx, t, d, vs, e _ _ h1, h2.ext e, h3.ext e, e _ _ h4, h5⟩
def spFInit (K : PySem.W.Frag) : Sp := fun vs H Q _ => ∃ x dx t ps rs, vs = [.ref x, .ref t] ∧ H x = some (.ins (CF K) dx []) ∧ SqT K H t ps ∧ PsAt K H ps rs ∧ RowsOk rs ∧
  ∀ d H1, Gr H H1 → H d = none → H1 d = some (.dK (plKV 0 (rs.map Rw.nm))) → Q .non (upd H1 x (.ins (CF K) dx [("listed", .ref t), ("places", .ref d)]))
theorem ok_finit (T : Tx K mg) : FnR P w K mg base (L2.CX P w) 3 (a_Fence_init K) (fun vs H Q E => ∃ ws rest, vs = ws ++ rest ∧ ws.length = 1 ∧ rest.length ≤ sizeLine ∧ ∀ p, H p = none → spFInit K (ws ++ [V.ref p]) (upd H p (.tup rest)) Q E) := by
  have F_Painter_name := ok_name (P := P) (w := w) (base := base) T
  refine fnR_star (ps := ["self"]) T.f_Fence_init sc_Fence_init (fun kV doc pm an cdv ct us rest hl => match us, rest, hl with | [_], [], _ => rfl | [_], _ :: _, _ => rfl) fun A outer s H vs Q E cdv hr h => ?_
  obtain ⟨x, dx, t, ps, rs, rfl, hx, ht, hps, hrs, k⟩ := h
  refine ⟨_, (C8.pss_cut (ps_for (passes_of rfl) rfl (pi_enumA rfl T.n_enumerate (pa_cons (pv 1) pa_nil)) (pg_tupK (K := K) (n := 2) rfl rfl (pgs_cons (pg_name (i := 2) sc_Fence_init.nd rfl (by first | exact Or.inl rfl | exact Or.inr rfl)) (pgs_cons (pg_name (i := 3) sc_Fence_init.nd rfl (by first | exact Or.inl rfl | exact Or.inr rfl)) pgs_nil)))
 (pss_one (ps_if (pt_not (pt_val (pe_callB call_isi rfl T.n_isinstance (by decide +kernel) (pa_cons (pv 3) (pa_cons (pe_glob (v := .ref (He.ga K "Painter")) rfl T.g_Painter rfl) pa_nil)))))
 (pss_one ps_never)
 pss_nil)))
 (C8.pss_cut (ps_setLc (i := 4) (own := [("painter", 3)]) rfl sc_Fence_init.nd rfl rfl (sw_true rfl rfl rfl (by decide +kernel)) (pi_anyK (K := K) rfl (pv 1)) (blkOk_by (own := [("painter", 3)]) (N := N_Fence_init) (sc := defScope s_Fence_init) (by decide +kernel)) (fun _ _ _ _ _ => (pg_name (i := 3) sc_Fence_init.nd rfl (by first | exact Or.inl rfl | exact Or.inr rfl))) (fun _ _ _ _ _ => pts_nil) (fun _ _ _ _ _ => (pe_propR (pv 3) T.cl_Painter T.pr_Painter_name F_Painter_name (hr.mono (by first | decide | omega)) passL)))
 (C8.pss_cut (ps_for (passes_of rfl) rfl (pi_enumA rfl T.n_enumerate (pa_cons (pv 4) pa_nil)) (pg_tupK (K := K) (n := 2) rfl rfl (pgs_cons (pg_name (i := 2) sc_Fence_init.nd rfl (by first | exact Or.inl rfl | exact Or.inr rfl)) (pgs_cons (pg_name (i := 5) sc_Fence_init.nd rfl (by first | exact Or.inl rfl | exact Or.inr rfl)) pgs_nil)))
 (pss_one (ps_if (pt_cmpR (op_inK (K := K) rfl) (pv 5) (pe_slice (sl_anyK (K := K) rfl) (pv 4) po_none (po_some (pv 2))) (by rfl))
 (pss_one ps_never)
 pss_nil)))
 (C8.pss_cut (ps_if (pt_cmpR op_gt (pe_callB (call_lenUK (K := K) rfl) rfl T.n_len (by decide +kernel) (pa_cons (pv 1) pa_nil)) (C8.pe_gc rfl T.c_MAX_PAINTERS) (nomark _))
 (pss_one ps_never)
 pss_nil)
 (C8.pss_cut (ps_fld (pv 0) (pv 1) rfl)
 (pss_one (ps_fld (pv 0) (pe_dc (own := [("index", 2), ("name", 5)]) rfl sc_Fence_init.nd (pi_enumA rfl T.n_enumerate (pa_cons (pv 4) pa_nil)) (blkOk_by (own := [("index", 2), ("name", 5)]) (N := N_Fence_init) (sc := defScope s_Fence_init) (by decide +kernel)) (fun _ _ _ _ _ => (pg_tupK (K := K) (n := 2) rfl rfl (pgs_cons (pg_name (i := 2) sc_Fence_init.nd rfl (by first | exact Or.inl rfl | exact Or.inr rfl)) (pgs_cons (pg_name (i := 5) sc_Fence_init.nd rfl (by first | exact Or.inl rfl | exact Or.inr rfl)) pgs_nil)))) (fun _ _ _ _ _ => pts_nil) (fun _ _ _ _ _ => (pv 5)) (fun _ _ _ _ _ => (pv 2))) rfl))))))), ?_⟩
  try dsimp only [cxOf]
  have hmax : rs.length ≤ 40 := hrs.2.2.2
  have hpl : ps.length ≤ 40 := by rw [hps.len]; exact hmax
  -- every one is a painter
  refine r_cut (fun σ' H' => ∃ o2 o3, σ' = [some (.ref x), some (.ref t), o2, o3, none, none] ∧ Gr H H') ?_ ?_
  · walk_at "go"
    refine ⟨t, ps, rfl, .inr ⟨ht, ?_⟩⟩
    refine for_enumT (fun i σ' H' => ∃ o2 o3, σ' = [some (.ref x), some (.ref t), o2, o3, none, none] ∧ Gr H H') ⟨_, _, rfl, Gr.refl _⟩ (fun i σ' H' hi ⟨_, _, _, g⟩ => ht.ext g.e) (fun i v σ' H' T1 hv ⟨o2, o3, e, g⟩ hT => ?_) fun σ' H' h => h
    subst e
    obtain ⟨a, r, hr1, rfl, dy, u, h1, h2⟩ := hps.at hv
    have g1 := g.then (o := .tup [.int (i : Nat), .ref a]) hT
    refine r_gtup upd_same rfl ?_
    walk_at "go"
    refine ⟨_, _, _, _, _, rfl, .own _, .base (.ins (g1.e _ _ h1) T.cl_Painter T.ii_Painter.ha T.ii_Painter.hn T.ii_Painter.htk T.ii_Painter.hm), T.ii_Painter.me, ⟨_, rfl, r_iteF ?_⟩⟩
    walk_at "go"
    exact ⟨_, _, rfl, g1⟩
  rintro σ1 H1 ⟨o2, o3, rfl, g1⟩
  -- the names
  refine r_cut (fun σ' H' => ∃ q, σ' = [some (.ref x), some (.ref t), o2, o3, some (.ref q), none] ∧ Gr H H' ∧ H' q = some (.lst ((rs.map Rw.nm).map V.str))) ?_ ?_
  · walk_at "go"
    refine r_iT ?_
    walk_at "go"
    refine ⟨_, rfl, ⟨_, ht.ext g1.e⟩, fun D hD => ?_⟩
    refine lc_tup (xs := ps) (fun i H' => Gr H1 H' ∧ H' D = some (.lst (((rs.map Rw.nm).take i).map V.str))) ⟨Gr.new hD, upd_same⟩ (fun i H' hi ⟨g, _⟩ => (ht.ext g1.e).ext g.e) (fun i v H' hv ⟨g, hd⟩ => ?_) fun H' ⟨g, hd⟩ => ?_
    · obtain ⟨a, r, hr1, rfl, hp⟩ := hps.at hv
      have hp' := hp.ext (g1.trans g).e
      obtain ⟨dy, u, h1, _⟩ := id hp'
      walk_at "go"
      refine ⟨rfl, ?_⟩
      walk_at "go"
      refine ⟨a, dy, _, rfl, h1, a, r, rfl, hp', _, hd, by rw [List.length_map, List.length_take, List.length_map]; show _ < 16777216; omega, g.mut hD, ?_⟩
      rw [upd_same, List.take_add_one, List.getElem?_map, hr1]
      simp
    · walk_at "go"
      exact ⟨D, rfl, g1.trans g, by rw [hd, List.take_of_length_le (by rw [List.length_map, hps.len]; exact Nat.le_refl _)]⟩
  rintro σ2 H2 ⟨q, rfl, g2, hq⟩
  have hnod := hrs.2.1
  -- none twice
  refine r_cut (fun σ' H' => ∃ o2 o5, σ' = [some (.ref x), some (.ref t), o2, o3, some (.ref q), o5] ∧ Gr H2 H') ?_ ?_
  · walk_at "go"
    refine ⟨q, _, rfl, .inl ⟨SqL.of hq, ?_⟩⟩
    refine for_enumL (fun i σ' H' => ∃ o2 o5, σ' = [some (.ref x), some (.ref t), o2, o3, some (.ref q), o5] ∧ Gr H2 H') ⟨_, _, rfl, Gr.refl _⟩ (fun i σ' H' hi ⟨_, _, _, g⟩ => (SqL.of hq).ext g.e) (fun i v σ' H' T1 hv ⟨o2, o5, e, g⟩ hT => ?_) fun σ' H' h => h
    subst e
    rw [List.getElem?_map] at hv
    obtain ⟨nm, hnm, rfl⟩ := Option.map_eq_some_iff.mp hv
    have g3 := g.then (o := .tup [.int (i : Nat), .str nm]) hT
    refine r_gtup upd_same rfl ?_
    walk_at "go"
    refine r_slL ((SqL.of hq).ext g3.e) fun q4 hq4 => ?_
    walk_at "go"
    have hcut : cutV ((rs.map Rw.nm).map V.str) none (some (i : Int)) = ((rs.map Rw.nm).take i).map V.str := by
      unfold cutV
      have e0 : HT.sIx ((rs.map Rw.nm).map V.str).length 0 none = 0 := rfl
      rw [e0, HT.sIx_nat, List.drop_zero, Nat.sub_zero, ← List.map_take]
      congr 1
      have := (List.getElem?_eq_some_iff.mp hnm).1
      rw [Nat.min_eq_left (by rw [List.length_map]; omega)]
    refine ⟨q4, _, rfl, .inl (SqL.of upd_same), rfl, ?_, ?_⟩
    · rw [hcut, List.all_map, List.all_eq_true]
      exact fun _ _ => rfl
    · have hin : inV (.str nm) (cutV ((rs.map Rw.nm).map V.str) none (some (i : Int))) = false := by
        rw [hcut]
        unfold inV
        rw [List.any_map, List.any_eq_false]
        intro y hy
        show ¬ ((y == nm) = true)
        rw [beq_iff_eq]
        intro e
        subst e
        obtain ⟨j, hj⟩ := List.mem_iff_getElem?.mp hy
        have hji : j < i := by
          have := (List.getElem?_eq_some_iff.mp hj).1
          rw [List.length_take] at this
          omega
        rw [List.getElem?_take_of_lt hji] at hj
        obtain ⟨hj1, hj2⟩ := List.getElem?_eq_some_iff.mp hj
        obtain ⟨hi1, hi2⟩ := List.getElem?_eq_some_iff.mp hnm
        have := (List.nodup_iff_pairwise_ne.mp hnod)
        exact absurd (hj2.trans hi2.symm) ((List.pairwise_iff_getElem.mp this) j i hj1 hi1 hji)
      rw [hin]
      walk_at "go"
      refine r_iteF ?_
      walk_at "go"
      exact ⟨_, _, rfl, g3.then hq4⟩
  rintro σ3 H3 ⟨o2, o5, rfl, g3⟩
  have g3' := g2.trans g3
  refine r_cut (fun σ' H' => σ' = [some (.ref x), some (.ref t), o2, o3, some (.ref q), o5] ∧ H3 = H') ?_ ?_
  · walk_at "go"
    refine r_lenT (ht.ext g3'.e) ?_
    walk_at "go"
    refine r_iteD (fun h => absurd h (by omega)) fun _ => ?_
    walk_at "go"
    exact ⟨rfl, rfl⟩
  rintro σ4 H4 ⟨rfl, rfl⟩
  have hx3 := g3'.e _ _ hx
  refine r_cut (fun σ' H' => σ' = [some (.ref x), some (.ref t), o2, o3, some (.ref q), o5] ∧ H' = upd H3 x (.ins (CF K) dx [("listed", .ref t)])) ?_ ?_
  · walk_at "go"
    exact ⟨x, _, _, _, rfl, hx3, T.cl_Fence, T.no_Fence_listed, by decide, rfl, rfl⟩
  rintro σ5 H5 ⟨rfl, rfl⟩
  have hqx : q ≠ x := ne_of (g3.e _ _ hq) hx3 (by intro z; cases z)
  have hq5 : (upd H3 x (.ins (CF K) dx [("listed", .ref t)])) q = some (.lst ((rs.map Rw.nm).map V.str)) := by rw [upd_ne hqx]; exact g3.e _ _ hq
  walk_at "go"
  refine ⟨q, _, rfl, .inl ⟨SqL.of hq5, fun D hD => ?_⟩⟩
  refine dc_enumL (fun i H' => Gr (upd H3 x (.ins (CF K) dx [("listed", .ref t)])) H' ∧ H' D = some (.dK (plKV 0 ((rs.map Rw.nm).take i)))) ⟨Gr.new hD, upd_same⟩ (fun i H' hi ⟨g, _⟩ => (SqL.of hq5).ext g.e) (fun i v H' T1 hv ⟨g, hd⟩ hT => ?_) fun H' ⟨g, hd⟩ => ?_
  · rw [List.getElem?_map] at hv
    obtain ⟨nm, hnm, rfl⟩ := Option.map_eq_some_iff.mp hv
    have g4 := g.then (o := .tup [.int (i : Nat), .str nm]) hT
    have hTD : D ≠ T1 := ne_of_none hd hT
    refine r_gtup upd_same rfl ?_
    walk_at "go"
    refine ⟨rfl, ?_⟩
    walk_at "go"
    refine ⟨_, .inr nm, rfl, by rw [upd_ne hTD]; exact hd, by rw [plKV_len, List.length_take, List.length_map]; show _ < 16777216; omega, g4.mut hD, ?_⟩
    rw [upd_same, pl_put hnod hnm]
  · have gb := g.back hx3
    walk_at "go"
    have hxx := g.e _ _ upd_same
    refine ⟨x, _, _, _, rfl, hxx, T.cl_Fence, T.no_Fence_places, (show 1 < 1000 by decide), ?_⟩
    have hDx : D ≠ x := ne_of hd hxx (by intro z; cases z)
    have k1 := k D _ (g3'.trans gb) (g3'.f _ (by
      by_cases e : D = x
      · exact absurd e hDx
      · rw [upd_ne e] at hD
        exact hD)) (by rw [upd_ne hDx, hd, List.take_of_length_le (by simp)])
    rw [L2.upd_upd] at k1
    exact k1
end
end Tx

set_option maxRecDepth 100000
set_option maxHeartbeats 4000000
namespace Tx
open PySem PySem.Spec PyProof.Rows L2 My
section
variable {P : Program} {w : World} {K : PySem.W.Frag} {mg : Str → Option Value} {base : Heap}
theorem RP_mono (a b : Addr) (H H' : Hp) (e : Ext H H') (h : RP K a b H) : RP K a b H' := by
  obtain ⟨r, h1, h2⟩ := h
  exact ⟨r, h1.ext e, h2.ext e⟩
/-! ### Fence: names, text -/
theorem plKV_keys : ∀ {k : Nat} {l : List Str}, (plKV k l).map (fun kv => kV kv.1) = l.map V.str
  | _, [] => rfl
  | k, n :: r => congrArg (V.str n :: ·) (plKV_keys (k := k + 1) (l := r))
theorem plKV_val {nm : Str} : ∀ {k : Nat} {l : List Str} {j : Nat}, l.Nodup → l[j]? = some nm → valV (plKV k l) (.inr nm) = some (.int ((k + j : Nat) : Int))
  | _, [], _, _, h => by simp at h
  | k, n :: r, 0, hd, h => by
    have : n = nm := by simpa using h
    subst this
    show valV ((Sum.inr n, V.int k) :: plKV (k + 1) r) (.inr n) = _
    unfold valV
    simp
  | k, n :: r, j + 1, hd, h => by
    have h' : r[j]? = some nm := by simpa using h
    have hne : n ≠ nm := fun e => by
      rw [e] at hd
      exact (List.nodup_cons.mp hd).1 (List.mem_of_getElem? h')
    have ih := plKV_val (k := k + 1) (l := r) (j := j) (List.nodup_cons.mp hd).2 h'
    have e2 : k + 1 + j = k + (j + 1) := by omega
    rw [e2] at ih
    rw [← ih]
    show valV ((Sum.inr n, V.int k) :: plKV (k + 1) r) (.inr nm) = _
    unfold valV
    simp [hne]
def spFNames (K : PySem.W.Frag) : Sp := fun vs H Q _ => ∃ a rs, vs = [.ref a] ∧ FAt K H a rs ∧ ∀ p, H p = none → Q (.ref p) (upd H p (.tup ((rs.map Rw.nm).map V.str)))
theorem ok_fnames (T : Tx K mg) : FnR P w K mg base (L2.CX P w) 1 (a_Fence_names K) (spFNames K) := by
  refine fnR_of T.f_Fence_names sc_Fence_names (fun _ _ _ _ _ _ us hl => match us, hl with | [_], _ => rfl) (fun vs H Q E h => ?_) fun A outer s H vs Q E cdv hr h => ?_
  · obtain ⟨a, rs, rfl, _⟩ := h
    rfl
  · obtain ⟨a, rs, rfl, ⟨dx, t, d, ps, h1, h2, h3, h4, h5⟩, k⟩ := h
    refine ⟨_, (pss_one (ps_ret (pe_callTy (call_tupleU (K := K) rfl rfl) rfl T.n_tuple (by decide +kernel) (pa_cons (pe_fld (pv 0) rfl) pa_nil)))), ?_⟩
    try dsimp only [cxOf]
    walk_at "go"
    refine r_fldV h1 T.cl_Fence T.no_Fence_places rfl ?_
    refine .inl ⟨d, _, rfl, h4, fun q hq => ?_⟩
    rw [plKV_keys]
    exact k q hq
def spFText (K : PySem.W.Frag) : Sp := fun vs H Q _ => ∃ a rs, vs = [.ref a] ∧ FAt K H a rs ∧ ∀ H1, Gr H H1 → Q (.str (fenceS rs)) H1
theorem ok_ftext (T : Tx K mg) : FnR P w K mg base (L2.CX P w) 4 (a_Fence_text K) (spFText K) := by
  have F_Painter_text := ok_ptext (P := P) (w := w) (base := base) T
  refine fnR_of T.f_Fence_text sc_Fence_text (fun _ _ _ _ _ _ us hl => match us, hl with | [_], _ => rfl) (fun vs H Q E h => ?_) fun A outer s H vs Q E cdv hr h => ?_
  · obtain ⟨a, rs, rfl, _⟩ := h
    rfl
  · obtain ⟨a, rs, rfl, ⟨dx, t, d, ps, h1, h2, h3, h4, h5⟩, k⟩ := h
    refine ⟨_, (pss_one (ps_ret (pe_join pe_str (pe_lc (own := [("painter", 1)]) rfl sc_Fence_text.nd (pi_anyK (K := K) rfl (pe_fld (pv 0) rfl)) (blkOk_by (own := [("painter", 1)]) (N := N_Fence_text) (sc := defScope s_Fence_text) (by decide +kernel)) (fun _ _ _ _ _ => (pg_name (i := 1) sc_Fence_text.nd rfl (by first | exact Or.inl rfl | exact Or.inr rfl))) (fun _ _ _ _ _ => pts_nil) (fun _ _ _ _ _ => (pe_propR (pv 1) T.cl_Painter T.pr_Painter_text F_Painter_text (hr.mono (by first | decide | omega)) passL)))))), ?_⟩
    try dsimp only [cxOf]
    walk_at "go"
    refine r_iT ?_
    walk_at "go"
    refine r_fldV h1 T.cl_Fence T.no_Fence_listed rfl ?_
    refine ⟨_, rfl, ⟨_, h2⟩, fun D hD => ?_⟩
    refine lc_tup (xs := ps) (fun i H' => Gr H H' ∧ H' D = some (.lst (((rs.map rowS).take i).map V.str))) ⟨Gr.new hD, upd_same⟩ (fun i H' hi ⟨g, _⟩ => h2.ext g.e) (fun i v H' hv ⟨g, hd⟩ => ?_) fun H' ⟨g, hd⟩ => ?_
    · obtain ⟨a, r, hr1, rfl, hp⟩ := h3.at hv
      have hp' := hp.ext g.e
      obtain ⟨dy, u, j1, _⟩ := id hp'
      walk_at "go"
      refine ⟨rfl, ?_⟩
      walk_at "go"
      refine ⟨a, dy, _, rfl, j1, a, r, rfl, hp', _, hd, by rw [List.length_map, List.length_take, List.length_map]; have := h5.2.2.2; show _ < 16777216; omega, g.mut hD, ?_⟩
      rw [upd_same, List.take_add_one, List.getElem?_map, hr1]
      simp
    · walk_at "go"
      have hd : H' D = some (.lst ((rs.map rowS).map V.str)) := by rw [hd, List.take_of_length_le (by rw [List.length_map, h3.len]; exact Nat.le_refl _)]
      refine ⟨_, D, rs.map rowS, rfl, rfl, .inl (SqL.of hd), ?_, k _ g⟩
      have hs := fence_sum h5
      have e1 : ("\n" : Str).length = 1 := by decide
      rw [e1, List.length_map]
      have := h5.2.2.2
      omega
end
end Tx

set_option maxRecDepth 100000
set_option maxHeartbeats 4000000
namespace Tx
open PySem PySem.Spec PyProof.Rows L2 My
section
variable {P : Program} {w : World} {K : PySem.W.Frag} {mg : Str → Option Value} {base : Heap}
/-! ### Fence: in, [], ==, + -/
def spIn (K : PySem.W.Frag) : Sp := fun vs H Q _ => ∃ a rs nm, vs = [.ref a, .str nm] ∧ FAt K H a rs ∧ nm ∈ rs.map Rw.nm ∧ Q (.bl true) H
theorem ok_fin (T : Tx K mg) : FnR P w K mg base (L2.CX P w) 1 (He.ma K (CF K) "__contains__") (spIn K) := by
  refine fnR_of T.f_Fence_contains sc_Fence_contains (fun _ _ _ _ _ _ us hl => match us, hl with | [_, _], _ => rfl) (fun vs H Q E h => ?_) fun A outer s H vs Q E cdv hr h => ?_
  · obtain ⟨a, rs, nm, rfl, _⟩ := h
    rfl
  · obtain ⟨a, rs, nm, rfl, ⟨dx, t, d, ps, h1, h2, h3, h4, h5⟩, hm, k⟩ := h
    refine ⟨_, (pss_one (ps_ret (pe_and (pe_callB call_isi rfl T.n_isinstance (by decide +kernel) (pa_cons (pv 1) (pa_cons (pe_bltn (v := .ty "str") rfl T.n_str (by decide +kernel) rfl) pa_nil))) (pe_one (pe_cmp (pc_din (hu_of hr) (pv 1) (pe_fld (pv 0) rfl)) (by rfl)))))), ?_⟩
    try dsimp only [cxOf]
    walk_at "go"
    refine r_isi kit_str.1 ⟨_, rfl, r_iteT ?_⟩
    obtain ⟨j, hj⟩ := List.mem_iff_getElem?.mp hm
    have hv := plKV_val (k := 0) h5.2.1 hj
    refine ⟨_, rfl, ?_⟩
    walk_at "go"
    refine r_fldV h1 T.cl_Fence T.no_Fence_places rfl ?_
    refine ⟨d, some (.int ((0 + j : Nat) : Int)), rfl, by rw [← hv]; exact DGet.k (k := .inr nm) h4, k⟩
theorem ok_need (T : Tx K mg) : FnR P w K mg base (L2.CX P w) 2 (a_Fence_need_name K) (fun vs H Q E => ∃ a rs nm, vs = [.ref a, .str nm] ∧ FAt K H a rs ∧ nm ∈ rs.map Rw.nm ∧ Q .non H) := by
  have F_Fence_contains := ok_fin (P := P) (w := w) (base := base) T
  refine fnR_of T.f_Fence_need_name sc_Fence_need_name (fun _ _ _ _ _ _ us hl => match us, hl with | [_, _], _ => rfl) (fun vs H Q E h => ?_) fun A outer s H vs Q E cdv hr h => ?_
  · obtain ⟨a, rs, nm, rfl, _⟩ := h
    rfl
  · obtain ⟨a, rs, nm, rfl, hf, hm, k⟩ := h
    refine ⟨_, (pss_one (ps_if (pt_cmpR (op_notInOwn T.ow_Fence_contains.f T.ow_Fence_contains.i F_Fence_contains (hr.mono (by first | decide | omega)) passL) (pv 1) (pv 0) (by rfl))
 (pss_one ps_never)
 pss_nil)), ?_⟩
    try dsimp only [cxOf]
    walk_at "go"
    have hf' := hf
    obtain ⟨dx, t, d, ps, h1, h2⟩ := hf'
    refine ⟨a, dx, _, rfl, h1, a, rs, nm, rfl, hf, hm, true, rfl, ⟨_, rfl, ?_⟩⟩
    refine r_iteF ?_
    walk_at "go"
    exact k
def spGetN (K : PySem.W.Frag) : Sp := fun vs H Q _ => ∃ a rs r, vs = [.ref a, .str r.nm] ∧ FAt K H a rs ∧ r ∈ rs ∧ ∀ b, PAt K H b r → Q (.ref b) H
theorem ok_getitem (T : Tx K mg) : FnR P w K mg base (L2.CX P w) 3 (He.ma K (CF K) "__getitem__") (spGetN K) := by
  have F_Fence_need_name := ok_need (P := P) (w := w) (base := base) T
  refine fnR_of T.f_Fence_getitem sc_Fence_getitem (fun _ _ _ _ _ _ us hl => match us, hl with | [_, _], _ => rfl) (fun vs H Q E h => ?_) fun A outer s H vs Q E cdv hr h => ?_
  · obtain ⟨a, rs, r, rfl, _⟩ := h
    rfl
  · obtain ⟨a, rs, r, rfl, hf, hm, k⟩ := h
    refine ⟨_, (pss_cons (ps_expr (pe_methR (pv 0) T.cl_Fence T.me_Fence_need_name F_Fence_need_name (hr.mono (by first | decide | omega)) passL (pa_cons (pv 1) pa_nil)))
 (pss_one (ps_ret (pe_ix (ix_seqK (K := K) rfl) (pe_fld (pv 0) rfl) (pe_dget (hu_of hr) (pe_fld (pv 0) rfl) (pv 1) (fun _ _ => rfl)) (fun _ _ => rfl))))), ?_⟩
    try dsimp only [cxOf]
    walk_at "go"
    have hf' := hf
    obtain ⟨dx, t, d, ps, h1, h2, h3, h4, h5⟩ := hf'
    refine ⟨a, dx, _, rfl, h1, rfl, ?_⟩
    walk_at "go"
    refine ⟨a, rs, r.nm, rfl, hf, List.mem_map_of_mem hm, ?_⟩
    walk_at "go"
    refine r_fldV h1 T.cl_Fence T.no_Fence_listed rfl ?_
    walk_at "go"
    refine r_fldV h1 T.cl_Fence T.no_Fence_places rfl ?_
    walk_at "go"
    obtain ⟨j, hj⟩ := List.mem_iff_getElem?.mp hm
    have hjn : (rs.map Rw.nm)[j]? = some r.nm := by rw [List.getElem?_map, hj]; rfl
    have hv := plKV_val (k := 0) h5.2.1 hjn
    have hjp : j < ps.length := by rw [h3.len]; exact (List.getElem?_eq_some_iff.mp hj).1
    obtain ⟨b, r', hr', hb, hpb⟩ := h3.at (List.getElem?_eq_getElem hjp)
    have er : r' = r := by rw [hj] at hr'; exact (Option.some.inj hr').symm
    subst er
    refine ⟨d, .int ((0 + j : Nat) : Int), rfl, by rw [← hv]; exact DGet.k (k := .inr r'.nm) h4, ?_⟩
    rw [Nat.zero_add]
    exact r_ixT h2 (atI_nat (by rw [List.getElem?_eq_getElem hjp, hb])) (k b hpb)
def RF (K : PySem.W.Frag) (a b : Addr) (H : Hp) : Prop := ∃ rs, FAt K H a rs ∧ FAt K H b rs
theorem ps_prs {H : Hp} : ∀ {xs ys : List V} {rs : List Rw}, PsAt K H xs rs → PsAt K H ys rs → Prs (DIns (CP K) (RP K)) xs ys H := by
  intro xs ys rs h1 h2
  refine ⟨h1.len.trans h2.len.symm, fun i x y hx hy => ?_⟩
  obtain ⟨a, r, hr, rfl, dx, t, ha⟩ := h1.at hx
  obtain ⟨b, r', hr', rfl, dy, u, hb⟩ := h2.at hy
  rw [hr] at hr'
  have er := Option.some.inj hr'
  subst er
  exact ⟨a, b, dx, dy, _, _, rfl, rfl, ha.1, hb.1, r, ⟨dx, t, ha⟩, ⟨dy, u, hb⟩⟩
theorem ok_feq (T : Tx K mg) : FnR P w K mg base (L2.CX P w) 4 (He.ma K (CF K) "__eq__") (spEq (RF K)) := by
  have F_Painter_eq := ok_peq (P := P) (w := w) (base := base) T
  refine fnR_of T.f_Fence_eq sc_Fence_eq (fun _ _ _ _ _ _ us hl => match us, hl with | [_, _], _ => rfl) (fun vs H Q E h => ?_) fun A outer s H vs Q E cdv hr h => ?_
  · obtain ⟨a, b, rfl, _⟩ := h
    rfl
  · obtain ⟨a, b, rfl, ⟨rs, ⟨dx, t, d, ps, h1, h2, h3, h4, h5⟩, ⟨dy, u, f, qs, j1, j2, j3, j4, _⟩⟩, k⟩ := h
    refine ⟨_, (pss_one (ps_ret (pe_and (pe_callB call_isi rfl T.n_isinstance (by decide +kernel) (pa_cons (pv 1) (pa_cons (pe_glob (v := .ref (He.ga K "Fence")) rfl T.g_Fence rfl) pa_nil))) (pe_one (pe_cmpR (op_eqG (rcG_tup (mon_ins RP_mono) ((rcG_R F_Painter_eq T.ow_Painter_eq passL).eqG fun _ _ _ d => ins_two d)) (hr.mono (by first | decide | omega))) (pe_fld (pv 0) rfl) (pe_fld (pv 1) rfl) (nomark _)))))), ?_⟩
    try dsimp only [cxOf]
    walk_at "go"
    refine ⟨_, _, _, _, _, rfl, .own _, .base (.ins j1 T.cl_Fence T.ii_Fence.ha T.ii_Fence.hn T.ii_Fence.htk T.ii_Fence.hm), T.ii_Fence.me, ⟨_, rfl, r_iteT ?_⟩⟩
    walk_at "go"
    refine r_fldV h1 T.cl_Fence T.no_Fence_listed rfl ?_
    walk_at "go"
    refine r_fldV j1 T.cl_Fence T.no_Fence_listed rfl ?_
    exact ⟨⟨t, u, ps, qs, rfl, rfl, h2, j2, ps_prs h3 j3⟩, fun H' e => k H' e⟩
/-- a new fence of these painters -/
theorem fence_made {H : Hp} {ps : List V} {rs : List Rw} {Q : Hp → Prop} {E : XK} {x dx : Addr} (hps : PsAt K H ps rs) (hok : RowsOk rs) (hx : H x = none) (hdx : H dx = none) (hne : dx ≠ x) (k : ∀ H1, Gr H H1 → FAt K H1 x rs → Q H1) :
    ∃ ws rest, V.ref x :: ps = ws ++ rest ∧ ws.length = 1 ∧ rest.length ≤ sizeLine ∧ ∀ p, (upd (upd H dx (.own x)) x (.ins (CF K) dx [])) p = none → spFInit K (ws ++ [V.ref p]) (upd (upd (upd H dx (.own x)) x (.ins (CF K) dx [])) p (.tup rest)) (fun v H2 => v = .non ∧ Q H2) E := by
  have hl : ps.length ≤ 40 := by rw [hps.len]; exact hok.2.2.2
  have hx' : (upd H dx (.own x)) x = none := by rw [upd_ne (Ne.symm hne)]; exact hx
  have g1 : Gr H (upd (upd H dx (.own x)) x (.ins (CF K) dx [])) := (Gr.new hdx).then hx'
  refine ⟨[.ref x], ps, rfl, rfl, by show _ ≤ 16777216; omega, fun t ht => ?_⟩
  have hxt : x ≠ t := ne_of_none (upd_same) ht
  have g2 := g1.then (o := .tup ps) ht
  refine ⟨x, dx, t, ps, rs, rfl, by rw [upd_ne hxt]; exact upd_same, SqT.of upd_same, hps.ext g2.e, hok, fun d H1 g hd h1 => ⟨rfl, ?_⟩⟩
  have g3 := (g2.trans g).mut (o := .ins (CF K) dx [("listed", .ref t), ("places", .ref d)]) hx
  have hxx := g.e x _ (by rw [upd_ne hxt]; exact upd_same)
  have ht1 := g.e t _ upd_same
  have htx : t ≠ x := Ne.symm hxt
  have hdx2 : d ≠ x := ne_of h1 hxx (by intro z; cases z)
  exact k _ g3 ⟨dx, t, d, ps, upd_same, SqT.of (by rw [upd_ne htx]; exact ht1), hps.ext g3.e, by rw [upd_ne hdx2]; exact h1, hok⟩
/-- a fence and a painter more -/
def spFAdd (K : PySem.W.Frag) : Sp := fun vs H Q _ => ∃ a b rs r, vs = [.ref a, .ref b] ∧ FAt K H a rs ∧ PAt K H b r ∧ RowsOk (rs ++ [r]) ∧ ∀ f H1, Gr H H1 → H f = none → FAt K H1 f (rs ++ [r]) → Q (.ref f) H1
theorem ok_fadd (T : Tx K mg) : FnR P w K mg base (L2.CX P w) 5 (He.ma K (CF K) "__add__") (spFAdd K) := by
  have F_Fence_init := ok_finit (P := P) (w := w) (base := base) T
  refine fnR_of T.f_Fence_add sc_Fence_add (fun _ _ _ _ _ _ us hl => match us, hl with | [_, _], _ => rfl) (fun vs H Q E h => ?_) fun A outer s H vs Q E cdv hr h => ?_
  · obtain ⟨a, b, rs, r, rfl, _⟩ := h
    rfl
  · obtain ⟨a, b, rs, r, rfl, ⟨dx, t, d, ps, h1, h2, h3, h4, h5⟩, hb, hok, k⟩ := h
    refine ⟨_, (pss_cons (ps_if (pt_not (pt_val (pe_callB call_isi rfl T.n_isinstance (by decide +kernel) (pa_cons (pv 1) (pa_cons (pe_glob (v := .ref (He.ga K "Painter")) rfl T.g_Painter rfl) pa_nil)))))
 (pss_one ps_never)
 pss_nil)
 (pss_one (ps_ret (pe_makeS2 T.m_Fence F_Fence_init (hr.mono (by first | decide | omega)) rfl T.g_Fence passL (StX.pa_star (pe_fld (pv 0) rfl) (pa_cons (pv 1) pa_nil)))))), ?_⟩
    try dsimp only [cxOf]
    walk_at "go"
    obtain ⟨dy, u, j1, _⟩ := id hb
    refine ⟨_, _, _, _, _, rfl, .own _, .base (.ins j1 T.cl_Painter T.ii_Painter.ha T.ii_Painter.hn T.ii_Painter.htk T.ii_Painter.hm), T.ii_Painter.me, ⟨_, rfl, r_iteF ?_⟩⟩
    walk_at "go"
    refine r_fldV h1 T.cl_Fence T.no_Fence_listed rfl ?_
    refine ⟨t, _, rfl, .inl h2, ?_⟩
    walk_at "go"
    intro x dx' hx hdx hne
    exact fence_made (h3.snoc hb) hok hx hdx hne fun H3 g3 h3 => k x H3 g3 hx h3
/-! ### Fence.read -/
theorem PAt.put {H : Hp} {p a : Addr} {xs ys : List V} {r : Rw} (e : H p = some (.lst xs)) (h : PAt K H a r) : PAt K (upd H p (.lst ys)) a r := by
  obtain ⟨dx, t, h1, h2, h3⟩ := h
  exact ⟨dx, t, by rw [upd_ne (ne_of h1 e (by intro z; cases z))]; exact h1, by rw [upd_ne (ne_of h2 e (by intro z; cases z))]; exact h2, h3⟩
theorem PsAt.put {H : Hp} {p : Addr} {xs ys : List V} (e : H p = some (.lst xs)) : ∀ {vs : List V} {rs : List Rw}, PsAt K H vs rs → PsAt K (upd H p (.lst ys)) vs rs
  | [], [], _ => trivial
  | _ :: _, _ :: _, ⟨⟨a, e1, e2⟩, h⟩ => ⟨⟨a, e1, PAt.put e e2⟩, PsAt.put e h⟩
theorem if_lines {rs : List Rw} {σ : L2.St} {H : Hp} {K0 : VK} (hok : RowsOk rs) (hs : σ[1]? = some (some (.str (fenceS rs)))) (k : ∀ L H1, Gr H H1 → H L = none → H1 L = some (.lst ((rs.map rowS).map V.str)) → K0 (.ref L) H1) :
    if (!decide (fenceS rs = "")) = true then tM1 (fun x xs H Q => ∃ a b, x = V.str a ∧ xs = [V.str b] ∧ (b.length == 0) = false ∧ a.length + 2 ≤ sizeLine ∧ rNewStrs (Txt.split a b) H Q) (tVar 1) (tC (V.str "\n")) σ H K0 else tLst tNil σ H K0 := by
  cases rs with
  | nil =>
    rw [if_neg (by rw [decide_eq_true fenceS_nil]; decide)]
    exact ⟨Nat.zero_le _, fun L hL => k L _ (Gr.new hL) hL upd_same⟩
  | cons r rs =>
    rw [if_pos (by rw [decide_eq_false (fenceS_ne hok (by simp))]; rfl)]
    refine ⟨_, hs, ⟨_, rfl⟩, _, _, rfl, rfl, by decide, by have := fence_len hok; show _ ≤ 16777216; omega, fun L hL => ?_⟩
    refine k L _ (Gr.new hL) hL ?_
    rw [upd_same, fence_split (by simp) hok.2.2.1]
def spFRead (K : PySem.W.Frag) : Sp := fun vs H Q _ => ∃ rs, vs = [.ref (CF K), .str (fenceS rs)] ∧ RowsOk rs ∧ ∀ f H1, Gr H H1 → H f = none → FAt K H1 f rs → Q (.ref f) H1
theorem ok_fread (T : Tx K mg) : FnR P w K mg base (L2.CX P w) 6 (a_Fence_read K) (spFRead K) := by
  have F_Fence_init := ok_finit (P := P) (w := w) (base := base) T
  have F_Painter_read := ok_pread (P := P) (w := w) (base := base) T
  refine fnR_of T.f_Fence_read sc_Fence_read (fun _ _ _ _ _ _ us hl => match us, hl with | [_, _], _ => rfl) (fun vs H Q E h => ?_) fun A outer s H vs Q E cdv hr h => ?_
  · obtain ⟨rs, rfl, _⟩ := h
    rfl
  · obtain ⟨rs, rfl, hok, k⟩ := h
    refine ⟨_, (pss_cons (ps_if (pt_not (pt_val (pe_callB call_isi rfl T.n_isinstance (by decide +kernel) (pa_cons (pv 1) (pa_cons (pe_bltn (v := .ty "str") rfl T.n_str (by decide +kernel) rfl) pa_nil)))))
 (pss_one ps_never)
 pss_nil)
 (C8.pss_cut (ps_set (i := 2) sc_Fence_read.nd rfl (by first | exact Or.inl rfl | exact Or.inr rfl) (pe_lst pa_nil))
 (C8.pss_cut (ps_for (passes_of rfl) rfl (pi_enumA rfl T.n_enumerate (pa_cons (pe_ifExp (pt_cmpR (op_neUK (K := K) rfl hr.units) (pv 1) pe_str (nomark _)) (pe_split (pv 1) pe_str) (pe_lst pa_nil)) pa_nil)) (pg_tupK (K := K) (n := 2) rfl rfl (pgs_cons (pg_name (i := 3) sc_Fence_read.nd rfl (by first | exact Or.inl rfl | exact Or.inr rfl)) (pgs_cons (pg_name (i := 4) sc_Fence_read.nd rfl (by first | exact Or.inl rfl | exact Or.inr rfl)) pgs_nil)))
 (pss_one (ps_try_thru0 (pss_one (ps_expr (pe_bm PySem.F.plainAttrs_list PySem.F.slot_list_append PySem.F.type_list_append mt_append (pv 2) (pa_cons (ClX.pe_cmeth (pe_glob (v := .ref (He.ga K "Painter")) rfl T.g_Painter rfl) T.r_Painter T.cm_Painter_read F_Painter_read (hr.mono (by first | decide | omega)) passL (pa_cons (pv 4) pa_nil)) pa_nil)))))))
 (pss_one (ps_ret (pe_makeV1 T.m_Fence F_Fence_init (hr.mono (by first | decide | omega)) passL (pv 2) (pv 0))))))), ?_⟩
    try dsimp only [cxOf]
    walk_at "go"
    refine r_isi kit_str.1 ⟨_, rfl, r_iteF ?_⟩
    walk_at "go"
    refine r_cut (fun σ' H' => ∃ q, σ' = [some (.ref (CF K)), some (.str (fenceS rs)), some (.ref q), none, none] ∧ Gr H H' ∧ H q = none ∧ H' q = some (.lst [])) ?_ ?_
    · walk_at "go"
      refine ⟨by decide, fun q hq => ?_⟩
      walk_at "go"
      exact ⟨q, rfl, Gr.new hq, hq, upd_same⟩
    rintro σ1 H1 ⟨q, rfl, g1, hq0, hq1⟩
    refine r_cut (fun σ' H' => ∃ o3 o4 ps, σ' = [some (.ref (CF K)), some (.str (fenceS rs)), some (.ref q), o3, o4] ∧ Gr H H' ∧ H' q = some (.lst ps) ∧ PsAt K H' ps rs) ?_ ?_
    · walk_at "go"
      refine if_lines hok rfl fun L H2 g2 hL0 hL => ?_
      walk_at "go"
      refine ⟨L, _, rfl, .inl ⟨SqL.of hL, ?_⟩⟩
      have hqL : L ≠ q := (ne_of_none hq1 hL0).symm
      refine for_enumL (fun i σ' H' => ∃ o3 o4 ps, σ' = [some (.ref (CF K)), some (.str (fenceS rs)), some (.ref q), o3, o4] ∧ Gr H H' ∧ H' q = some (.lst ps) ∧ PsAt K H' ps (rs.take i) ∧ H' L = some (.lst ((rs.map rowS).map V.str)))
        ⟨_, _, [], rfl, g1.trans g2, g2.e _ _ hq1, by rw [List.take_zero]; trivial, hL⟩ (fun i σ' H' hi ⟨_, _, _, _, _, _, _, h⟩ => SqL.of h) (fun i v σ' H' T1 hv ⟨o3, o4, ps, e, g, hq2, hps, hl⟩ hT => ?_) fun σ' H' ⟨o3, o4, ps, e, g, hq2, hps, hl⟩ => ?_
      · subst e
        rw [List.getElem?_map, List.getElem?_map] at hv
        cases hri : rs[i]? with
        | none => rw [hri] at hv; cases hv
        | some r =>
          rw [hri] at hv
          have ev : v = .str (rowS r) := by simpa using hv.symm
          subst ev
          have hrm := List.mem_of_getElem? hri
          have hnm := hok.2.2.1 r hrm
          have hno := hok.1 r hrm
          have g3 := Gr.new (o := .tup [.int (i : Nat), .str (rowS r)]) hT
          refine r_gtup upd_same rfl ?_
          walk_at "go"
          refine ⟨ty_list (g3.e _ _ hq2), ?_⟩
          walk_at "go"
          refine ⟨rfl, ?_⟩
          walk_at "go"
          have hlen := (row_len hnm hno).2
          refine ⟨rowS r, r, rfl, by show _ ≤ 16777216; omega, partsOf_row hnm hno, hno, fun a H4 g4 ha hp => ?_⟩
          have g5 := g3.trans g4
          have hps4 := hps.ext g5.e
          walk_at "go"
          refine r_append (g5.e _ _ hq2) (by rw [hps.len, List.length_take]; have := hok.2.2.2; show _ < 16777216; omega) ?_
          walk_at "go"
          refine ⟨_, _, _, rfl, (g.trans g5).mut hq0, upd_same, ?_, by rw [upd_ne hqL]; exact g5.e _ _ hl⟩
          rw [List.take_add_one, hri]
          exact PsAt.put (g5.e _ _ hq2) (hps4.snoc hp)
      · rw [List.length_map, List.length_map, List.take_of_length_le (Nat.le_refl _)] at hps
        exact ⟨o3, o4, ps, e, g, hq2, hps⟩
    rintro σ2 H2 ⟨o3, o4, ps, rfl, g2, hq2, hps⟩
    walk_at "go"
    refine ⟨rfl, ?_⟩
    walk_at "go"
    refine ⟨q, ps, rfl, .inr (SqL.of hq2), fun x dx hx hdx hne => ?_⟩
    exact fence_made hps hok hx hdx hne fun H3 g3 h3 => k x H3 (g2.trans g3) (g2.f _ hx) h3
end
end Tx

set_option maxRecDepth 100000
set_option maxHeartbeats 4000000
namespace Tx
open PySem PySem.Spec PyProof.Rows L2 My
section
variable {P : Program} {w : World} {K : PySem.W.Frag} {mg : Str → Option Value} {base : Heap}
/-! ### _law_pen -/
def spPen (K : PySem.W.Frag) : Sp := fun vs H Q _ => ∃ p, ∃ ns : List Int, vs = [.ref p] ∧ SqL K H p (ns.map V.int) ∧ ∀ z H1, Gr H H1 → Pen H1 z 0 → Q (.ref z.a) H1
theorem ok_pen (T : Tx K mg) : FnR P w K mg base (L2.CX P w) 1 (a_Lpen K) (spPen K) := by
  refine fnR_of T.f_Lpen sc_Lpen (fun _ _ _ _ _ _ us hl => match us, hl with | [_], _ => rfl) (fun vs H Q E h => ?_) fun A outer s H vs Q E cdv hr h => ?_
  · obtain ⟨p, ns, rfl, _⟩ := h
    rfl
  · obtain ⟨p, ns, rfl, hl, k⟩ := h
    refine ⟨_, (pss_one (ps_ret (pe_disp (pps_cons pe_str (pe_callTy call_list_of rfl T.n_list (by decide +kernel) (pa_cons (pe_slice (sl_anyK (K := K) rfl) (pv 0) po_none (po_some pe_int)) pa_nil)) (pps_cons pe_str pe_int (pps_cons pe_str pe_int pps_nil))) (by rfl) (by rfl) (fun z => by cases z) (by decide)))), ?_⟩
    try dsimp only [cxOf]
    walk_at "go"
    refine r_disp fun q hq => ?_
    have g1 := Gr.new (o := .dK []) hq
    have hq1 : (upd H q (.dK [])) q = some (.dK []) := upd_same
    generalize upd H q (.dK []) = H1 at g1 hq1 ⊢
    walk_at "go"
    refine r_slL (hl.ext g1.e) fun u hu => ?_
    have hcut : ∃ ns' : List Int, cutV (ns.map V.int) none (some 63) = ns'.map V.int := ⟨(ns.drop 0).take (HT.sIx (ns.map V.int).length (ns.map V.int).length (some 63) - 0), by
      unfold cutV
      rw [List.map_take, List.map_drop]
      rfl⟩
    obtain ⟨ns', hcut⟩ := hcut
    rw [hcut]
    have g2 := g1.then (o := .lst (ns'.map V.int)) hu
    have hq2 := (Gr.new (o := .lst (ns'.map V.int)) hu).e _ _ hq1
    walk_at "go"
    refine ⟨u, _, rfl, .inl (SqL.of upd_same), fun c hc => ?_⟩
    have g3 := g2.then (o := .lst (ns'.map V.int)) hc
    have hq3 := (Gr.new (o := .lst (ns'.map V.int)) hc).e _ _ hq2
    have hc3 : (upd (upd H1 u (.lst (ns'.map V.int))) c (.lst (ns'.map V.int))) c = some (.lst (ns'.map V.int)) := upd_same
    generalize upd (upd H1 u (.lst (ns'.map V.int))) c (.lst (ns'.map V.int)) = H3 at g3 hq3 hc3 ⊢
    walk_at "go"
    refine ⟨hq3, penKV c 0 0, rfl, (show 3 ≤ 15 by decide), ?_⟩
    have hcq : c ≠ q := ne_of hc3 hq3 (by intro z; cases z)
    exact k ⟨q, c, ns'⟩ _ (g3.mut hq) ⟨0, 0, ⟨upd_same, by rw [upd_ne hcq]; exact hc3⟩, by decide, by decide, by decide⟩
/-! ### _law_made -/
def spMade (K : PySem.W.Frag) : Sp := fun vs H Q _ => ∃ p vs' rs, vs = [.ref p] ∧ SqL K H p vs' ∧ RowsAt H vs' rs ∧ RowsOk rs ∧ ∀ f H1, Gr H H1 → H f = none → FAt K H1 f rs → Q (.ref f) H1
theorem ok_made (T : Tx K mg) : FnR P w K mg base (L2.CX P w) 6 (a_Lmade K) (spMade K) := by
  have F_Fence_init := ok_finit (P := P) (w := w) (base := base) T
  have F_Painter_init := ok_pinit (P := P) (w := w) (base := base) T
  have F_Fence_add := ok_fadd (P := P) (w := w) (base := base) T
  refine fnR_of T.f_Lmade sc_Lmade (fun _ _ _ _ _ _ us hl => match us, hl with | [_], _ => rfl) (fun vs H Q E h => ?_) fun A outer s H vs Q E cdv hr h => ?_
  · obtain ⟨p, vs, rs, rfl, _⟩ := h
    rfl
  · obtain ⟨p, ws, rs, rfl, hl, hrow, hok, k⟩ := h
    refine ⟨_, (pss_cons (ps_set (i := 1) sc_Lmade.nd rfl (by first | exact Or.inl rfl | exact Or.inr rfl) (pe_makeR0 T.m_Fence F_Fence_init (hr.mono (by first | decide | omega)) rfl T.g_Fence passL))
 (pss_cons (ps_for (passes_of rfl) rfl (pi_anyK (K := K) rfl (pv 0)) (pg_name (i := 2) sc_Lmade.nd rfl (by first | exact Or.inl rfl | exact Or.inr rfl))
 (pss_one (ps_set (i := 1) sc_Lmade.nd rfl (by first | exact Or.inl rfl | exact Or.inr rfl) (pe_op (op_addOwn F_Fence_add T.ow_Fence_add T.ow_Painter_add T.ad_Fence_Painter (hr.mono (by first | decide | omega)) passL) (pv 1) (StX.pe_makeR T.m_Painter F_Painter_init (hr.mono (by first | decide | omega)) rfl T.g_Painter passL (pa_cons (pe_ix (ix_seqK (K := K) rfl) (pv 2) pe_int (fun _ _ => rfl)) (pa_cons (pe_ix (ix_seqK (K := K) rfl) (pv 2) pe_int (fun _ _ => rfl)) (pa_cons (pe_ix (ix_seqK (K := K) rfl) (pv 2) pe_int (fun _ _ => rfl)) (pa_cons (pe_ix (ix_seqK (K := K) rfl) (pv 2) pe_int (fun _ _ => rfl)) pa_nil)))))))))
 (pss_one (ps_ret (pv 1))))), ?_⟩
    try dsimp only [cxOf]
    walk_at "go"
    intro x dx hx hdx hne
    refine fence_made (rs := []) (ps := []) trivial ⟨fun r hr => (List.not_mem_nil hr).elim, List.nodup_nil, fun r hr => (List.not_mem_nil hr).elim, Nat.zero_le _⟩ hx hdx hne fun H1 g1 h1 => ?_
    walk_at "go"
    refine r_iL ?_
    walk_at "go"
    refine ⟨_, rfl, ⟨_, hl.ext g1.e⟩, ?_⟩
    have hpre : ∀ i, RowsOk (rs.take i) := fun i => ⟨fun r hr => hok.1 r (List.mem_of_mem_take hr), by rw [List.map_take]; exact hok.2.1.sublist (List.take_sublist _ _), fun r hr => hok.2.2.1 r (List.mem_of_mem_take hr), Nat.le_trans (by rw [List.length_take]; exact Nat.min_le_right _ _) hok.2.2.2⟩
    refine for_list (xs := ws) (fun i σ' H' => ∃ f o2, σ' = [some (.ref p), some (.ref f), o2] ∧ Gr H H' ∧ H f = none ∧ FAt K H' f (rs.take i)) ⟨x, _, rfl, g1, hx, by rw [List.take_zero]; exact h1⟩ (fun i σ' H' hi ⟨_, _, _, g, _⟩ => hl.ext g.e) (fun i v σ' H' hv ⟨f, o2, e, g, hf, h⟩ => ?_) fun σ' H' ⟨f, o2, e, g, hf, h⟩ => ?_
    · subst e
      obtain ⟨t, r, hri, rfl, ht⟩ := hrow.at hv
      have hrm := List.mem_of_getElem? hri
      have ht' := g.e _ _ ht
      walk_at "go"
      refine r_ixT (SqT.of ht') (atI_nat (j := 0) rfl) ?_
      walk_at "go"
      refine r_ixT (SqT.of ht') (atI_nat (j := 1) rfl) ?_
      walk_at "go"
      refine r_ixT (SqT.of ht') (atI_nat (j := 2) rfl) ?_
      walk_at "go"
      refine r_ixT (SqT.of ht') (atI_nat (j := 3) rfl) ?_
      walk_at "go"
      intro x dx hx hdx hne
      have hx' : (upd H' dx (.own x)) x = none := by rw [upd_ne (Ne.symm hne)]; exact hx
      have hnm := hok.2.2.1 r hrm
      have hno := hok.1 r hrm
      refine ⟨x, r, dx, rfl, upd_same, hnm, hno, fun u H2 g2 hu h2 => ⟨rfl, ?_⟩⟩
      have hxu : u ≠ x := ne_of h2 (g2.e _ _ upd_same) (by intro z; cases z)
      have g3 := (((Gr.new hdx).then (o := .ins (CP K) dx []) hx').trans g2).mut (o := .ins (CP K) dx [("parts", .ref u)]) hx
      have hp : PAt K (upd H2 x (.ins (CP K) dx [("parts", .ref u)])) x r := ⟨dx, u, upd_same, by rw [upd_ne hxu]; exact h2, hnm, hno⟩
      have hf3 := h.ext g3.e
      have hf4 := hf3
      have hp4 := hp
      obtain ⟨dx1, _, _, _, q1, _⟩ := hf4
      obtain ⟨dy, u1, q2, _⟩ := hp4
      have e1 : rs.take i ++ [r] = rs.take (i + 1) := by rw [List.take_add_one, hri]; rfl
      refine ⟨f, x, dx1, dy, _, _, rfl, rfl, q1, q2, f, x, rs.take i, r, rfl, hf3, hp, by rw [e1]; exact hpre _, fun f2 H4 g4 hf2 h4 => ⟨⟨_, rfl⟩, ?_⟩⟩
      walk_at "go"
      exact ⟨f2, _, rfl, (g.trans g3).trans g4, (g.trans g3).f _ hf2, by rw [← e1]; exact h4⟩
    · subst e
      walk_at "go"
      rw [List.take_of_length_le (by rw [hrow.len]; exact Nat.le_refl _)] at h
      exact k f _ g hf h
/-! ### _law_line, _law_fence_text -/
def spLLine (K : PySem.W.Frag) : Sp := fun vs H Q _ => ∃ p r, vs = [.ref p] ∧ H p = some (.tup (rowV r)) ∧ IsNm r.nm ∧ NumOk r ∧ ∀ H1, Gr H H1 → Q (.str (rowS r)) H1
theorem ok_lline (T : Tx K mg) : FnR P w K mg base (L2.CX P w) 1 (a_Lline K) (spLLine K) := by
  refine fnR_of T.f_Lline sc_Lline (fun _ _ _ _ _ _ us hl => match us, hl with | [_], _ => rfl) (fun vs H Q E h => ?_) fun A outer s H vs Q E cdv hr h => ?_
  · obtain ⟨p, r, rfl, _⟩ := h
    rfl
  · obtain ⟨p, r, rfl, hp, hnm, hno, k⟩ := h
    refine ⟨_, (pss_one (ps_ret (pe_join pe_str (pe_lc (own := [("_law_part", 1)]) rfl sc_Lline.nd (pi_anyK (K := K) rfl (pv 0)) (blkOk_by (own := [("_law_part", 1)]) (N := N_Lline) (sc := defScope s_Lline) (by decide +kernel)) (fun _ _ _ _ _ => (pg_name (i := 1) sc_Lline.nd rfl (by first | exact Or.inl rfl | exact Or.inr rfl))) (fun _ _ _ _ _ => pts_nil) (fun _ _ _ _ _ => (pe_callTy call_strU rfl T.n_str (by decide +kernel) (pa_cons (pv 1) pa_nil))))))), ?_⟩
    try dsimp only [cxOf]
    walk_at "go"
    refine r_iT ?_
    walk_at "go"
    refine ⟨_, rfl, ⟨_, SqT.of hp⟩, fun D hD => ?_⟩
    have hno' := hno
    obtain ⟨a1, a2, a3, a4, a5, a6, a7⟩ := hno'
    refine lc_tup (xs := rowV r) (fun i H' => Gr H H' ∧ H' D = some (.lst (([r.nm, tS r.day, tS r.post, tS r.pace].take i).map V.str))) ⟨Gr.new hD, upd_same⟩ (fun i H' hi ⟨g, _⟩ => SqT.of (g.e _ _ hp)) (fun i v H' hv ⟨g, hd⟩ => ?_) fun H' ⟨g, hd⟩ => ?_
    · walk_at "go"
      refine ⟨rfl, ?_⟩
      walk_at "go"
      have hc : (i = 0 ∧ v = .str r.nm) ∨ (i = 1 ∧ v = .int r.day) ∨ (i = 2 ∧ v = .int r.post) ∨ (i = 3 ∧ v = .int r.pace) := by
        match i, hv with
        | 0, h => exact .inl ⟨rfl, by simpa [rowV] using h.symm⟩
        | 1, h => exact .inr (.inl ⟨rfl, by simpa [rowV] using h.symm⟩)
        | 2, h => exact .inr (.inr (.inl ⟨rfl, by simpa [rowV] using h.symm⟩))
        | 3, h => exact .inr (.inr (.inr ⟨rfl, by simpa [rowV] using h.symm⟩))
        | n + 4, h => simp [rowV] at h
      rcases hc with ⟨rfl, rfl⟩ | ⟨rfl, rfl⟩ | ⟨rfl, rfl⟩ | ⟨rfl, rfl⟩
      · refine r_strS ⟨_, hd, by simp; decide, g.mut hD, upd_same⟩
      · refine r_strI (log_small (by omega) (by omega)) ⟨_, hd, by simp; decide, g.mut hD, upd_same⟩
      · refine r_strI (log_small (by omega) (by omega)) ⟨_, hd, by simp; decide, g.mut hD, upd_same⟩
      · refine r_strI (log_small (by omega) (by omega)) ⟨_, hd, by simp; decide, g.mut hD, upd_same⟩
    · walk_at "go"
      have l0 := hnm.2.1
      have l1 := tS_small (i := r.day) (k := 31) (by omega) (by omega) (by decide)
      have l2 := tS_small (i := r.post) (k := 31) (by omega) (by omega) (by decide)
      have l3 := tS_small (i := r.pace) (k := 31) (by omega) (by omega) (by decide)
      have e1 : (" " : Str).length = 1 := by decide
      refine ⟨_, D, [r.nm, tS r.day, tS r.post, tS r.pace], rfl, rfl, .inl (SqL.of hd), ?_, k _ g⟩
      simp only [List.map_cons, List.map_nil, List.sum_cons, List.sum_nil, List.length_cons, List.length_nil, e1]
      omega
def spLText (K : PySem.W.Frag) : Sp := fun vs H Q _ => ∃ p vs' rs, vs = [.ref p] ∧ SqL K H p vs' ∧ RowsAt H vs' rs ∧ RowsOk rs ∧ ∀ H1, Gr H H1 → Q (.str (fenceS rs)) H1
theorem ok_ltext (T : Tx K mg) : FnR P w K mg base (L2.CX P w) 2 (a_Lfence_text K) (spLText K) := by
  have F_Lline := ok_lline (P := P) (w := w) (base := base) T
  refine fnR_of T.f_Lfence_text sc_Lfence_text (fun _ _ _ _ _ _ us hl => match us, hl with | [_], _ => rfl) (fun vs H Q E h => ?_) fun A outer s H vs Q E cdv hr h => ?_
  · obtain ⟨p, vs, rs, rfl, _⟩ := h
    rfl
  · obtain ⟨p, ws, rs, rfl, hl, hrow, hok, k⟩ := h
    refine ⟨_, (pss_one (ps_ret (pe_join pe_str (pe_lc (own := [("_law_painter", 1)]) rfl sc_Lfence_text.nd (pi_anyK (K := K) rfl (pv 0)) (blkOk_by (own := [("_law_painter", 1)]) (N := N_Lfence_text) (sc := defScope s_Lfence_text) (by decide +kernel)) (fun _ _ _ _ _ => (pg_name (i := 1) sc_Lfence_text.nd rfl (by first | exact Or.inl rfl | exact Or.inr rfl))) (fun _ _ _ _ _ => pts_nil) (fun _ _ _ _ _ => (pe_callR F_Lline (hr.mono (by first | decide | omega)) T.k_Lline rfl T.g__law_line passL (pa_cons (pv 1) pa_nil))))))), ?_⟩
    try dsimp only [cxOf]
    walk_at "go"
    refine r_iL ?_
    walk_at "go"
    refine ⟨_, rfl, ⟨_, hl⟩, fun D hD => ?_⟩
    refine lc_list (xs := ws) (fun i H' => Gr H H' ∧ H' D = some (.lst (((rs.map rowS).take i).map V.str))) ⟨Gr.new hD, upd_same⟩ (fun i H' hi ⟨g, _⟩ => hl.ext g.e) (fun i v H' hv ⟨g, hd⟩ => ?_) fun H' ⟨g, hd⟩ => ?_
    · obtain ⟨t, r, hri, rfl, ht⟩ := hrow.at hv
      have hrm := List.mem_of_getElem? hri
      walk_at "go"
      refine ⟨rfl, ?_⟩
      walk_at "go"
      refine ⟨t, r, rfl, g.e _ _ ht, hok.2.2.1 r hrm, hok.1 r hrm, fun H3 g3 => ⟨_, g3.e _ _ hd, by rw [List.length_map, List.length_take, List.length_map]; have := hok.2.2.2; show _ < 16777216; omega, (g.trans g3).mut hD, ?_⟩⟩
      rw [upd_same, List.take_add_one, List.getElem?_map, hri]
      simp
    · walk_at "go"
      have hd : H' D = some (.lst ((rs.map rowS).map V.str)) := by rw [hd, List.take_of_length_le (by rw [List.length_map, hrow.len]; exact Nat.le_refl _)]
      refine ⟨_, D, rs.map rowS, rfl, rfl, .inl (SqL.of hd), ?_, k _ g⟩
      have hs := fence_sum hok
      have e1 : ("\n" : Str).length = 1 := by decide
      rw [e1, List.length_map]
      have := hok.2.2.2
      omega
end
end Tx

set_option maxRecDepth 100000
set_option maxHeartbeats 4000000
namespace Tx
open PySem PySem.Spec PyProof.Rows L2 My
section
variable {P : Program} {w : World} {K : PySem.W.Frag} {mg : Str → Option Value} {base : Heap}
/-! ### law -/
def spLaw (K : PySem.W.Frag) : Sp := fun vs H Q _ => ∃ p, ∃ ns : List Int, vs = [.ref p] ∧ SqL K H p (ns.map V.int) ∧ ∀ H1, Q (.bl true) H1
theorem ok_law (T : Tx K mg) : FnG P w K mg base (L2.CX P w) 10 (a_law K) (spLaw K) := by
  have F_Lpen := ok_pen (P := P) (w := w) (base := base) T
  have F_Lpainters := ok_painters (P := P) (w := w) (base := base) T
  have F_Llined := ok_lined (P := P) (w := w) (base := base) T
  have F_Lmade := ok_made (P := P) (w := w) (base := base) T
  have F_Lline := ok_lline (P := P) (w := w) (base := base) T
  have F_Lfence_text := ok_ltext (P := P) (w := w) (base := base) T
  have F_Fence_text := ok_ftext (P := P) (w := w) (base := base) T
  have F_Fence_read := ok_fread (P := P) (w := w) (base := base) T
  have F_Fence_names := ok_fnames (P := P) (w := w) (base := base) T
  have F_Fence_eq := ok_feq (P := P) (w := w) (base := base) T
  have F_Fence_getitem := ok_getitem (P := P) (w := w) (base := base) T
  have F_Fence_init := ok_finit (P := P) (w := w) (base := base) T
  have F_Painter_read := ok_pread (P := P) (w := w) (base := base) T
  have F_Painter_eq := ok_peq (P := P) (w := w) (base := base) T
  have F_Painter_name := ok_name (P := P) (w := w) (base := base) T
  have F_Painter_day := ok_day (P := P) (w := w) (base := base) T
  have F_Painter_post := ok_post (P := P) (w := w) (base := base) T
  have F_Painter_stride := ok_stride (P := P) (w := w) (base := base) T
  have F_Painter_text := ok_ptext (P := P) (w := w) (base := base) T
  refine fnG_of T.f_law sc_law (fun _ _ _ _ _ _ us hl => match us, hl with | [_], _ => rfl) (fun vs H Q E h => ?_) fun A outer s H vs Q E cdv hg hr h => ?_
  · obtain ⟨p, ns, rfl, _⟩ := h
    rfl
  · obtain ⟨p, ns, rfl, hl, k⟩ := h
    refine ⟨_, (pss_cons (ps_set (i := 1) sc_law.nd rfl (by first | exact Or.inl rfl | exact Or.inr rfl) (pe_callR F_Lpen (hr.mono (by first | decide | omega)) T.k_Lpen rfl T.g__law_pen passL (pa_cons (pv 0) pa_nil)))
 (pss_cons (ps_for (passes_of rfl) rfl (pi_range1 rfl T.n_range (pa_cons pe_int pa_nil)) (pg_name (i := 2) sc_law.nd rfl (by first | exact Or.inl rfl | exact Or.inr rfl))
 (C8.pss_cut (ps_set (i := 3) sc_law.nd rfl (by first | exact Or.inl rfl | exact Or.inr rfl) (pe_ifExp (pt_cmpR op_gt (pv 2) pe_int (nomark _)) (pe_callR F_Lpainters (hr.mono (by first | decide | omega)) T.k_Lpainters rfl T.g__law_painters passL (pa_cons (pv 1) pa_nil)) (pe_callR F_Llined (hr.mono (by first | decide | omega)) T.k_Llined rfl T.g__law_lined passL (pa_cons (pv 1) (pa_cons pe_int pa_nil)))))
 (pss_cons (ps_par (i := 4) (j := 5) (by rfl) sc_law.nd rfl rfl (by decide) rfl rfl (pa_cons (pe_callR F_Lmade (hr.mono (by first | decide | omega)) T.k_Lmade rfl T.g__law_made passL (pa_cons (pv 3) pa_nil)) (pa_cons (pe_callR F_Lfence_text (hr.mono (by first | decide | omega)) T.k_Lfence_text rfl T.g__law_fence_text passL (pa_cons (pv 3) pa_nil)) pa_nil)) (by rfl))
 (pss_cons (ps_if (pt_cmpR (op_neUK (K := K) rfl hr.units) (pe_callB (call_reprD hr hg) rfl T.n_repr (by decide +kernel) (pa_cons (pe_propR (pv 4) T.cl_Fence T.pr_Fence_text F_Fence_text (hr.mono (by first | decide | omega)) passL) pa_nil)) (pe_callB (call_reprD hr hg) rfl T.n_repr (by decide +kernel) (pa_cons (pv 5) pa_nil)) (nomark _))
 (pss_one (ps_ret pe_bl))
 pss_nil)
 (pss_cons (ps_set (i := 6) sc_law.nd rfl (by first | exact Or.inl rfl | exact Or.inr rfl) (ClX.pe_cmeth (pe_glob (v := .ref (He.ga K "Fence")) rfl T.g_Fence rfl) T.r_Fence T.cm_Fence_read F_Fence_read (hr.mono (by first | decide | omega)) passL (pa_cons (pv 5) pa_nil)))
 (pss_cons (ps_if (PW.pt (pw_or (pt_not (pt_cmpR (op_eqG (rcG_R F_Fence_eq T.ow_Fence_eq passL) (hr.mono (by first | decide | omega))) (pv 6) (pv 4) (nomark _))) (pw_or (pt_cmpR (op_neUK (K := K) rfl hr.units) (pe_propR (pv 6) T.cl_Fence T.pr_Fence_text F_Fence_text (hr.mono (by first | decide | omega)) passL) (pv 5) (nomark _)) (pw_or1 (pt_cmpR (op_neUK (K := K) rfl hr.units) (pe_propR (pv 6) T.cl_Fence T.pr_Fence_names F_Fence_names (hr.mono (by first | decide | omega)) passL) (pe_callTy (call_tupleU (K := K) rfl rfl) rfl T.n_tuple (by decide +kernel) (pa_cons (pe_lc (own := [("_law_part", 7)]) rfl sc_law.nd (pi_anyK (K := K) rfl (pv 3)) (blkOk_by (own := [("_law_part", 7)]) (N := N_law) (sc := defScope s_law) (by decide +kernel)) (fun _ _ _ _ _ => (pg_name (i := 7) sc_law.nd rfl (by first | exact Or.inl rfl | exact Or.inr rfl))) (fun _ _ _ _ _ => pts_nil) (fun _ _ _ _ _ => (pe_ix (ix_seqK (K := K) rfl) (pv 7) pe_int (fun _ _ => rfl)))) pa_nil)) (nomark _))))))
 (pss_one (ps_ret pe_bl))
 pss_nil)
 (pss_one (ps_for (passes_of rfl) rfl (pi_anyK (K := K) rfl (pv 3)) (pg_name (i := 7) sc_law.nd rfl (by first | exact Or.inl rfl | exact Or.inr rfl))
 (pss_cons (ps_set (i := 8) sc_law.nd rfl (by first | exact Or.inl rfl | exact Or.inr rfl) (ClX.pe_cmeth (pe_glob (v := .ref (He.ga K "Painter")) rfl T.g_Painter rfl) T.r_Painter T.cm_Painter_read F_Painter_read (hr.mono (by first | decide | omega)) passL (pa_cons (pe_callR F_Lline (hr.mono (by first | decide | omega)) T.k_Lline rfl T.g__law_line passL (pa_cons (pv 7) pa_nil)) pa_nil)))
 (pss_cons (ps_if (PW.pt (pw_or (pt_cmpR (op_neUK (K := K) rfl hr.units) (pe_callB (call_reprD hr hg) rfl T.n_repr (by decide +kernel) (pa_cons (pe_tup (pa_cons (pe_propR (pv 8) T.cl_Painter T.pr_Painter_name F_Painter_name (hr.mono (by first | decide | omega)) passL) (pa_cons (pe_propR (pv 8) T.cl_Painter T.pr_Painter_day F_Painter_day (hr.mono (by first | decide | omega)) passL) (pa_cons (pe_propR (pv 8) T.cl_Painter T.pr_Painter_post F_Painter_post (hr.mono (by first | decide | omega)) passL) (pa_cons (pe_propR (pv 8) T.cl_Painter T.pr_Painter_stride F_Painter_stride (hr.mono (by first | decide | omega)) passL) pa_nil))))) pa_nil)) (pe_callB (call_reprD hr hg) rfl T.n_repr (by decide +kernel) (pa_cons (pv 7) pa_nil)) (nomark _)) (pw_or1 (pt_not (pt_cmpR (op_eqG (rcG_R F_Painter_eq T.ow_Painter_eq passL) (hr.mono (by first | decide | omega))) (pv 8) (pe_ixOwn T.ow_Fence_getitem.f T.ow_Fence_getitem.i T.ow_Fence_getitem.n F_Fence_getitem (hr.mono (by first | decide | omega)) passL (pv 4) (pe_ix (ix_seqK (K := K) rfl) (pv 7) pe_int (fun _ _ => rfl)) (fun _ _ _ h => Subscript_ h) (fun _ _ => rfl)) (nomark _))))))
 (pss_one (ps_ret pe_bl))
 pss_nil)
 (pss_one (ps_if (pt_cmpR (op_neUK (K := K) rfl hr.units) (pe_callB (call_reprD hr hg) rfl T.n_repr (by decide +kernel) (pa_cons (pe_propR (pe_ixOwn T.ow_Fence_getitem.f T.ow_Fence_getitem.i T.ow_Fence_getitem.n F_Fence_getitem (hr.mono (by first | decide | omega)) passL (pv 4) (pe_ix (ix_seqK (K := K) rfl) (pv 7) pe_int (fun _ _ => rfl)) (fun _ _ _ h => Subscript_ h) (fun _ _ => rfl)) T.cl_Painter T.pr_Painter_text F_Painter_text (hr.mono (by first | decide | omega)) passL) pa_nil)) (pe_callB (call_reprD hr hg) rfl T.n_repr (by decide +kernel) (pa_cons (pe_callR F_Lline (hr.mono (by first | decide | omega)) T.k_Lline rfl T.g__law_line passL (pa_cons (pv 7) pa_nil)) pa_nil)) (nomark _))
 (pss_one (ps_ret pe_bl))
 pss_nil))))))))))))
 (pss_cons (ps_set (i := 9) sc_law.nd rfl (by first | exact Or.inl rfl | exact Or.inr rfl) (pe_op (op_addUK (K := K) rfl) (pe_op (op_addUK (K := K) rfl) (pe_op (op_addUK (K := K) rfl) (pe_op (op_addUK (K := K) rfl) (pe_op (op_addUK (K := K) rfl) (pe_op (op_addUK (K := K) rfl) (pe_op (op_addUK (K := K) rfl) (pe_op (op_addUK (K := K) rfl) pe_str pe_str) (pe_op op_mulU pe_str pe_int)) pe_str) (pe_op op_mulU pe_str pe_int)) pe_str) (pe_op op_mulU pe_str pe_int)) pe_str) (pe_op op_mulU pe_str pe_int)))
 (pss_one (ps_ret (pe_and (pe_cmpR (op_eqUK (K := K) rfl hr.units) (pe_propR (ClX.pe_cmeth (pe_glob (v := .ref (He.ga K "Fence")) rfl T.g_Fence rfl) T.r_Fence T.cm_Fence_read F_Fence_read (hr.mono (by first | decide | omega)) passL (pa_cons (pv 9) pa_nil)) T.cl_Fence T.pr_Fence_text F_Fence_text (hr.mono (by first | decide | omega)) passL) (pv 9) (nomark _)) (pe_and (pe_cmpR (op_eqG (rcG_R F_Fence_eq T.ow_Fence_eq passL) (hr.mono (by first | decide | omega))) (ClX.pe_cmeth (pe_glob (v := .ref (He.ga K "Fence")) rfl T.g_Fence rfl) T.r_Fence T.cm_Fence_read F_Fence_read (hr.mono (by first | decide | omega)) passL (pa_cons pe_str pa_nil)) (pe_makeR0 T.m_Fence F_Fence_init (hr.mono (by first | decide | omega)) rfl T.g_Fence passL) (nomark _)) (pe_one (pe_cmpR (op_eqUK (K := K) rfl hr.units) (pe_propR (pe_makeR0 T.m_Fence F_Fence_init (hr.mono (by first | decide | omega)) rfl T.g_Fence passL) T.cl_Fence T.pr_Fence_text F_Fence_text (hr.mono (by first | decide | omega)) passL) pe_str (nomark _)))))))))), ?_⟩
    try dsimp only [cxOf]
    walk_at "go"
    refine ⟨p, ns, rfl, hl, fun z H1 g1 hp1 => ?_⟩
    walk_at "go"
    refine ⟨by decide, by decide, ?_⟩
    refine for_rng (n := 8) rfl (fun i σ' H' => ∃ n', ∃ o2 o3 o4 o5 o6 o7 o8 : Option V, σ' = [some (.ref p), some (.ref z.a), o2, o3, o4, o5, o6, o7, o8, none] ∧ n' ≤ 20000 * i ∧ Pen H' z n') ⟨0, _, _, _, _, _, _, _, rfl, by decide, hp1⟩ (fun i σ' H' hi ⟨n', o2, o3, o4, o5, o6, o7, o8, e, h1, h2⟩ => ?_)
      fun σ' H' ⟨n', o2, o3, o4, o5, o6, o7, o8, e, h1, h2⟩ => ?_
    · subst e
      walk_at "go"
      refine r_cut (fun σ' H1 => ∃ q vs rs n1, σ' = [some (.ref p), some (.ref z.a), some (.int i), some (.ref q), o4, o5, o6, o7, o8, none] ∧ n1 ≤ 20000 * (i + 1) ∧ Pen H1 z n1 ∧ H1 q = some (.lst vs) ∧ RowsAt H1 vs rs ∧ RowsOk rs) ?_ ?_
      · walk_at "go"
        refine r_iteD (fun hz => ?_) fun hz => ?_
        · walk_at "go"
          refine ⟨z, n', rfl, h2, by omega, fun v n1 H1 hR hn1 kp hp => ?_⟩
          obtain ⟨q, vs, rs, rfl, _, hq, hrow, hok⟩ := hR
          walk_at "go"
          exact ⟨q, vs, rs, n1, rfl, by omega, hp, hq, hrow, hok⟩
        · walk_at "go"
          refine r_rows (most := 40) rfl h2 (by omega) (by decide) (by decide) fun v n1 H1 hR hn1 kp hp => ?_
          obtain ⟨q, vs, rs, rfl, _, hq, hrow, hok⟩ := hR
          walk_at "go"
          exact ⟨q, vs, rs, n1, rfl, by omega, hp, hq, hrow, hok⟩
      rintro σ1 H1 ⟨q, vs, rs, n1, rfl, hn1, hp1, hq1, hrow1, hok⟩
      have hfl := fence_len hok
      have hfr := repr_le (s := fenceS rs) fun c hc => fence_small hok.2.2.1 hc
      walk_at "go"
      refine ⟨q, vs, rs, rfl, SqL.of hq1, hrow1, hok, fun f H2 g2 hf0 hf2 => ?_⟩
      walk_at "go"
      refine ⟨q, vs, rs, rfl, SqL.of (g2.e _ _ hq1), hrow1.kp g2.kp, hok, fun H3 g3 => ?_⟩
      walk_at "go"
      have g3' := g2.trans g3
      have hf3 := hf2.ext g3.e
      obtain ⟨dx3, _, _, _, hf3i, _⟩ := id hf3
      refine ⟨f, dx3, _, rfl, hf3i, f, rs, rfl, hf3, fun H4 g4 => ?_⟩
      walk_at "go"
      refine r_reprS (z := fenceS rs) (by show _ ≤ 16777216; omega) ?_
      walk_at "go"
      walk_at "go"
      refine r_reprS (z := fenceS rs) (by show _ ≤ 16777216; omega) ?_
      walk_at "go"
      refine r_iteN (fun h => absurd rfl h) fun _ => ?_
      have g4' := g3'.trans g4
      have hf4 := hf3.ext g4.e
      walk_at "go"
      refine ⟨rfl, ?_⟩
      walk_at "go"
      refine ⟨rs, rfl, hok, fun f5 H5 g5 hf50 hf5 => ?_⟩
      have g5' := g4'.trans g5
      have hf5o := hf4.ext g5.e
      obtain ⟨dxa, _, _, _, ia, _⟩ := id hf5
      obtain ⟨dxb, _, _, _, ib, _⟩ := id hf5o
      walk_at "go"
      refine ⟨⟨f5, f, dxa, dxb, _, _, rfl, rfl, ia, ib, rs, hf5, hf5o⟩, fun H6 e6 => ?_⟩
      walk_at "go"
      have hf6 := hf5.ext e6
      obtain ⟨dxc, _, _, _, ic, _⟩ := id hf6
      have hf6o := hf5o.ext e6
      refine ⟨f5, dxc, _, rfl, ic, f5, rs, rfl, hf6, fun H7 g7 => ?_⟩
      walk_at "go"
      refine r_iteN (fun h => absurd rfl h) fun _ => ?_
      have hf7 := hf6.ext g7.e
      obtain ⟨dxd, _, _, _, id7, _⟩ := id hf7
      walk_at "go"
      refine ⟨f5, dxd, _, rfl, id7, f5, rs, rfl, hf7, fun t8 ht8 => ?_⟩
      have g8 := Gr.new (o := .tup ((rs.map Rw.nm).map V.str)) ht8
      have ht8' : (upd H7 t8 (.tup ((rs.map Rw.nm).map V.str))) t8 = some (.tup ((rs.map Rw.nm).map V.str)) := upd_same
      generalize upd H7 t8 (.tup ((rs.map Rw.nm).map V.str)) = H8 at g8 ht8' ⊢
      -- what stays from the list on
      have e58 : Ext H1 H8 := fun a o h => g8.e _ _ (g7.e _ _ (e6 _ _ (g5'.e _ _ h)))
      have hq8 := e58 _ _ hq1
      have hrow8 : RowsAt H8 vs rs := hrow1.ext e58
      have hf8 := hf6o.ext fun a o h => g8.e _ _ (g7.e _ _ h)
      have hp8 : Pen H8 z n1 := hp1.ext e58
      walk_at "go"
      refine r_iL ?_
      walk_at "go"
      refine ⟨_, rfl, ⟨_, SqL.of hq8⟩, fun D hD => ?_⟩
      refine lc_list (xs := vs) (fun i H' => Gr H8 H' ∧ H' D = some (.lst (((rs.map Rw.nm).take i).map V.str))) ⟨Gr.new hD, upd_same⟩ (fun i H' hi ⟨g, _⟩ => SqL.of (g.e _ _ hq8)) (fun i v H' hv ⟨g, hd⟩ => ?_) fun H9 ⟨g9, hd⟩ => ?_
      · obtain ⟨t, r, hri, rfl, ht⟩ := hrow8.at hv
        walk_at "go"
        refine ⟨rfl, ?_⟩
        walk_at "go"
        refine r_ixT (SqT.of (g.e _ _ ht)) (atI_nat (j := 0) rfl) ?_
        refine ⟨_, hd, by rw [List.length_map, List.length_take, List.length_map]; have := hok.2.2.2; show _ < 16777216; omega, g.mut hD, ?_⟩
        rw [upd_same, List.take_add_one, List.getElem?_map, hri]
        simp
      · walk_at "go"
        have hd : H9 D = some (.lst ((rs.map Rw.nm).map V.str)) := by rw [hd, List.take_of_length_le (by rw [List.length_map, hrow8.len]; exact Nat.le_refl _)]
        refine .inr ⟨D, _, rfl, .inl ⟨SqL.of hd, fun t10 ht10 => ?_⟩⟩
        have g10 := g9.then (o := .tup ((rs.map Rw.nm).map V.str)) ht10
        have g910 := Gr.new (o := .tup ((rs.map Rw.nm).map V.str)) ht10
        refine r_neNames (fun x hx => by
          obtain ⟨r, hr, rfl⟩ := List.mem_map.mp hx
          exact hok.2.2.1 r hr) (g910.e _ _ (g9.e _ _ ht8')) upd_same ?_
        generalize upd H9 t10 (.tup ((rs.map Rw.nm).map V.str)) = H10 at g10 g910 ⊢
        walk_at "go"
        refine r_iL ?_
        walk_at "go"
        refine ⟨_, rfl, ⟨_, SqL.of (g10.e _ _ hq8)⟩, ?_⟩
        refine for_list (xs := vs) (fun j σ' H' => ∃ o7 o8 : Option V, σ' = [some (.ref p), some (.ref z.a), some (.int i), some (.ref q), some (.ref f), some (.str (fenceS rs)), some (.ref f5), o7, o8, none] ∧ Ext H8 H') ⟨_, _, rfl, g10.e⟩ (fun j σ' H' hj ⟨_, _, _, e⟩ => SqL.of (e _ _ hq8)) (fun j v σ' H' hv ⟨o7, o8, e, ex⟩ => ?_) fun σ' H' ⟨o7, o8, e, ex⟩ => ?_
        · subst e
          obtain ⟨t, r, hri, rfl, ht⟩ := hrow8.at hv
          have hrm := List.mem_of_getElem? hri
          have hnm := hok.2.2.1 r hrm
          have hno := hok.1 r hrm
          have hrl := (row_len hnm hno).2
          have hrr := repr_le (s := rowS r) fun c hc => row_small hnm hc
          have ht1 := ex _ _ ht
          walk_at "go"
          refine ⟨rfl, ?_⟩
          walk_at "go"
          refine ⟨t, r, rfl, ht1, hnm, hno, fun Ha ga => ?_⟩
          walk_at "go"
          refine ⟨rowS r, r, rfl, by show _ ≤ 16777216; omega, partsOf_row hnm hno, hno, fun a Hb gb ha hpa => ?_⟩
          have ex2 : Ext H8 Hb := fun b o h => gb.e _ _ (ga.e _ _ (ex _ _ h))
          have ht2 := gb.e _ _ (ga.e _ _ ht1)
          obtain ⟨dxp, _, ipa, _⟩ := id hpa
          walk_at "go"
          refine ⟨a, dxp, _, rfl, ipa, a, r, rfl, hpa, ?_⟩
          walk_at "go"
          refine ⟨a, dxp, _, rfl, ipa, a, r, rfl, hpa, ?_⟩
          walk_at "go"
          refine ⟨a, dxp, _, rfl, ipa, a, r, rfl, hpa, ?_⟩
          walk_at "go"
          refine ⟨a, dxp, _, rfl, ipa, a, r, rfl, hpa, ?_⟩
          walk_at "go"
          refine ⟨by show 4 ≤ 16777216; decide, fun t4 ht4 => ?_⟩
          have gc := Gr.new (o := .tup (rowV r)) ht4
          have hc1 : (upd Hb t4 (.tup (rowV r))) t4 = some (.tup (rowV r)) := upd_same
          have ec : HO.tup [V.str r.nm, V.int r.day, V.int r.post, V.int r.pace] = .tup (rowV r) := rfl
          rw [ec]
          generalize upd Hb t4 (.tup (rowV r)) = Hc at gc hc1 ⊢
          have ht3 := gc.e _ _ ht2
          have ex3 : Ext H8 Hc := fun b o h => gc.e _ _ (ex2 _ _ h)
          have hfc := hf8.ext ex3
          obtain ⟨dxf, _, _, _, iff, _⟩ := id hfc
          have hpc := hpa.ext gc.e
          obtain ⟨dxq, _, ipc, _⟩ := id hpc
          walk_at "go"
          refine r_reprRow hc1 hnm hno ?_
          walk_at "go"
          refine r_reprRow ht3 hnm hno ?_
          walk_at "go"
          refine r_iteN (fun h => absurd rfl h) fun _ => ?_
          walk_at "go"
          refine r_ixT (SqT.of ht3) (atI_nat (j := 0) rfl) ?_
          refine ⟨f, dxf, _, rfl, iff, f, rs, r, rfl, hfc, hrm, fun b hb => ?_⟩
          obtain ⟨dxb2, _, ipb, _⟩ := id hb
          refine ⟨⟨a, b, dxq, dxb2, _, _, rfl, rfl, ipc, ipb, r, hpc, hb⟩, fun Hd ed => ?_⟩
          walk_at "go"
          have ht5 := ed _ _ ht3
          have hfd := hfc.ext ed
          obtain ⟨dxg, _, _, _, ig, _⟩ := id hfd
          refine r_ixT (SqT.of ht5) (atI_nat (j := 0) rfl) ?_
          refine ⟨f, dxg, _, rfl, ig, f, rs, r, rfl, hfd, hrm, fun b2 hb2 => ?_⟩
          obtain ⟨dxh, _, ih, _⟩ := id hb2
          refine ⟨b2, dxh, _, rfl, ih, b2, r, rfl, hb2, ?_⟩
          walk_at "go"
          refine r_reprS (z := rowS r) (by show _ ≤ 16777216; omega) ?_
          walk_at "go"
          refine ⟨t, r, rfl, ht5, hnm, hno, fun He ge => ?_⟩
          walk_at "go"
          refine r_reprS (z := rowS r) (by show _ ≤ 16777216; omega) ?_
          walk_at "go"
          refine r_iteN (fun h => absurd rfl h) fun _ => ?_
          walk_at "go"
          exact ⟨_, _, rfl, fun b o h => ge.e _ _ (ed _ _ (ex3 _ _ h))⟩
        · subst e
          walk_at "go"
          exact ⟨n1, _, _, _, _, _, _, _, rfl, by omega, hp8.ext ex⟩
    · subst e
      walk_at "go"
      refine r_addS (by decide +kernel) ?_
      walk_at "go"
      refine r_zeros (by decide) (by decide) (by decide +kernel) ?_
      refine r_addS (by decide +kernel) ?_
      walk_at "go"
      refine r_addS (by decide +kernel) ?_
      walk_at "go"
      refine r_zeros (by decide) (by decide) (by decide +kernel) ?_
      refine r_addS (by decide +kernel) ?_
      walk_at "go"
      refine r_addS (by decide +kernel) ?_
      walk_at "go"
      refine r_zeros (by decide) (by decide) (by decide +kernel) ?_
      refine r_addS (by decide +kernel) ?_
      walk_at "go"
      refine r_addS (by decide +kernel) ?_
      walk_at "go"
      refine r_zeros (by decide) (by decide) (by decide +kernel) ?_
      refine r_addS (by decide +kernel) ?_
      rw [show Int.toNat 30 = 30 from rfl, show Int.toNat 18 = 18 from rfl, ends_text]
      walk_at "go"
      refine ⟨rfl, ?_⟩
      walk_at "go"
      refine ⟨_, rfl, ends_ok, fun f H2 g2 hf0 hf2 => ?_⟩
      obtain ⟨dx2, _, _, _, i2, _⟩ := id hf2
      refine ⟨f, dx2, _, rfl, i2, f, _, rfl, hf2, fun H3 g3 => ?_⟩
      walk_at "go"
      refine r_iteD (fun _ => ?_) fun h => absurd rfl h
      walk_at "go"
      have e0ok : RowsOk [] := ⟨fun r hr => (List.not_mem_nil hr).elim, List.nodup_nil, fun r hr => (List.not_mem_nil hr).elim, Nat.zero_le _⟩
      refine ⟨rfl, ?_⟩
      walk_at "go"
      refine ⟨[], by rw [fenceS_nil], e0ok, fun f4 H4 g4 hf40 hf4 => ?_⟩
      walk_at "go"
      intro x dx hx hdx hne
      refine fence_made (rs := []) (ps := []) trivial e0ok hx hdx hne fun H5 g5 h5 => ?_
      have hf5 := hf4.ext g5.e
      obtain ⟨dxa, _, _, _, ia, _⟩ := id hf5
      obtain ⟨dxb, _, _, _, ib, _⟩ := id h5
      refine ⟨⟨f4, x, dxa, dxb, _, _, rfl, rfl, ia, ib, [], hf5, h5⟩, fun H6 e6 => ?_⟩
      walk_at "go"
      intro x dx hx hdx hne
      refine fence_made (rs := []) (ps := []) trivial e0ok hx hdx hne fun H7 g7 h7 => ?_
      obtain ⟨dxc, _, _, _, ic, _⟩ := id h7
      refine ⟨x, dxc, _, rfl, ic, x, _, rfl, h7, fun H8 g8 => ?_⟩
      walk_at "go"
      rw [decide_eq_true fenceS_nil]
      exact k _
end
end Tx

end

open PySem PySem.W PySem.Calls PyProof.Rows
set_option maxRecDepth 100000 in
set_option maxHeartbeats 0 in
theorem PySem.Challenge.cw_paintposts_k83_whole_texts_of_all_fences_holds : PySem.Challenge.rw_paintposts_k83_whole_texts_of_all_fences.Holds := by
  w_on; o_law
  refine HandSHeadRun.head_any (r := OpenLaw.row PySem.Challenge.rw_paintposts_k83_whole_texts_of_all_fences) (q := view (OpenLaw.row PySem.Challenge.rw_paintposts_k83_whole_texts_of_all_fences).prog [42]) (H := Tx.hk) (ob := Tx.ob) (M := 20000) (loose := Tx.looseL) (d := HandSHeadRun.topDef (OpenLaw.row PySem.Challenge.rw_paintposts_k83_whole_texts_of_all_fences).prog 42) (kwd := []) Tx.ob_eq
    (by kernel_rfl) (fun s => by kernel_rfl) Tx.run (by kernel_rfl) (by kernel_rfl) (by kernel_rfl) (by rfl) (by first | assumption | decide +kernel) (by decide +kernel) ⟨rfl, rfl, rfl, rfl, rfl, by decide +kernel⟩ ?hw ?hc
  case hw => w_witness2
  case hc =>
    refine My.walk_G (l := PySem.Challenge.rw_paintposts_k83_whole_texts_of_all_fences) (n := 63) (k := 10) rfl (by decide) (by kernel_rfl) ⟨rfl, by decide, by decide⟩ fun w mg fa h Y G e0 => ?_
    obtain ⟨K, KX, c⟩ := Y
    have T := Tx.tx_of KX G c
    have e1 : mg ("law" : PySem.Str) = some (.ref fa) := by
      have e : (HandSHeadRun.topDef (OpenLaw.row PySem.Challenge.rw_paintposts_k83_whole_texts_of_all_fences).prog 42).name = ("law" : PySem.Str) := by kernel_rfl
      rw [← e]
      exact e0
    obtain rfl : fa = Tx.a_law K := by
      have z := T.g_law
      rw [e1] at z
      cases z
      rfl
    exact ⟨K, Tx.spLaw K, KX, fun H p ns _ _ rd => ⟨p, ns, rfl, rd, fun _ => rfl⟩, fun base _ _ => Tx.ok_law T⟩
