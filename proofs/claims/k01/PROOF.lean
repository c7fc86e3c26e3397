import PyProof.Rows.All
import Wide.All
import OpenK.AllK
import Wide.FinOn
import HandS.ForMost
import HandS.Exc
import HandS.TryOnly
import HandS.ExcOwn
import HandS.WordsExc
import HandS.Defaults
import HandS.Lambda
import HandS.HeadHook1
import HandS.HeadHook2
import HandS.HeadHook3
import HandS.HeadHook4
import HandS.Wide
import HandS.AnyAll
import HandS.DictComp
import HandS.Small
import HandS.Conv
import HandS.RevRange
import HandS.TupAny
import HandS.WordsDict
import HandS.IsInst
import HandS.Sort
import HandS.SortInts
import KE.GoesMore
import HandS.Walk
import HandS.Comp
import HandS.HeadWalk
import HandS.EndTab
import PySem.Challenge.RW_canalstack_k01_water_between_locks
import HandS.Head0
import HandS.Head1
import HandS.Head2
import HandS.HeadEnd
set_option Elab.async false
set_option linter.all false
set_option maxRecDepth 100000
set_option maxHeartbeats 0
/-! my own small layer over HandS -/
namespace Cn
open PySem PySem.Spec PyProof.Rows L2

/-- a def of the program keeps its promise, is bound by place, may be called -/
structure Pr (P : Program) (w : World) (K : PySem.W.Frag) (mg : Str → Option Value) (base : Heap) (k : Nat) (f : Addr) (ps : List Str) (sp : Sp) : Prop where
  ex : ∃ fd, FnOk P w K mg base (L2.CX P w) k f fd ps sp ∧ Binds K fd ps []
  kp : PySem.W.keepIn K (.ref f) = true

section
variable {X : Cx} {k j : Nat} {f C : Addr} {ps : List Str} {sp : Sp} {E : XK} {x m : Str} {p pos apos : Pos} {e o : Expr} {es : List Expr} {ta : TE} {t : TA}
abbrev PrX (X : Cx) (k : Nat) (f : Addr) (ps : List Str) (sp : Sp) : Prop := Pr X.prog X.w X.K X.mg X.base k f ps sp
abbrev Lets (X : Cx) (E : XK) : Prop := Passes (L2.CX X.prog X.w) X E

theorem pe_fn (F : PrX X k f ps sp) (hr : Room j X.A) (hk : k ≤ j) (hx : Lets X E) (hm : X.mg x = some (.ref f)) (ha : PA X (e :: es) t) (hg : Gl X x := by rfl) (hdb : (x == ("__debug__" : Str)) = false := by decide)
    (he : starEach (e :: es) X.env = (false, eval e X.env) :: starEach es X.env := by rfl) (hpl : (backTo pos (starEach es X.env)).any (·.1) = false := by rfl) :
    PE X (.Call (.Name x p) (e :: es) [] pos) (tCall sp [] E t) := by
  obtain ⟨fd, F1, b⟩ := F.ex
  exact pe_call F1 (hr.mono hk) hg hm F.kp b .nil hx ha hdb he hpl
theorem pe_fn0 (F : PrX X k f ps sp) (hr : Room j X.A) (hk : k ≤ j) (hx : Lets X E) (hm : X.mg x = some (.ref f)) (hg : Gl X x := by rfl) (hdb : (x == ("__debug__" : Str)) = false := by decide) :
    PE X (.Call (.Name x p) [] [] pos) (tCall sp [] E tNil) := by
  obtain ⟨fd, F1, b⟩ := F.ex
  exact pe_call0 F1 (hr.mono hk) hg hm F.kp b .nil hx hdb
theorem pe_mt {pl : Sem Bool} (he : PE X o ta) (c : Cls X.K C) (hm : Meth X.K C m f) (F : PrX X k f ps sp) (hr : Room j X.A) (hk : k ≤ j) (hx : Lets X E) (ha : PA X (e :: es) t)
    (hst : starEach (e :: es) X.env = (false, eval e X.env) :: starEach es X.env := by rfl) (hpl : (backTo pos (starEach es X.env)).any (·.1) = false := by rfl)
    (ht : eval (.Call (.Attribute o m apos) (e :: es) [] pos) X.env = (do
      let ov ← eval o X.env
      standAt apos.atName
      let (f, first) ← holding [ov] (getMethod ov m pl)
      callWith pos f first (backTo pos (starEach (e :: es) X.env)) (backToKw pos (keywordEach [] X.env))) := by rfl) :
    PE X (.Call (.Attribute o m apos) (e :: es) [] pos) (tMeth C m sp [] E ta t) := by
  obtain ⟨fd, F1, b⟩ := F.ex
  exact pe_meth he c hm F1 (hr.mono hk) b .nil hx ha hst hpl ht
theorem pe_mt0 {pl : Sem Bool} (he : PE X o ta) (c : Cls X.K C) (hm : Meth X.K C m f) (F : PrX X k f ps sp) (hr : Room j X.A) (hk : k ≤ j) (hx : Lets X E)
    (ht : eval (.Call (.Attribute o m apos) [] [] pos) X.env = (do
      let ov ← eval o X.env
      standAt apos.atName
      let (f, first) ← holding [ov] (getMethod ov m pl)
      callWith pos f first (backTo pos (starEach [] X.env)) (backToKw pos (keywordEach [] X.env))) := by rfl) :
    PE X (.Call (.Attribute o m apos) [] [] pos) (tMeth C m sp [] E ta tNil) := by
  obtain ⟨fd, F1, b⟩ := F.ex
  exact pe_meth0 he c hm F1 (hr.mono hk) b .nil hx ht
theorem pe_mk (M : Mk X.K C f) (F : PrX X k f ps sp) (hr : Room j X.A) (hk : k + 1 ≤ j) (hx : Lets X E) (hm : X.mg x = some (.ref C)) (ha : PA X (e :: es) t) (hg : Gl X x := by rfl) (hdb : (x == ("__debug__" : Str)) = false := by decide)
    (he : starEach (e :: es) X.env = (false, eval e X.env) :: starEach es X.env := by rfl) (hpl : (backTo pos (starEach es X.env)).any (·.1) = false := by rfl) :
    PE X (.Call (.Name x p) (e :: es) [] pos) (tMake C sp [] E t) := by
  obtain ⟨fd, F1, b⟩ := F.ex
  exact pe_make M F1 (hr.mono hk) hg hm b .nil hx ha hdb he hpl
theorem pe_mk0 (M : Mk X.K C f) (F : PrX X k f ps sp) (hr : Room j X.A) (hk : k + 1 ≤ j) (hx : Lets X E) (hm : X.mg x = some (.ref C)) (hg : Gl X x := by rfl) (hdb : (x == ("__debug__" : Str)) = false := by decide) :
    PE X (.Call (.Name x p) [] [] pos) (tMake C sp [] E tNil) := by
  obtain ⟨fd, F1, b⟩ := F.ex
  exact pe_make0 M F1 (hr.mono hk) hg hm b .nil hx hdb
end

section
variable {P : Program} {w : World} {K : PySem.W.Frag} {mg : Str → Option Value} {base : Heap}
/-- the def's context lets out what its promise tells -/
theorem lets {N : List Str} {qual : Str} {scope : Scope} {f : Addr} {cd : Value} {A : Around} {outer : List Env} {s : Shared} {H : Hp} {E : XK} : Lets (cxOf (L2.CX P w) P w K mg base N qual scope f cd A outer s H E) E :=
  passes_call (takes_of rfl rfl rfl rfl) (fun _ _ _ _ z => z)
theorem takes {N : List Str} {qual : Str} {scope : Scope} {f : Addr} {cd : Value} {A : Around} {outer : List Env} {s : Shared} {H : Hp} {E : XK} : Takes (cxOf (L2.CX P w) P w K mg base N qual scope f cd A outer s H E) (fun cls d _ H => E cls d H) :=
  takes_of rfl rfl rfl rfl
theorem owns {N : List Str} {qual : Str} {scope : Scope} {f : Addr} {cd : Value} {A : Around} {outer : List Env} {s : Shared} {H : Hp} {E : XK} :
    PassesOwn (model (cxOf (L2.CX P w) P w K mg base N qual scope f cd A outer s H E).prog (cxOf (L2.CX P w) P w K mg base N qual scope f cd A outer s H E).w) (cxOf (L2.CX P w) P w K mg base N qual scope f cd A outer s H E).A (cxOf (L2.CX P w) P w K mg base N qual scope f cd A outer s H E).env (cxOf (L2.CX P w) P w K mg base N qual scope f cd A outer s H E).xe :=
  passes_of rfl
/-- raise X('..') -/
theorem ps_err {X : Cx} {W : WX} {x m : Str} {C : Addr} {j : Nat} {p p2 pos pos' : Pos} (tk : Takes X W)
    (q : PySem.W.excIn X.K C He.veBase "ValueError.__new__" = true ∧ PySem.W.keepIn X.K (.ref C) = true ∧ PySem.W.subIn X.K (.ref C) (.type "BaseException") = some true ∧ PySem.W.typeIn X.K (.ref C) = some (.type "type"))
    (gC : X.mg x = some (.ref C)) (hc : X.calm = true := by rfl) (hg : Gl X x := by rfl) (hdb : (x == ("__debug__" : Str)) = false := by decide) :
    PS X (.Raise (some (.Call (.Name x p) [.Constant (.str m) j p2] [] pos)) none pos') (fun _ σ H => W (.ref C) none σ H) :=
  ps_raise hc tk (pmk_own PySem.F.excBase_ValueError q.1 gC q.2.1 (raises_own q.2.2.1 q.2.2.2) hg hdb)
/-- a def by its body -/
theorem mk_pr {d : He.DefD} {N ps : List Str} {k : Nat} {sp : Sp} (F : ∃ fd, FunD K d.name d.qual d.params d.body d.scope (d.dvs K) (d.kws K) (He.fAd K d.at_) fd) (hd : d.dfl = []) (S : FnScope N ps d.scope)
    (hb : ∀ (kV doc pm : Value) (an : Option Addr) (cdv ct : Value) (us : List Value), us.length = ps.length → bindArgs (PySem.W.fnOf d.name d.qual d.params d.body d.scope .none kV doc pm an cdv ct) ⟨us, []⟩ = pure (ps.zip us))
    (len : ∀ vs H Q E, sp vs H Q E → vs.length = ps.length)
    (hbody : ∀ (cdv : Value) (A : Around) (outer : List Env) (s : Shared) (H : Hp) (vs : List V) (Q : VK) (E : XK), Room k (A.deeper (envOfC d.qual d.scope s.heap.objs.size (He.fAd K d.at_) cdv)) → sp vs H Q E →
      ∃ t, PSs (cxOf (L2.CX P w) P w K mg base N d.qual d.scope (He.fAd K d.at_) cdv A outer s H E) d.body t ∧ t { nx := fun _ H' => Q .non H', rt := Q } (start N vs) H) : Pr P w K mg base (k + 1) (He.fAd K d.at_) ps sp := by
  obtain ⟨fd, F⟩ := F
  have e : d.dvs K = [] := by unfold He.DefD.dvs; rw [hd] <;> rfl
  refine ⟨⟨fd, FunD.ok F S len hbody, ?_⟩, F.kp⟩
  rw [e] at F
  exact FunD.bindsN F hb
end


/-! ### promises by the number of arguments -/
def Sp0 (f : Hp → VK → XK → Prop) : Sp := fun vs H Q E => vs = [] ∧ f H Q E
def Sp1 (f : V → Hp → VK → XK → Prop) : Sp := fun vs H Q E => ∃ a, vs = [a] ∧ f a H Q E
def Sp2 (f : V → V → Hp → VK → XK → Prop) : Sp := fun vs H Q E => ∃ a b, vs = [a, b] ∧ f a b H Q E
def Sp3 (f : V → V → V → Hp → VK → XK → Prop) : Sp := fun vs H Q E => ∃ a b c, vs = [a, b, c] ∧ f a b c H Q E
def Sp4 (f : V → V → V → V → Hp → VK → XK → Prop) : Sp := fun vs H Q E => ∃ a b c d, vs = [a, b, c, d] ∧ f a b c d H Q E
def Sp5 (f : V → V → V → V → V → Hp → VK → XK → Prop) : Sp := fun vs H Q E => ∃ a b c d e, vs = [a, b, c, d, e] ∧ f a b c d e H Q E
def Sp8 (f : V → V → V → V → V → V → V → V → Hp → VK → XK → Prop) : Sp := fun vs H Q E => ∃ a b c d e g i j, vs = [a, b, c, d, e, g, i, j] ∧ f a b c d e g i j H Q E
theorem len0 {f : Hp → VK → XK → Prop} : ∀ vs H Q E, Sp0 f vs H Q E → vs.length = 0 := fun _ _ _ _ ⟨h, _⟩ => by rw [h] <;> rfl
theorem len1 {f : V → Hp → VK → XK → Prop} : ∀ vs H Q E, Sp1 f vs H Q E → vs.length = 1 := fun _ _ _ _ ⟨_, h, _⟩ => by rw [h] <;> rfl
theorem len2 {f : V → V → Hp → VK → XK → Prop} : ∀ vs H Q E, Sp2 f vs H Q E → vs.length = 2 := fun _ _ _ _ ⟨_, _, h, _⟩ => by rw [h] <;> rfl
theorem len3 {f : V → V → V → Hp → VK → XK → Prop} : ∀ vs H Q E, Sp3 f vs H Q E → vs.length = 3 := fun _ _ _ _ ⟨_, _, _, h, _⟩ => by rw [h] <;> rfl
theorem len4 {f : V → V → V → V → Hp → VK → XK → Prop} : ∀ vs H Q E, Sp4 f vs H Q E → vs.length = 4 := fun _ _ _ _ ⟨_, _, _, _, h, _⟩ => by rw [h] <;> rfl
theorem len5 {f : V → V → V → V → V → Hp → VK → XK → Prop} : ∀ vs H Q E, Sp5 f vs H Q E → vs.length = 5 := fun _ _ _ _ ⟨_, _, _, _, _, h, _⟩ => by rw [h] <;> rfl
theorem len8 {f : V → V → V → V → V → V → V → V → Hp → VK → XK → Prop} : ∀ vs H Q E, Sp8 f vs H Q E → vs.length = 8 := fun _ _ _ _ ⟨_, _, _, _, _, _, _, _, h, _⟩ => by rw [h] <;> rfl
/-! ### dict of fields -/
theorem lk_hit {f : Str} {v : V} {l : List (Str × V)} : ((f, v) :: l).lookup f = some v := by simp [List.lookup]
/-! ### tactics by words -/
local macro_rules | `(tactic| walk_at "ne") => `(tactic| first | assumption | (apply Ne.symm; assumption) | exact ne_of_none (by assumption) (by assumption) | exact (ne_of_none (by assumption) (by assumption)).symm)
end Cn
/-! generator expressions over lists and tuples: sum, any, tuple of them -/
namespace Cn
open PySem PySem.Spec PyProof.Rows L2 LamX
/-- the generator's own scope -/
def gsB (sc scope : Scope) (N : List Str) (x : Str) : Bool :=
  decide (scope.kind = .function) && !scope.isCoroutine && decide (scope.names.lookup (".0" : Str) = some NameKind.local) && decide (scope.names.lookup x = some .local) &&
    scope.names.all fun y => !decide (y.2 = .cell) && (!decide (y.2 = .local) || decide (y.1 = ".0") || decide (y.1 = x)) && (!decide (y.2 = .free) || decide (sc.names.lookup y.1 = some .cell) || decide (sc.names.lookup y.1 = some .free))
structure GsOk (sc scope : Scope) (x : Str) : Prop where
  kind : scope.kind = .function
  co : scope.isCoroutine = false
  dot : scope.names.lookup (".0" : Str) = some NameKind.local
  loc : scope.names.lookup x = some .local
  cell : ∀ y ∈ scope.names, y.2 ≠ .cell
  own : ∀ y ∈ scope.names, y.2 = .local → y.1 = ".0" ∨ y.1 = x
  free : ∀ y ∈ scope.names, y.2 = .free → sc.names.lookup y.1 = some .cell ∨ sc.names.lookup y.1 = some .free
theorem gs_by {sc scope : Scope} {N : List Str} {x : Str} (h : gsB sc scope N x = true) : GsOk sc scope x := by
  unfold gsB at h
  simp only [Bool.and_eq_true, Bool.or_eq_true, Bool.not_eq_true', decide_eq_true_eq, decide_eq_false_iff_not, List.all_eq_true] at h
  obtain ⟨⟨⟨⟨h1, h2⟩, h3⟩, h4⟩, h5⟩ := h
  refine ⟨h1, h2, h3, h4, fun y hy => (h5 y hy).1.1, fun y hy e => ?_, fun y hy e => ?_⟩
  · rcases (h5 y hy).1.2 with (z | z) | z
    · exact absurd e z
    · exact .inl z
    · exact .inr z
  · rcases (h5 y hy).2 with (z | z) | z
    · exact absurd e z
    · exact .inl z
    · exact .inr z
/-- the abstract heap without the tables -/
def noT (H : Hp) : Hp := fun b => match H b with
  | some (.tbl _) => none
  | o => o
theorem noT_of {H : Hp} {b : Addr} {o : HO} (h : H b = some o) (n : ∀ ps, o ≠ .tbl ps) : noT H b = some o := by
  unfold noT
  rw [h]
  cases o with
  | tbl ps => exact absurd rfl (n ps)
  | _ => rfl
theorem of_noT {H : Hp} {b : Addr} {o : HO} (h : noT H b = some o) : H b = some o ∧ ∀ ps, o ≠ .tbl ps := by
  unfold noT at h
  cases q : H b with
  | none =>
    rw [q] at h
    cases h
  | some u =>
    rw [q] at h
    cases u with
    | tbl ps => cases h
    | _ =>
      cases h
      exact ⟨rfl, fun ps z => by cases z⟩
theorem extN_noT {H : Hp} : ExtN H (noT H) := fun b o h n => noT_of h n

/-- what holds while the generator's element is asked -/
structure GI (X : Cx) (scope : Scope) (cenv : Env) (σ : L2.St) (H : Hp) (s : Shared) : Prop where
  sc : cenv.scope = scope
  kind : scope.kind = .function
  gl : cenv.globals = mainGlobals
  bl : cenv.builtins = builtinsNs
  glob : s.heap.Ns mainGlobals X.mg
  blt : ∃ mb, s.heap.Ns builtinsNs mb ∧ ∀ x : Str, x ≠ "__name__" → mb x = bootBuiltins x
  kin : X.K.In s.heap
  hok : HOk X.prog X.w H s.heap
  loc : ∃ m, s.heap.Ns cenv.locals m ∧ ∀ (i : Nat) (x : Str) (v : V), X.N[i]? = some x → σ[i]? = some (some v) → Vis scope x → ∃ u, RelV v u ∧ Look cenv s.heap m x u
theorem GI.keeps {X : Cx} {scope : Scope} {cenv : Env} {σ : L2.St} {H : Hp} {s s' : Shared} (I : GI X scope cenv σ H s) (k : Keeps s s') : GI X scope cenv σ H s' := by
  obtain ⟨h', tk, rfl, hk⟩ := k
  obtain ⟨m, hn, hl⟩ := I.loc
  obtain ⟨mb, hb, hb2⟩ := I.blt
  refine ⟨I.sc, I.kind, I.gl, I.bl, I.glob.keeps hk, ⟨mb, hb.keeps hk, hb2⟩, I.kin.keeps hk, I.hok.kept hk, m, hn.keeps hk, fun i x v e1 e2 e3 => ?_⟩
  obtain ⟨u, r, l⟩ := hl i x v e1 e2 e3
  refine ⟨u, r, ?_⟩
  rcases l with l | ⟨k', c, e, o, ho, hd⟩
  · exact .inl l
  · exact .inr ⟨k', c, e, o, hk _ _ ho, hd⟩
theorem keeps_rfl (s : Shared) : Keeps s s := ⟨s.heap, s.toks, rfl, fun _ _ e => e⟩
theorem keeps_tok (s : Shared) (k : Nat) : Keeps s { s with toks := k } := ⟨s.heap, k, rfl, fun _ _ e => e⟩
theorem Keeps.trans' {s s1 s2 : Shared} (a : Keeps s s1) (b : Keeps s1 s2) : Keeps s s2 := by
  obtain ⟨h1, t1, rfl, k1⟩ := a
  obtain ⟨h2, t2, rfl, k2⟩ := b
  exact ⟨h2, t2, rfl, fun c o e => k2 c o (k1 c o e)⟩
/-- an element's expression and its reading -/
def PEg (X : Cx) (scope : Scope) (e : Expr) (t : TE) : Prop :=
  ∀ (cenv : Env) (A : Around) (E : Value → Shared → Prop) (σ : L2.St) (H : Hp) (s : Shared) (Q : VK), A.handled = none → GI X scope cenv σ H s → t σ H Q →
    wpAny (model X.prog X.w) A (eval e cenv) (fun u s' => ∃ v H', GI X scope cenv σ H' s' ∧ Keeps s s' ∧ RelV v u ∧ Q v H') E s
section
variable {X : Cx} {scope : Scope}
theorem peg_var {i : Nat} {x : Str} {pos : Pos} (hN : X.N[i]? = some x := by rfl) (hv : Vis scope x := by first | exact Or.inl rfl | exact Or.inr (Or.inl rfl) | exact Or.inr (Or.inr rfl)) (hd : (x == ("__debug__" : Str)) = false := by decide) (hcd : (x == ("__classdict__" : Str)) = false := by decide) :
    PEg X scope (.Name x pos) (tVar i) := by
  intro cenv A E σ H s Q hA I h
  obtain ⟨v, e, h⟩ := h
  obtain ⟨m, hn, hl⟩ := I.loc
  obtain ⟨u, r, l⟩ := hl i x v hN e hv
  have hk' : cenv.scope.kind = .function := by rw [I.sc]; exact I.kind
  have fin : ∃ v H', GI X scope cenv σ H' s ∧ Keeps s s ∧ RelV v u ∧ Q v H' := ⟨v, H, I, keeps_rfl s, r, h⟩
  rcases l with ⟨hk, hm⟩ | ⟨hk, c, hc, hcell⟩
  · exact wpAny_Name (wpAny_loadName_local hk' hk hn hm fin) hd
  · rcases hk with hk | hk
    · exact wpAny_Name (wpAny_loadName_cell hk' hk hc hcell fin) hd
    · exact wpAny_Name (wpAny_loadName_free hk' hk hc hcell fin hcd) hd
theorem peg_int {i : Int} {j : Nat} {pos : Pos} : PEg X scope (.Constant (.int i) j pos) (tC (.int i)) := fun _ _ _ _ H s _ _ I h =>
  wpAny_Constant_int ⟨.int i, H, I.keeps (keeps_tok s _), keeps_tok s _, ⟨_, rfl⟩, h⟩
theorem peg_fld {e : Expr} {f : Str} {pos : Pos} {ta : TE} (he : PEg X scope e ta) (hb : ∀ cenv : Env, cenv.scope = scope → attributeBase e f cenv (eval e cenv) = eval e cenv) : PEg X scope (.Attribute e f pos) (tFld X.K ta f) := by
  intro cenv A E σ H s Q hA I h
  refine attr_of (hb cenv I.sc) (thn (he cenv A E σ H s _ hA I h) fun u s1 ⟨x, H1, I1, k1, rx, a, C, dx, fs, v, ex, ea, c, n, l, q⟩ => ?_)
  subst ex
  obtain rfl : u = Value.ref a := rx
  obtain ⟨mA, O, r, _, _, _⟩ := ins_get I1.hok ea
  obtain ⟨u, hu, ru⟩ := RelO.some_of (v := v) (o := mA f) (by rw [← l]; exact r f)
  exact get_map I1.kin O (c.get f) c.hd n hu (handed_of ru) ⟨v, H1, I1.keeps (keeps_tok s1 _), Keeps.trans' k1 (keeps_tok s1 _), ru, q⟩
end

/-- a generator made over a list or tuple xs, ready to be walked in the state s5: it gives g 0, g 1, .. -/
def GReady (X : Cx) (pins : List (Addr × Obj)) (σ : L2.St) (H1 : Hp) (T : List (Addr × Str)) (n : Nat) (g : Nat → V) (a : Addr) (s5 : Shared) : Prop :=
  ∃ (fp wr : List Addr) (G : Array GenState → Array GenState → Prop) (F : Nat → Value → Prop) (St : Nat → Shared → Prop),
    WalksS X.prog X.w X.A.in1 a fp wr G n F St ∧ St 0 s5 ∧ (∀ b ∈ fp, b < s5.heap.objs.size) ∧ (∀ j y, F j y → j < n ∧ RelV (g j) y) ∧
    ∀ s', Moved wr G s5 s' → ∃ H2, ExtN H1 H2 ∧ Tabs T H2 ∧ Inv X pins σ H2 s'

section
variable {X : Cx} {pins : List (Addr × Obj)} {σ : L2.St} {H H1 : Hp} {s s1 : Shared}
/-- a list or a tuple, walked -/
theorem iter_seq {A : Around} {E : Value → Shared → Prop} {Q : Value → Shared → Prop} {a : Addr} {xs : List V} (I1 : Inv X pins σ H1 s1) (hq : SqL X.K H1 a xs ∨ SqT X.K H1 a xs)
    (k : ∀ (o : Obj) (St : Nat → Heap → Prop) (its : List Value), Vals xs its → a < s1.heap.objs.size → (∀ A' : Around, A'.handled = none → Walks X.prog X.w A' s1.heap.objs.size [s1.heap.objs.size, a] [s1.heap.objs.size] its.toArray.size (fun i v => its.toArray[i]? = some v) St) → St 0 (s1.heap.push o) →
      Q (.ref s1.heap.objs.size) { s1 with heap := s1.heap.push o }) : wpAny (model X.prog X.w) A (pyIter (.ref a)) Q E s1 := by
  rcases hq with hq | hq
  · obtain ⟨its, rv, ⟨ol, nl, el, c1, c2, dl⟩, hz⟩ := I1.list hq
    have hl : s1.heap.IsList a its.toArray := ⟨ol, el, c1, nl, dl⟩
    have lt := Heap.lt_size el
    refine wpAny_pyIter_list hl (k _ _ its rv lt (fun A' hA => Walks.list hA _ a (Nat.ne_of_lt lt) _) ⟨⟨_, Heap.get?_push_size _ rfl, rfl, rfl⟩, hl.at fun o e => Heap.get?_push_of_some _ e⟩)
  · obtain ⟨its, rv, p, hz⟩ := I1.tuple hq
    have ht : s1.heap.IsTuple a its.toArray := p
    obtain ⟨ot, et, ct, nt, dt⟩ := id p
    have lt := Heap.lt_size et
    refine wpAny_pyIter_tuple ht (k _ _ its rv lt (fun A' hA => Walks.tuple hA _ a (Nat.ne_of_lt lt) _) ⟨⟨_, Heap.get?_push_size _ rfl, rfl, rfl⟩, ht.at fun o e => Heap.get?_push_of_some _ e⟩)

/-- the state between may be told anew where only generators and the like differ -/
theorem regen {Hx : Hp} {s' sx : Shared} (J : Inv X pins σ Hx sx) (e1 : sx.heap = s'.heap) (e2 : sx.os = s'.os) (hg : AllBare s'.gens) : Inv X pins σ Hx s' :=
  ⟨J.ok, e2 ▸ J.os, hg, e1 ▸ J.base, e1 ▸ J.loc, fun z c e => e1 ▸ J.cell z c e, J.free, J.freeC, fun p hp => e1 ▸ J.pin p hp, e1 ▸ J.hok, J.len⟩
/-- the code object of a generator expression: new, or found in the def's table; s1 is the state ahead of its iterator o -/
structure CodeMade (X : Cx) (pins : List (Addr × Obj)) (σ : L2.St) (H1 : Hp) (T : List (Addr × Str)) (P : Addr) (s1 : Shared) (o : Obj) (s3 : Shared) : Prop where
  ex : ∃ (h3 : Heap) (tk : Nat) (Hx : Hp), s3 = { s1 with heap := h3, toks := tk } ∧ Heap.ExtBut P (s1.heap.push o) h3 ∧ (s1.heap.push o).objs.size ≤ h3.objs.size ∧ ExtN H1 Hx ∧ Tabs T Hx ∧
    ∀ s' : Shared, (∀ b u, b ≠ P → s1.heap.get? b = some u → s'.heap.get? b = some u) → (∀ b u, s1.heap.objs.size < b → h3.get? b = some u → s'.heap.get? b = some u) → (∀ u, h3.get? P = some u → s'.heap.get? P = some u) → AllBare s'.gens → s'.os = s1.os → Inv X pins σ Hx s'
theorem code_step {T : List (Addr × Str)} {c P : Addr} {gpos : Pos} {scope : Scope} {o : Obj} {E : Value → Shared → Prop} (I1 : Inv X pins σ H1 s1) (TB : TabB X.base X.mg c P) (hcode : X.env.code = .ref c) (hmT : (P, X.env.qual ++ "<genexpr>") ∈ T)
    (hu : ∀ p ∈ T, p.1 = P → p.2 = X.env.qual ++ "<genexpr>") (hT : Tabs T H1) :
    wpAny (model X.prog X.w) X.A (genexprCode X.env gpos (X.env.qual ++ "<genexpr>") scope) (fun _ s3 => CodeMade X pins σ H1 T P s1 o s3) E { s1 with heap := s1.heap.push o } := by
  obtain ⟨ps, hP, ht, hcs⟩ := hT _ hmT
  have gP : s1.heap.get? P = some { cls := .none, data := .fields ps } := I1.hok P _ hP
  have gP' : (s1.heap.push o).get? P = some { cls := .none, data := .fields ps } := Heap.get?_push_of_some _ gP
  have cd : PySem.W.CodeHd (s1.heap.push o) c P := TB.code.keeps fun b u e => Heap.get?_push_of_some _ (I1.bk b u e)
  have psz : (s1.heap.push o).objs.size = s1.heap.objs.size + 1 := Heap.size_push ..
  cases hf : codeAmong gpos ps.toList with
  | some cv =>
    refine wpAny_genexprCode_hit hcode (cd.code gP' ht) hf ⟨s1.heap.push o, s1.toks, H1, rfl, Heap.ExtBut.refl _ _, Nat.le_refl _, ExtN.refl H1, hT, fun s' k1 k2 k3 hg hos => ?_⟩
    refine regen (I1.kept (h' := s'.heap) (t' := s'.toks) fun b u e => ?_) rfl hos.symm hg
    by_cases hb : b = P
    · subst hb
      exact k3 u (Heap.get?_push_of_some _ e)
    · exact k1 b u hb e
  | none =>
    refine wpAny_genexprCodeX hcode (cd.code gP' ht) (cd.tab gP') hf fun c' h' tk hx hge hlt hco' hrec htab' _ => ?_
    obtain ⟨c2, oc, vs2, t2, e2, hoc, hd2, hv2⟩ := hrec
    cases e2
    have gt : s1.heap.objs.size < c' := by
      rw [psz] at hge
      exact hge
    have nC : H1 c' = none := I1.hok.fresh (Nat.le_of_lt gt)
    have nPc : P ≠ c' := ne_of_none hP nC
    have hE : ExtN H1 (upd (upd H1 P (.tbl (ps ++ #[rawInt gpos.line, rawInt gpos.col, .ref c']))) c' (CodeO c' (X.env.qual ++ "<genexpr>"))) := fun b u e n => by
      have n1 : b ≠ P := fun z => n ps (by rw [z, hP] at e; exact (Option.some.inj e).symm)
      rw [upd_ne (ne_of_none e nC), upd_ne n1, e]
    have eL : (ps ++ #[rawInt gpos.line, rawInt gpos.col, .ref c']).toList = ps.toList ++ [rawInt gpos.line, rawInt gpos.col, .ref c'] := by simp
    have htr : TriplesOk (ps ++ #[rawInt gpos.line, rawInt gpos.col, .ref c']).toList := by
      rw [eL]
      exact PySem.TriplesOk_snoc _ _ _ _ ht
    have hTn : Tabs T (upd (upd H1 P (.tbl (ps ++ #[rawInt gpos.line, rawInt gpos.col, .ref c']))) c' (CodeO c' (X.env.qual ++ "<genexpr>"))) := fun p hp => by
      obtain ⟨p1, p2⟩ := p
      have told : ∀ {q : Str} {cv : Value}, (∃ c0, cv = .ref c0 ∧ H1 c0 = some (CodeO c0 q)) → ∃ c0, cv = .ref c0 ∧ upd (upd H1 P (.tbl (ps ++ #[rawInt gpos.line, rawInt gpos.col, .ref c']))) c' (CodeO c' (X.env.qual ++ "<genexpr>")) c0 = some (CodeO c0 q) :=
        fun ⟨c0, z1, z2⟩ => ⟨c0, z1, hE c0 _ z2 codeO_ne⟩
      by_cases hb : p1 = P
      · obtain rfl : p2 = X.env.qual ++ "<genexpr>" := hu _ hp hb
        subst hb
        refine ⟨_, by rw [upd_ne nPc, upd_same], htr, fun pp cv hcv => ?_⟩
        rw [eL] at hcv
        rcases among_app _ ht hcv with z | z
        · exact told (hcs pp cv z)
        · exact ⟨c', z, upd_same⟩
      · obtain ⟨ps', a1, a2, a3⟩ := hT _ hp
        exact ⟨ps', by rw [upd_ne (ne_of_none a1 nC), upd_ne hb, a1], a2, fun pp cv hcv => told (a3 pp cv hcv)⟩
    refine ⟨h', tk, _, rfl, hx, Nat.le_trans hge (Nat.le_of_lt hlt), hE, hTn, fun s' k1 k2 k3 hg hos => ?_⟩
    exact regen (inv_table (h' := s'.heap) (t' := s'.toks) (more := #[rawInt gpos.line, rawInt gpos.col, .ref c']) I1 hP k1 (k3 _ htab'.2) (Nat.le_of_lt gt) ⟨oc, vs2, t2, k2 _ _ gt hoc, hd2, hv2⟩) rfl hos.symm hg
/-- captured names: the cells of the generator are the def's -/
theorem clo_back {cells : List (Str × Addr)} {names : List (Str × NameKind)} (hfree : ∀ y ∈ names, y.2 = .free → ∃ c, cells.lookup y.1 = some c) {z : Str} {c : Addr} (e : (cloFrom cells names []).lookup z = some c) : cells.lookup z = some c := by
  rcases cloFrom_mem (PySem.mem_of_lookup e) with hm | ⟨h1, h2⟩
  · cases hm
  · obtain ⟨c1, hc⟩ := hfree _ h1 rfl
    have hc : cells.lookup z = some c1 := hc
    rw [h2, hc]
    rfl
/-- the element's context, at a turn of the generator -/
theorem gi_turn {scope : Scope} {x : Str} {ix : Nat} {P h3sz : Addr} {code : Value} {ps : Array Value} {s₂ : Shared} {y : V} {v : Value} {m₂ : Str → Option Value} (I1 : Inv X pins σ H1 s1) (S : GsOk X.env.scope scope x) (hN : X.N.Nodup) (hix : X.N[ix]? = some x) (hdot : (".0" : Str) ∉ X.N)
    (hP : H1 P = some (.tbl ps)) (keep2 : ∀ b u, b ≠ P → s1.heap.get? b = some u → s₂.heap.get? b = some u) (hn : s₂.heap.Ns h3sz m₂) (hm : m₂ x = some v) (ry : RelV y v) :
    GI X scope (genEnv scope (cloFrom X.env.cells scope.names []) h3sz code builtinsNs X.env) (σ.set ix (some y)) (noT H1) s₂ := by
  have nP : ∀ {b u}, H1 b = some u → (∀ q, u ≠ .tbl q) → b ≠ P := fun {b u} e q z => by
    subst z
    rw [hP] at e
    exact q ps (Option.some.inj e).symm
  have nN : ∀ {b}, H1 b = none → b ≠ P := fun {b} e z => by
    subst z
    rw [hP] at e
    cases e
  have hfree : ∀ y ∈ scope.names, y.2 = .free → ∃ c, X.env.cells.lookup y.1 = some c := fun y hy e => I1.ok.has _ (S.free y hy e)
  have kb : ∀ b u, X.base.get? b = some u → s₂.heap.get? b = some u := fun b u e => keep2 b u (nN (I1.bs b u e).2) (I1.bk b u e)
  obtain ⟨mb, hb1, hb2⟩ := I1.mod.blt
  refine ⟨rfl, S.kind, I1.ok.glob, rfl, I1.mod.glob.keeps kb, ⟨mb, hb1.keeps kb, hb2⟩, I1.mod.kin.keeps kb, fun b u e => ?_, m₂, hn, fun j z w' h1 h2 h3' => ?_⟩
  · obtain ⟨e', nt⟩ := of_noT e
    refine (I1.hok b u e').stay (fun d w' hd q => keep2 d w' (hd.elim (fun z => ?_) fun z => nP z fun _ z => by cases z) q) (fun d q => noT_of q fun _ z => by cases z) fun d ys q => noT_of q fun _ z => by cases z
    rw [z]
    exact nP e' nt
  · rcases h3' with k1 | k1 | k1
    · have hz : z = ".0" ∨ z = x := S.own _ (PySem.mem_of_lookup k1) rfl
      rcases hz with rfl | rfl
      · exact absurd (List.mem_of_getElem? h1) hdot
      · obtain rfl : j = ix := nodup_ix hN h1 hix
        rw [List.getElem?_set_self (by rw [I1.len]; exact (List.getElem?_eq_some_iff.mp hix).1)] at h2
        cases h2
        exact ⟨v, ry, .inl ⟨k1, hm⟩⟩
    · exact absurd rfl (S.cell _ (PySem.mem_of_lookup k1))
    · have hjx : j ≠ ix := fun ej => by
        subst ej
        rw [hix] at h1
        cases h1
        rw [S.loc] at k1
        cases k1
      rw [List.getElem?_set_ne (Ne.symm hjx)] at h2
      have kk : X.env.scope.names.lookup z = some .cell ∨ X.env.scope.names.lookup z = some .free := S.free _ (PySem.mem_of_lookup k1) rfl
      obtain ⟨m, hn1, hl1⟩ := I1.loc
      obtain ⟨u, r, l⟩ := hl1 j z w' h1 h2 (.inr kk)
      obtain ⟨c2, hc2⟩ : ∃ c, (cloFrom X.env.cells scope.names []).lookup z = some c := mem_lookup (cloFrom_has (cells := X.env.cells) (acc := []) (PySem.mem_of_lookup k1))
      refine ⟨u, r, .inr ⟨.inr k1, c2, hc2, ?_⟩⟩
      have cb := clo_back hfree hc2
      rcases l with ⟨k', _⟩ | ⟨_, c3, e', oc, ho, hd⟩
      · have k' : X.env.scope.names.lookup z = some .local := k'
        rcases kk with k2 | k2 <;> rw [k2] at k' <;> cases k'
      · rw [cb] at e'
        cases e'
        exact ⟨oc, keep2 _ _ (nN (I1.freeC z _ cb)) ho, hd⟩
/-- the generator is made -/
theorem gen_seq {T : List (Addr × Str)} {c P : Addr} {elt iter : Expr} {x : Str} {px gpos : Pos} {scope : Scope} {ix : Nat} {te tel : TE} {k : Nat} {Q' : Value → Shared → Prop} {R : Addr → List V → (Nat → V) → Hp → Prop}
    (hr : Room k X.A) (TB : TabB X.base X.mg c P) (hcode : X.env.code = .ref c) (hmT : (P, X.env.qual ++ "<genexpr>") ∈ T) (hu : ∀ p ∈ T, p.1 = P → p.2 = X.env.qual ++ "<genexpr>")
    (S : GsOk X.env.scope scope x) (hN : X.N.Nodup) (hix : X.N[ix]? = some x) (hdot : (".0" : Str) ∉ X.N) (hi : PE X iter te) (hel : PEg X scope elt tel)
    (hs : ∀ v, genFold iter X.env v = pure v) (I : Inv X pins σ H s)
    {HH : VK} (h : te σ H HH) (hH : ∀ v H1, HH v H1 → ∃ (a : Addr) (xs : List V) (g : Nat → V), v = .ref a ∧ (SqL X.K H1 a xs ∨ SqT X.K H1 a xs) ∧ Tabs T H1 ∧ (∀ (i : Nat) (y : V) (Hg : Hp), xs[i]? = some y → ExtN H1 Hg → tel (σ.set ix (some y)) Hg fun v _ => v = g i) ∧ R a xs g H1)
    (hQ : ∀ a xs g H1 gg s5, R a xs g H1 → GReady X pins σ H1 T xs.length g gg s5 → Q' (.ref gg) s5) :
    wpAny (model X.prog X.w) X.A (eval (.GeneratorExp elt [⟨.Name x px, iter, [], 0⟩] scope gpos) X.env) Q' X.xe s := by
  refine wpAny_GeneratorExp_walksQ hr.hd S.co (closure_ok fun y hy e => I.ok.has _ (S.free y hy e)) S.cell S.dot S.loc S.kind (by have := hr.dp; omega) ?_ hs
  refine thn (hi.run pins s σ H _ I h) fun xv s1 ⟨v, H1, I1, r1, q1⟩ => ?_
  obtain ⟨a, xs, g, rfl, hq, hT, hE, q1⟩ := hH v H1 q1
  obtain rfl : xv = Value.ref a := r1
  refine iter_seq I1 hq fun o St its rv halt W hst => ⟨I1.nolimit.push o, wpAny_mono (code_step (gpos := gpos) (scope := scope) (o := o) I1 TB hcode hmT hu hT) (fun code s3 cm => ?_) fun _ _ e => e⟩
  obtain ⟨h3, tk, Hx, rfl, hx, hsz, hEx, hTx, hInv⟩ := cm.ex
  obtain ⟨ps, hP, _, _⟩ := hT _ hmT
  have gP : s1.heap.get? P = some { cls := .none, data := .fields ps } := I1.hok P _ hP
  have psz : (s1.heap.push o).objs.size = s1.heap.objs.size + 1 := Heap.size_push ..
  have lt3 : s1.heap.objs.size < h3.objs.size := by
    rw [psz] at hsz
    exact hsz
  have le3 : s1.heap.objs.size ≤ h3.objs.size := Nat.le_of_lt lt3
  have haP : a ≠ P := by
    rintro rfl
    rcases hq with hq | hq
    · obtain ⟨_, _, ⟨_, _, el, _, _, dl⟩, _⟩ := I1.list hq
      rw [gP] at el
      cases el
      cases dl
    · obtain ⟨_, _, ⟨_, et, _, _, dt⟩, _⟩ := I1.tuple hq
      rw [gP] at et
      cases et
      cases dt
  have hlen : its.toArray.size = xs.length := by rw [List.size_toArray, rv.length]
  have keep3 : ∀ b u, b ≠ P → s1.heap.get? b = some u → h3.get? b = some u := fun b u hb e => hx b u hb (Heap.get?_push_of_some _ e)
  obtain ⟨bm, ob, e1, e2, e3, e4, e5, e6, e7, e8⟩ := TB.bm
  have hcP : cStatics ≠ P := by
    rintro rfl
    obtain ⟨_, ⟨o', _, _, ho, hd, _⟩, _⟩ := I1.nolimit
    rw [gP] at ho
    cases ho
    cases hd
  have hcl : cStatics < s1.heap.objs.size := let ⟨_, hns, _⟩ := I1.nolimit; hns.lt
  refine wpAny_builtinsFor (m := X.mg) (by rw [I1.ok.glob]; exact ((I1.mod.glob.keeps I1.bk).push o).extBut hx TB.gP) e1 e2 (keep3 _ _ e4 (I1.bk _ _ e5)) e6 e7 e8 ?_
  have memfp : ∀ {b}, b ∈ [s1.heap.objs.size, a] → b = s1.heap.objs.size ∨ b = a := fun {b} hb => by simpa using hb
  have memwr : ∀ {b}, b ∈ [s1.heap.objs.size] → b = s1.heap.objs.size := fun {b} hb => by simpa using hb
  refine ⟨s1.heap.objs.size, [s1.heap.objs.size, a], [s1.heap.objs.size], xs.length, (fun i v => its.toArray[i]? = some v), St, (fun _ => true), (fun i y => i < xs.length ∧ RelV (g i) y), rfl, hlen ▸ W, ?_, fun b hb => ?_, (I1.nolimit.push o).extBut hx hcP, fun z => Nat.ne_of_lt hcl (memwr z), fun href hhref => ?_, fun gg h5 tk5 gs hgb hag hsz5 hk5 W5 hat => ?_⟩
  · refine (W X.A hr.hd).frame _ _ _ hst fun b hb u e => hx b u ?_ e
    rcases memfp hb with rfl | rfl
    · exact fun z => Nat.lt_irrefl _ (z ▸ Heap.lt_size gP)
    · exact haP
  · rcases memfp hb with rfl | rfl
    · exact lt3
    · exact Nat.lt_of_lt_of_le halt le3
  · refine ⟨fun A' E' i v s₂ m₂ hA hPv hn hm hk => ?_, fun A' E' i v s₂ m₂ hA hPv hp hn hm hk => ?_⟩
    · simp only [List.forIn_nil]
      exact wpAny_pure ⟨rfl, keeps_rfl _⟩
    · have hi1 : its[i]? = some v := by rw [← List.getElem?_toArray]; exact hPv
      obtain ⟨y, hy, ry⟩ : ∃ y, xs[i]? = some y ∧ RelV y v := by
        have hix : i < xs.length := by rw [rv.length]; exact (List.getElem?_eq_some_iff.mp hi1).1
        obtain ⟨u, z1, z2⟩ := rv.get (List.getElem?_eq_getElem hix)
        rw [hi1] at z1
        cases z1
        exact ⟨_, List.getElem?_eq_getElem hix, z2⟩
      have keep2 : ∀ b u, b ≠ P → s1.heap.get? b = some u → s₂.heap.get? b = some u := fun b u hb e =>
        hk b (List.mem_range.mpr (Nat.lt_of_lt_of_le (Heap.lt_size e) le3)) (fun z => Nat.ne_of_lt (Heap.lt_size e) (memwr z)) u (hhref b u (keep3 b u hb e))
      have G2 := gi_turn (code := code) (h3sz := h3.objs.size) I1 S hN hix hdot hP keep2 hn hm ry
      refine wpAny_mono (hel _ A' E' (σ.set ix (some y)) (noT H1) s₂ _ hA G2 (hE i y _ hy extN_noT)) (fun u s3 ⟨v', H', _, k3, rv3, q3⟩ => ?_) fun _ _ e => e
      subst q3
      exact ⟨⟨(List.getElem?_eq_some_iff.mp hy).1, rv3⟩, k3⟩
  · have hag' : h3.objs.size < gg := hag
    have hpass : passing (fun _ => true) xs.length 0 = List.range xs.length := by simp [passing]
    rw [hpass, List.length_range] at W5
    have memW : ∀ {b}, b ∈ h3.objs.size :: [s1.heap.objs.size] → b = h3.objs.size ∨ b = s1.heap.objs.size := fun {b} hb => by simpa using hb
    refine hQ a xs g H1 gg _ q1 ⟨_, _, _, _, _, W5.in4_1, hat, fun b hb => ?_, fun j y ⟨i, hij, hF⟩ => ?_, fun s' hm => ⟨Hx, hEx, hTx, hInv s' (fun b u hb e => hm.heap b u (fun z => ?_) (hk5 b u (keep3 b u hb e))) (fun b u hb e => hm.heap b u (fun z => ?_) (hk5 b u e)) (fun u e => hm.heap P u (fun z => ?_) (hk5 P u e)) (AllBare.movedS (I1.bare.push hgb) hm) hm.os⟩⟩
    · show b < h5.objs.size
      rw [hsz5]
      rcases List.mem_cons.mp hb with rfl | z
      · exact Nat.lt_succ_self _
      · refine Nat.lt_succ_of_le (Nat.le_of_lt ?_)
        rcases List.mem_cons.mp z with rfl | z
        · exact hag'
        · exact Nat.lt_trans (List.mem_range.mp z) hag'
    · obtain ⟨hj, ej⟩ := List.getElem?_eq_some_iff.mp hij
      rw [List.getElem_range] at ej
      subst ej
      exact hF
    · have lt1 := Heap.lt_size e
      rcases memW z with rfl | rfl
      · exact Nat.lt_irrefl _ (Nat.lt_trans lt3 lt1)
      · exact Nat.lt_irrefl _ lt1
    · rcases memW z with rfl | rfl
      · exact Nat.lt_irrefl _ (Heap.lt_size e)
      · exact Nat.lt_irrefl _ hb
    · have lt1 := Heap.lt_size gP
      rcases memW z with rfl | rfl
      · exact Nat.lt_irrefl _ (Nat.lt_trans lt3 lt1)
      · exact Nat.lt_irrefl _ lt1
end
/-- what a generator expression's reading asks: its items by f (mk: as values), then what is wanted -/
def tGen {α : Type} (K : PySem.W.Frag) (T : List (Addr × Str)) (ix : Nat) (te tel : TE) (mk : α → V) (R : Nat → (Nat → α) → Hp → VK → Prop) : TE := fun σ H Q => te σ H fun v H1 =>
  ∃ (a : Addr) (xs : List V) (f : Nat → α), v = .ref a ∧ (SqL K H1 a xs ∨ SqT K H1 a xs) ∧ Tabs T H1 ∧ (∀ (i : Nat) (y : V) (Hg : Hp), xs[i]? = some y → ExtN H1 Hg → tel (σ.set ix (some y)) Hg fun v _ => v = mk (f i)) ∧
    ∀ H2, ExtN H1 H2 → Tabs T H2 → R xs.length f H2 Q
abbrev tSumG (K : PySem.W.Frag) (T : List (Addr × Str)) (ix : Nat) (te tel : TE) : TE := tGen K T ix te tel V.int fun n f H Q => Q (.int (preSum f n)) H
abbrev tAnyG (K : PySem.W.Frag) (T : List (Addr × Str)) (ix : Nat) (te tel : TE) : TE := tGen K T ix te tel V.bl fun n f H Q => Q (.bl ((List.range n).any f)) H
abbrev tTupG (K : PySem.W.Frag) (T : List (Addr × Str)) (ix : Nat) (te tel : TE) : TE := tGen K T ix te tel id fun n f H Q => n ≤ sizeLine ∧ ∀ p, H p = none → Q (.ref p) (upd H p (.tup ((List.range n).map f)))
section
variable {X : Cx} {T : List (Addr × Str)} {c P : Addr} {elt iter : Expr} {x : Str} {px p pos gpos : Pos} {scope : Scope} {ix : Nat} {te tel : TE} {k : Nat}
theorem boot_sum' : bootBuiltins "sum" = some (.builtin "sum") := by decide +kernel
theorem pe_sumG (hr : Room k X.A) (TB : TabB X.base X.mg c P) (hcode : X.env.code = .ref c) (hmT : (P, X.env.qual ++ "<genexpr>") ∈ T) (hu : ∀ p ∈ T, p.1 = P → p.2 = X.env.qual ++ "<genexpr>")
    (hm : X.mg "sum" = none) (hi : PE X iter te) (hel : PEg X scope elt tel) (hix : X.N[ix]? = some x) (S : gsB X.env.scope scope X.N x = true) (hN : X.N.Nodup) (hdot : (".0" : Str) ∉ X.N) (hg : Gl X "sum" := by rfl)
    (hs : ∀ v, genFold iter X.env v = pure v := by intro _; rfl)
    (he : starEach [.GeneratorExp elt [⟨.Name x px, iter, [], 0⟩] scope gpos] X.env = (false, eval (.GeneratorExp elt [⟨.Name x px, iter, [], 0⟩] scope gpos) X.env) :: starEach [] X.env := by rfl) :
    PE X (.Call (.Name "sum" p) [.GeneratorExp elt [⟨.Name x px, iter, [], 0⟩] scope gpos] [] pos) (tSumG X.K T ix te tel) := by
  refine ⟨fun pins s σ H Q I h => ?_⟩
  refine wpAny_Call_Name_kw (ld_blt I hg hm boot_sum' ?_)
  refine PyProof.Rows.callWith_builtin1 ?_ he (by rfl)
  rw [he]
  show wpAny _ _ (spliced ((false, eval (.GeneratorExp elt [⟨.Name x px, iter, [], 0⟩] scope gpos) X.env) :: backTo pos (starEach [] X.env))) _ _ s
  refine Calls.spliced_cons (gen_seq (R := fun a xs g H1 => ∃ f : Nat → Int, (∀ i, g i = .int (f i)) ∧ ∀ H2, ExtN H1 H2 → Tabs T H2 → Q (.int (preSum f xs.length)) H2) hr TB hcode hmT hu (gs_by S) hN hix hdot hi hel hs I h (fun v H1 ⟨a, xs, f, e1, e2, e3, e4, e5⟩ => ⟨a, xs, fun i => .int (f i), e1, e2, e3, e4, f, fun _ => rfl, e5⟩) fun a xs g H1 gg s5 hR hG => ?_)
  · obtain ⟨fp, wr, G, F, St, W, hst, hfp, hF, hI⟩ := hG
    obtain ⟨f, hf, hR⟩ := hR
    refine Calls.spliced_nil ?_
    refine call_sum_walkAnyS (W.self 0 _ _ _ hst ⟨gg, fp, wr, G, _, F, St, f, rfl, W, hst, hfp, fun i v hv => ?_, fun s' t' hmv => ?_⟩)
    · obtain ⟨_, r⟩ := hF i v hv
      rw [hf] at r
      exact r
    · obtain ⟨H2, hE, hT, J⟩ := hI s' hmv
      exact ⟨.int _, H2, J, ⟨_, rfl⟩, hR H2 hE hT⟩
theorem pe_anyG (hr : Room k X.A) (TB : TabB X.base X.mg c P) (hcode : X.env.code = .ref c) (hmT : (P, X.env.qual ++ "<genexpr>") ∈ T) (hu : ∀ p ∈ T, p.1 = P → p.2 = X.env.qual ++ "<genexpr>")
    (hm : X.mg "any" = none) (hi : PE X iter te) (hel : PEg X scope elt tel) (hix : X.N[ix]? = some x) (S : gsB X.env.scope scope X.N x = true) (hN : X.N.Nodup) (hdot : (".0" : Str) ∉ X.N) (hg : Gl X "any" := by rfl)
    (hs : ∀ v, genFold iter X.env v = pure v := by intro _; rfl)
    (he : starEach [.GeneratorExp elt [⟨.Name x px, iter, [], 0⟩] scope gpos] X.env = (false, eval (.GeneratorExp elt [⟨.Name x px, iter, [], 0⟩] scope gpos) X.env) :: starEach [] X.env := by rfl) :
    PE X (.Call (.Name "any" p) [.GeneratorExp elt [⟨.Name x px, iter, [], 0⟩] scope gpos] [] pos) (tAnyG X.K T ix te tel) := by
  refine ⟨fun pins s σ H Q I h => ?_⟩
  refine wpAny_Call_Name_kw (ld_blt I hg hm boot_any ?_)
  refine PyProof.Rows.callWith_builtin1 ?_ he (by rfl)
  rw [he]
  show wpAny _ _ (spliced ((false, eval (.GeneratorExp elt [⟨.Name x px, iter, [], 0⟩] scope gpos) X.env) :: backTo pos (starEach [] X.env))) _ _ s
  refine Calls.spliced_cons (gen_seq (R := fun a xs g H1 => ∃ f : Nat → Bool, (∀ i, g i = .bl (f i)) ∧ ∀ H2, ExtN H1 H2 → Tabs T H2 → Q (.bl ((List.range xs.length).any f)) H2) hr TB hcode hmT hu (gs_by S) hN hix hdot hi hel hs I h (fun v H1 ⟨a, xs, f, e1, e2, e3, e4, e5⟩ => ⟨a, xs, fun i => .bl (f i), e1, e2, e3, e4, f, fun _ => rfl, e5⟩) fun a xs g H1 gg s5 hR hG => ?_)
  · obtain ⟨fp, wr, G, F, St, W, hst, hfp, hF, hI⟩ := hG
    obtain ⟨f, hf, hR⟩ := hR
    refine Calls.spliced_nil ?_
    refine call_any_walkS (W.self 0 _ _ _ hst ⟨gg, fp, wr, G, _, F, St, f, rfl, W, hst, fun i v s' Q' E' hv hq => ?_, fun s' hmv => ?_⟩)
    · obtain ⟨_, r⟩ := hF i v hv
      rw [hf] at r
      obtain rfl : v = Value.bool (f i) := r
      exact wpAny_truthy_bool hq
    · obtain ⟨H2, hE, hT, J⟩ := hI s' hmv
      exact ⟨.bl _, H2, J, rfl, hR H2 hE hT⟩
end
end Cn
namespace Cn
open PySem PySem.Spec PyProof.Rows L2 LamX
/-- a global int -/
theorem pe_gint {X : Cx} {x : Str} {i : Int} {p : Pos} (h : ∃ t, X.mg x = some (.int i t)) (hg : Gl X x := by rfl) (hdb : (x == ("__debug__" : Str)) = false := by decide) : PE X (.Name x p) (tC (.int i)) := by
  obtain ⟨t, ht⟩ := h
  exact pe_glob hg ht (v := .int i) ⟨_, rfl⟩ hdb
/-! ### a < b < c < .. as a test -/
/-- the links behind the value x -/
def PCh (X : Cx) (ops : List CmpOp) (es : List Expr) (t : V → TT) : Prop :=
  ∀ (pos : Pos) (pins : List (Addr × Obj)) (s : Shared) (σ : L2.St) (H : Hp) (x : V) (v : Value) (Q : Bool → Hp → Prop), Inv X pins σ H s → RelV x v → t x σ H Q → wpAny (model X.prog X.w) X.A (testChain pos v ops (evalEach es X.env)) (TP X pins σ Q) X.xe s
def tLast (r : R2) (tb : TE) (x : V) : TT := fun σ H Q => tb σ H fun y H1 => r x y H1 fun z H2 => ∃ k, z = .bl k ∧ Q k H2
def tLink (r : R2) (tb : TE) (t : V → TT) (x : V) : TT := fun σ H Q => tb σ H fun y H1 => r x y H1 fun z H2 => ∃ k, z = .bl k ∧ if k = true then t y σ H2 Q else Q false H2
section
variable {X : Cx} {op op' : CmpOp} {ops : List CmpOp} {a b c : Expr} {es : List Expr} {r : R2} {ta tb : TE} {t : V → TT} {pos : Pos}
theorem ch_last (ho : OpR X (compareOp op) r) (hb : PE X b tb) : PCh X [op] [b] (tLast r tb) := by
  intro pos pins s σ H x v Q I rx h
  refine test_last (thn (hb.run pins s σ H _ I h) fun u s1 ⟨y, H1, I1, r1, q1⟩ => thn (ho pins s1 σ H1 x y v u _ I1 rx r1 q1) fun d s2 ⟨z, H2, I2, r2, k, e, q2⟩ => ?_)
  subst e
  cases r2
  exact wpAny_truthy_bool ⟨H2, I2, q2⟩
theorem ch_link (ho : OpR X (compareOp op) r) (hb : PE X b tb) (hr : PCh X (op' :: ops) (c :: es) t) : PCh X (op :: op' :: ops) (b :: c :: es) (tLink r tb t) := by
  intro pos pins s σ H x v Q I rx h
  refine test_link (thn (hb.run pins s σ H _ I h) fun u s1 ⟨y, H1, I1, r1, q1⟩ => thn (ho pins s1 σ H1 x y v u _ I1 rx r1 q1) fun d s2 ⟨z, H2, I2, r2, k, e, q2⟩ => ?_)
  subst e
  cases r2
  refine wpAny_truthy_bool ?_
  cases k with
  | false => exact ite_ff ⟨H2, I2, q2⟩
  | true => exact ite_tt (hr pos pins s2 σ H2 y u Q I2 r1 q2)
theorem pt_ch (ha : PE X a ta) (h : PCh X (op :: op' :: ops) (b :: c :: es) t) (hm : lastMarks (op :: op' :: ops) (b :: c :: es) = false := by with_unfolding_all rfl) :
    PT X (.Compare a (op :: op' :: ops) (b :: c :: es) pos) (fun σ H Q => ta σ H fun x H1 => t x σ H1 Q) := by
  refine ⟨fun pins s σ H Q I hw => ?_⟩
  exact isTrue_chain (thn (ha.run pins s σ H _ I hw) fun v s1 ⟨x, H1, I1, r1, q1⟩ => h _ pins s1 σ H1 x v Q I1 r1 q1) hm
end
/-! ### a, b, c = x, y, z -/
def tPar3 (i j l : Nat) (ta : TA) : TS := fun D σ H => ta σ H fun vs H1 => ∃ v w u, vs = [v, w, u] ∧ D.nx (((σ.set i (some v)).set j (some w)).set l (some u)) H1
theorem ps_par3 {X : Cx} {i j l : Nat} {x y z : Str} {a b c : Expr} {ta : TA} {px py pz pt pos : Pos} {kt k2 pt2} (hc : X.calm = true) (hN : X.N.Nodup) (hi : X.N[i]? = some x) (hj : X.N[j]? = some y) (hl : X.N[l]? = some z) (hij : i ≠ j) (hil : i ≠ l) (hjl : j ≠ l)
    (hx : X.env.scope.names.lookup x = some .local) (hy : X.env.scope.names.lookup y = some .local) (hz : X.env.scope.names.lookup z = some .local) (ha : PA X [a, b, c] ta)
    (hw : swappedStores [.Tuple [.Name x px, .Name y py, .Name z pz] kt pt] (.Tuple [a, b, c] k2 pt2) X.env = pure (some [x, y, z]))
    (hs : swapsWithSole [.Tuple [.Name x px, .Name y py, .Name z pz] kt pt] (.Tuple [a, b, c] k2 pt2) pos.line X.env = pure false := by rfl) :
    PS X (.Assign [.Tuple [.Name x px, .Name y py, .Name z pz] kt pt] (.Tuple [a, b, c] k2 pt2) pos) (tPar3 i j l ta) := by
  refine ⟨fun pins s σ H D I h => ?_⟩
  rw [exec_Assign_arm]
  refine wpAny_bind (wpAny_standAt ?_)
  rw [hs]
  refine wpAny_bind (wpAny_pure ?_)
  rw [if_neg (by decide)]
  refine wpAny_bind (Tuple_ (thn (ha.run _ pins s σ H _ I h) fun us s1 ⟨vs, H1, I1, r1, q1⟩ => ?_))
  obtain ⟨v, w, u, e1, q1⟩ := q1
  subst e1
  obtain ⟨u1, u2, u3, rfl, rv, rw', ru⟩ : ∃ u1 u2 u3, us = [u1, u2, u3] ∧ RelV v u1 ∧ RelV w u2 ∧ RelV u u3 := by
    cases r1 with
    | cons p q =>
      cases q with
      | cons p' q' =>
        cases q' with
        | cons p'' q'' =>
          cases q''
          exact ⟨_, _, _, rfl, p, p', p''⟩
  refine wpAny_newObj_type ?_ (by show 3 ≤ sizeLine; decide)
  have I2 : Inv X pins σ H1 { s1 with heap := s1.heap.push { cls := .type "tuple", data := .seq [u1, u2, u3].toArray } } := I1.kept (t' := s1.toks) fun b o e => Heap.get?_push_of_some _ e
  rw [hw]
  refine wpAny_bind (wpAny_pure ?_)
  show wpAny (model X.prog X.w) X.A (do rule "assign.swapped-stores"; let items ← unpackItems (.ref s1.heap.objs.size) 3 none; assignInOrder [fun v => bindName X.env z v, fun v => bindName X.env y v, fun v => bindName X.env x v] items.reverse; pure Flow.next) _ _ _
  refine wpAny_bind (wpAny_rule (wpAny_bind (unpackItems_tuple (items := #[u1, u2, u3]) (I.ok.hd hc) (IsTup.new s1.heap _) fun h' hx' => ?_)))
  have I3 := I2.kept (h' := h') (t' := s1.toks) fun b o e => hx' b o (Nat.ne_of_lt (Heap.lt_size e)) e
  show wpAny _ _ (assignInOrder [fun v => bindName X.env z v, fun v => bindName X.env y v, fun v => bindName X.env x v] [u3, u2, u1] >>= fun _ => pure Flow.next) _ _ _
  refine wpAny_bind (assignInOrder_cons (wpAny_bindName (store_ok I3 hN hl (.inl hz) ru (fun s2 I4 => ?_) (.inr hz))))
  refine assignInOrder_cons (wpAny_bindName (store_ok I4 hN hj (.inl hy) rw' (fun s3 I5 => ?_) (.inr hy)))
  refine assignInOrder_cons (wpAny_bindName (store_ok I5 hN hi (.inl hx) rv (fun s4 I6 => assignInOrder_nil (wpAny_pure ?_)) (.inr hx)))
  have e : ((σ.set l (some u)).set j (some w)).set i (some v) = ((σ.set i (some v)).set j (some w)).set l (some u) := by
    rw [List.set_comm _ _ (Ne.symm hjl), List.set_comm _ _ (Ne.symm hil), List.set_comm _ _ (Ne.symm hij)]
  rw [e] at I6
  exact ⟨_, H1, I6, q1⟩
/-! ### == with an empty tuple or list -/
/-- a tuple == () -/
def rEqT0 (K : PySem.W.Frag) : R2 := fun x y H Q => ∃ a b xs, x = .ref a ∧ y = .ref b ∧ SqT K H a xs ∧ SqT K H b [] ∧ Q (.bl xs.isEmpty) H
theorem op_eqT0 {X : Cx} (hu : X.A.units < cLine) : OpR X (compareOp .Eq) (rEqT0 X.K) := by
  intro pins s σ H x y v u Q I rx ry h
  obtain ⟨a, b, xs, rfl, rfl, h1, h2, q⟩ := h
  obtain rfl : v = Value.ref a := rx
  obtain rfl : u = Value.ref b := ry
  obtain ⟨its, rv, p, _⟩ := I.tuple h1
  obtain ⟨its2, rv2, p2, _⟩ := I.tuple h2
  have e2 : its2 = [] := by cases rv2; rfl
  subst e2
  refine PySem.SeqAt.eq_tupleAt (e := fun _ => true) (show s.heap.IsTuple a its.toArray from p) (show s.heap.IsTuple b ([] : List Value).toArray from p2) hu (fun j h3 h4 => absurd h4 (by simp)) ⟨.bl _, H, I, ?_, q⟩
  show Value.bool _ = Value.bool _
  cases rv <;> simp
/-! ### frames: what a call leaves as it was -/
/-- all that stood stands but what is in S (and the tables, which only grow) -/
structure Fr (T : List (Addr × Str)) (S : List Addr) (H H' : Hp) : Prop where
  keep : ∀ b o, H b = some o → (∀ ps, o ≠ .tbl ps) → b ∉ S → H' b = some o
  tab : Tabs T H → Tabs T H'
section
variable {T : List (Addr × Str)} {S S' : List Addr} {H H1 H2 : Hp} {a p : Addr} {o u : HO}
theorem Fr.refl : Fr T S H H := ⟨fun _ _ h _ _ => h, fun h => h⟩
theorem Fr.mono (f : Fr T S H H1) (h : ∀ b ∈ S, b ∈ S') : Fr T S' H H1 := ⟨fun b o e n hb => f.keep b o e n fun z => hb (h b z), f.tab⟩
theorem Fr.trans (f : Fr T S H H1) (g : Fr T S H1 H2) : Fr T S H H2 := ⟨fun b o e n hb => g.keep b o (f.keep b o e n hb) n hb, fun h => g.tab (f.tab h)⟩
/-- behind a first frame also what is new may be written -/
theorem Fr.transN (f : Fr T S H H1) (g : Fr T S' H1 H2) (h : ∀ b ∈ S', b ∈ S ∨ H b = none) : Fr T S H H2 := ⟨fun b o e n hb => g.keep b o (f.keep b o e n hb) n fun z => (h b z).elim hb (fun q => absurd (q.symm.trans e) (by intro w; cases w)), fun h => g.tab (f.tab h)⟩
theorem Fr.of_ext (e : ExtN H H1) (t : Tabs T H → Tabs T H1) : Fr T S H H1 := ⟨fun b o h n _ => e b o h n, t⟩
theorem Fr.new (h : H p = none) : Fr T S H (upd H p o) := ⟨fun b u e _ _ => by rw [upd_ne (ne_of_none e h)]; exact e, fun t => t.ext fun b u e => by rw [upd_ne (ne_of_none e h)]; exact e⟩
/-- what may be written: no table, no code object -/
def Dat : HO → Bool
  | .lst _ | .tup _ | .dK _ | .dT _ | .set _ _ | .ins _ _ _ | .own _ | .met _ _ | .rng _ _ | .xd _ => true
  | _ => false
theorem Fr.upd (h : H a = some o) (d : Dat o = true) (ha : a ∈ S) : Fr T S H (upd H a u) := by
  have nt : ∀ ps, H a ≠ some (.tbl ps) := fun ps z => by
    rw [h] at z
    cases z
    cases d
  have nc : ∀ c q, H c = some (CodeO c q) → c ≠ a := fun c q z e => by
    rw [e, h] at z
    have z' : o = CodeO a q := Option.some.inj z
    rw [z'] at d
    unfold CodeO at d
    cases d
  refine ⟨fun b v e _ hb => ?_, fun t p hp => ?_⟩
  · rw [upd_ne (fun z => hb (by rw [z]; exact ha))]
    exact e
  · obtain ⟨ps, h1, h2, h3⟩ := t p hp
    refine ⟨ps, by rw [upd_ne (fun z => nt ps (by rw [← z]; exact h1))]; exact h1, h2, fun pos cv hc => ?_⟩
    obtain ⟨c, e1, e2⟩ := h3 pos cv hc
    exact ⟨c, e1, by rw [upd_ne (nc _ _ e2)]; exact e2⟩
/-- a new instance and its dict -/
theorem Fr.make {x dx : Addr} (nx : H x = none) (ndx : H dx = none) (hne : dx ≠ x) : Fr T S H (L2.upd (L2.upd H dx (.own x)) x o) := (Fr.new ndx).trans (Fr.new ((upd_ne (Ne.symm hne)).trans nx))
/-- nothing but perhaps a table stands at b -/
def Nw (H : Hp) (b : Addr) : Prop := ∀ o, H b = some o → ∃ ps, o = .tbl ps
theorem Nw.none {b : Addr} (h : H b = Option.none) : Nw H b := fun o e => by
  rw [h] at e
  cases e
theorem Nw.of {b : Addr} (f : Fr T S H H1) (h : H1 b = Option.none) (hb : b ∉ S) : Nw H b := fun o e => by
  by_cases z : ∃ ps, o = .tbl ps
  · exact z
  · have := f.keep b o e (fun ps w => z ⟨ps, w⟩) hb
    rw [h] at this
    cases this
theorem Fr.transW (f : Fr T S H H1) (g : Fr T S' H1 H2) (h : ∀ b ∈ S', b ∈ S ∨ Nw H b) : Fr T S H H2 := ⟨fun b o e n hb => g.keep b o (f.keep b o e n hb) n fun z => (h b z).elim hb (fun q => let ⟨ps, w⟩ := q o e; n ps w), fun h => g.tab (f.tab h)⟩
theorem Fr.l (f : Fr T S H H1) {xs : List V} (h : H a = some (.lst xs)) (ha : a ∉ S) : H1 a = some (.lst xs) := f.keep a _ h (fun _ z => by cases z) ha
theorem Fr.t (f : Fr T S H H1) {xs : List V} (h : H a = some (.tup xs)) (ha : a ∉ S) : H1 a = some (.tup xs) := f.keep a _ h (fun _ z => by cases z) ha
theorem Fr.i (f : Fr T S H H1) {C dx : Addr} {fs : List (Str × V)} (h : H a = some (.ins C dx fs)) (ha : a ∉ S) : H1 a = some (.ins C dx fs) := f.keep a _ h (fun _ z => by cases z) ha
theorem Fr.d (f : Fr T S H H1) {kvs : List (Key × V)} (h : H a = some (.dK kvs)) (ha : a ∉ S) : H1 a = some (.dK kvs) := f.keep a _ h (fun _ z => by cases z) ha
theorem Fr.free (f : Fr T S H H1) (h : H1 p = none) (hp : p ∉ S) (ht : ∀ ps, H p ≠ some (.tbl ps)) : H p = none := by
  cases q : H p with
  | none => rfl
  | some o =>
    have := f.keep p o q (fun ps z => ht ps (by rw [q, z])) hp
    rw [h] at this
    cases this
end
/-- a def by its body, its code object told -/
theorem mk_prT {P : Program} {w : World} {K : PySem.W.Frag} {mg : Str → Option Value} {base : Heap} {d : He.DefD} {N ps : List Str} {k : Nat} {sp : Sp} (F : ∃ fd, FunD K d.name d.qual d.params d.body d.scope (d.dvs K) (d.kws K) (He.fAd K d.at_) fd) (hd : d.dfl = []) (S : FnScope N ps d.scope)
    (hb : ∀ (kV doc pm : Value) (an : Option Addr) (cdv ct : Value) (us : List Value), us.length = ps.length → bindArgs (PySem.W.fnOf d.name d.qual d.params d.body d.scope .none kV doc pm an cdv ct) ⟨us, []⟩ = pure (ps.zip us))
    (len : ∀ vs H Q E, sp vs H Q E → vs.length = ps.length)
    (hbody : ∀ (A : Around) (outer : List Env) (s : Shared) (H : Hp) (vs : List V) (Q : VK) (E : XK), Room k (A.deeper (envOfC d.qual d.scope s.heap.objs.size (He.fAd K d.at_) (.ref (He.cT K d.at_).1))) → sp vs H Q E →
      ∃ t, PSs (cxOf (L2.CX P w) P w K mg base N d.qual d.scope (He.fAd K d.at_) (.ref (He.cT K d.at_).1) A outer s H E) d.body t ∧ t { nx := fun _ H' => Q .non H', rt := Q } (start N vs) H) : Pr P w K mg base (k + 1) (He.fAd K d.at_) ps sp := by
  obtain ⟨fd, F⟩ := F
  have e : d.dvs K = [] := by unfold He.DefD.dvs; rw [hd] <;> rfl
  have kp := F.kp
  have b : Binds K fd ps [] := by
    rw [e] at F
    exact FunD.bindsN F hb
  obtain ⟨oc, od, dV, kV, doc, pm, an, cdv, ct, osl, rfl, lk, hcd, _, _⟩ := F.ex
  obtain ⟨c, rfl⟩ := He.codeIn_ref hcd
  have ec : He.codeOf K d.at_ = c := He.codeOf_eq lk rfl
  refine ⟨⟨_, fn_of lk hcd S len fun A outer s H vs Q E hr hsp => ?_, b⟩, kp⟩
  have q := hbody A outer s H vs Q E
  have e1 : (He.cT K d.at_).1 = c := ec
  rw [e1] at q
  exact q hr hsp
/-- no two tables are one -/
theorem tab_uniq {T : List (Addr × Str)} (h : (T.map (·.1)).Nodup) {a : Addr} {q : Str} (hm : (a, q) ∈ T) : ∀ p ∈ T, p.1 = a → p.2 = q := by
  induction T with
  | nil => cases hm
  | cons p0 r ih =>
    rw [List.map_cons, List.nodup_cons] at h
    intro p hp e
    rcases List.mem_cons.mp hp with rfl | hp
    · rcases List.mem_cons.mp hm with z | z
      · rw [← z]
      · exact absurd (List.mem_map.mpr ⟨_, z, e.symm⟩) h.1
    · rcases List.mem_cons.mp hm with z | z
      · exact absurd (List.mem_map.mpr ⟨p, hp, by rw [e, ← z]⟩) h.1
      · exact ih h.2 z p hp e
end Cn
/-! enumerate(tuple) -/
namespace Cn
open PySem PySem.Spec PyProof.Rows L2
open AutoSeq1 (wpAny_loadPart')
theorem meets_enT (l : Addr) (items : Array Value) :
    Meets (Builtin.«enumerate.__new__» ⟨[.type "enumerate", .ref l], []⟩) (fun _ R s => s.heap.IsTuple l items ∧
      R (.ok (.ret (.ref (s.heap.push { cls := .type "tuple_iterator", data := .fields #[.ref l, .int 0 0] }).objs.size)))
        { s with heap := (s.heap.push { cls := .type "tuple_iterator", data := .fields #[.ref l, .int 0 0] }).push { cls := .type "enumerate", data := .fields #[.none, .bool false, .ref s.heap.objs.size, rawInt 0, .none, .none] } }) :=
  .of_wp fun prog w A R s h => by
    obtain ⟨hp, g, d, tk, os⟩ := s; obtain ⟨hL, h⟩ := h
    have hsub := sub_enumerate
    obtain ⟨o, hl, hc, n, hd⟩ := id hL
    wp_walk using wpAny_loadPart' hl
    refine wpAny_stack_any fun st => wpAny_pure ?_
    split
    · rename_i c _ _ _ _ _
      cases (c == Value.type "enumerate")
      · wp_walk using wpAny_loadPart' hl, wpAny_pyIter_tuple hL
        exact ⟨_, rfl, h⟩
      · wp_walk using wpAny_loadPart' hl, wpAny_pyIter_tuple hL
        exact ⟨_, rfl, h⟩
    · wp_walk using wpAny_loadPart' hl, wpAny_pyIter_tuple hL
      exact ⟨_, rfl, h⟩
section
variable {prog : Program} {w : World} {A : Around} {E : Value → Shared → Prop} {s : Shared}
theorem call_enT {l : Addr} {items : Array Value} {Q : Value → Shared → Prop} (hL : s.heap.IsTuple l items)
    (h : ∀ h', IsEnum h' (s.heap.objs.size + 1) s.heap.objs.size 0 .none → h'.IsTupleIter s.heap.objs.size l 0 → h'.objs.size = s.heap.objs.size + 2 →
      (∀ b o, s.heap.get? b = some o → h'.get? b = some o) → Q (.ref (s.heap.objs.size + 1)) { s with heap := h' }) :
    wpAny (model prog w) A (call (.type "enumerate") [.ref l]) Q E s := by
  refine callType_new F.called_enumerate (by decide) (F.typeCall_enumerate_1 _) (F.newCall_enumerate_1 _) (fun obj => F.args_object_init_2 obj _) F.entry_enumerate_new
    (meets_enT l items) ⟨hL, ?_⟩
  have hz : (s.heap.push { cls := .type "tuple_iterator", data := .fields #[.ref l, .int 0 0] }).objs.size = s.heap.objs.size + 1 := Heap.size_push ..
  show _ ∧ _
  rw [hz]
  have he : IsEnum ((s.heap.push { cls := .type "tuple_iterator", data := .fields #[.ref l, .int 0 0] }).push
      { cls := .type "enumerate", data := .fields #[.none, .bool false, .ref s.heap.objs.size, rawInt 0, .none, .none] }) (s.heap.objs.size + 1) s.heap.objs.size 0 .none := by
    have := Heap.get?_push_size (s.heap.push { cls := .type "tuple_iterator", data := .fields #[.ref l, .int 0 0] })
      (o := { cls := .type "enumerate", data := .fields #[.none, .bool false, .ref s.heap.objs.size, rawInt 0, .none, .none] }) rfl
    rw [hz] at this; exact this
  refine ⟨⟨_, he, rfl⟩, h _ he ⟨_, Heap.get?_push_of_some _ (Heap.get?_push_size _ rfl), rfl, rfl⟩ (by rw [Heap.size_push, hz]) fun b o x => Heap.get?_push_of_some _ (Heap.get?_push_of_some _ x)⟩
end
/-- the tuple at a, each item in a new pair -/
def IteT (K : PySem.W.Frag) (a : Addr) : It :=
  ⟨fun i H => ∃ (xs : List V) (x : V), SqT K H a xs ∧ xs[i]? = some x, fun i H v H' => ∃ T x, v = .ref T ∧ H T = none ∧ H' = upd H T (.tup [.int (i : Nat), x]) ∧ ∀ xs, SqT K H a xs → xs[i]? = some x, fun i H => ∃ xs : List V, SqT K H a xs ∧ xs.length ≤ i⟩
theorem turn_enT {P : Program} {w : World} {K : PySem.W.Frag} {elts : List Expr} {kk : Nat} {tpos : Pos} (a e it : Addr) :
    Turn P w K (.Tuple elts kk tpos) (IteT K a) [e, it] e (fun i h => (∃ old, IsEnum h e it ((i : Nat) : Int) old) ∧ h.IsTupleIter it a i ∧ e ≠ it) where
  mem := by simp
  obj := fun i h st b hb => by
    obtain ⟨⟨old, he⟩, ⟨o, ho, hc, hd⟩, _⟩ := st
    have e' : b = e ∨ b = it := by simpa using hb
    rcases e' with z | z
    · rw [z]; exact ⟨_, he, fun v q => nomatch q⟩
    · rw [z]; exact ⟨o, ho, fun v q => by rw [hd] at q; cases q⟩
  keep := fun i h h' st k => let ⟨⟨old, he⟩, hi, hne⟩ := st; ⟨⟨old, k e (by simp) _ he⟩, hi.at fun o q => k it (by simp) o q, hne⟩
  item := by
    intro X hP hw hK hc i pins s σ H E I hf st hg
    subst hP hw hK
    obtain ⟨⟨old, he⟩, hit, hne⟩ := st
    obtain ⟨xs, x, hq, hx⟩ := hg
    obtain ⟨its, rv, p, hz⟩ := I.tuple hq
    obtain ⟨u, hu, ru⟩ := rv.get hx
    have ht : s.heap.IsTuple a its.toArray := p
    have hel : e < s.heap.objs.size := Heap.lt_size he
    have hil : it < s.heap.objs.size := by obtain ⟨_, q, _⟩ := hit; exact Heap.lt_size q
    have nf : H it = none := (hf it (by simp)).1
    have nfe : H e = none := (hf e (by simp)).1
    have hai : a ≠ it := fun z => by
      obtain ⟨o1, g1, c1, _⟩ := hit
      obtain ⟨o2, g2, c2, _⟩ := ht
      rw [z, g1] at g2
      cases g2
      rw [c1] at c2
      exact absurd c2 (by decide)
    have hae : e ≠ a := fun z => by
      obtain ⟨o2, g2, c2, _⟩ := ht
      have he' : s.heap.get? e = _ := he
      rw [z, g2] at he'
      cases he'
      exact absurd (show Value.type "enumerate" = .type "tuple" from c2) (by decide)
    have i0 : i < its.toArray.size := by
      have := List.getElem?_eq_some_iff.mp hu
      obtain ⟨h1, _⟩ := this
      simpa using h1
    refine wpAny_pyNext_enum_itemD (Draws.tuple (show (Around.in1 X.A).handled = none from I.ok.hd hc) it a hai its.toArray) he ⟨hit, ht⟩ i0 hne (by simp [hne, hae]) fun x' h' tk hP' ho hst hT hsz hk => ?_
    obtain ⟨hit', ht'⟩ := hst
    have ex : x' = u := by
      have : its[i]? = some x' := by simpa using hP'
      rw [hu] at this
      exact (Option.some.inj this).symm
    subst ex
    refine ⟨_, rfl, wpAny_letOwnedTupleGo_enum (s := { s with heap := h', toks := tk + 1 }) ho fun h'' he' sb => ?_⟩
    have hT2 : h''.get? s.heap.objs.size = some { cls := .type "tuple", data := .seq #[.int i tk, x'] } := (sb.2 _ (Nat.ne_of_gt hel)).trans hT
    have new : ObjOk X.prog X.w (upd H s.heap.objs.size (.tup [.int (i : Nat), x])) h'' s.heap.objs.size (.tup [.int (i : Nat), x]) :=
      ⟨by show 2 ≤ sizeLine; decide, [.int i tk, x'], .cons ⟨_, rfl⟩ (.cons ru .nil), ⟨_, hT2, rfl, _, rfl⟩⟩
    have I1 : Inv X pins σ (upd H s.heap.objs.size (.tup [.int (i : Nat), x])) { s with heap := h'', toks := tk + 1 } :=
      I.turnedNew (ch := [e, it]) (fun b ob hb q => (sb.2 b (fun z => hb (by simp [z]))).trans (hk b ob (fun z => hb (by simp [z])) (fun z => hb (by simp [z])) q)) hf (Nat.le_refl _) new
    refine ⟨.ref s.heap.objs.size, _, I1, rfl, ⟨_, x, rfl, I.hok.fresh (Nat.le_refl _), rfl, fun ys hy => by rw [I.tuple_inj hy hq]; exact hx⟩, ⟨⟨x', ?_⟩, hit'.at fun o q => (sb.2 it (Ne.symm hne)).trans q, hne⟩, fun b hb => ?_⟩
    · have e1 : ((i + 1 : Nat) : Int) = (i : Int) + 1 := by omega
      rw [e1]; exact he'
    · have hb' : b < s.heap.objs.size := by
        have e' : b = e ∨ b = it := by simpa using hb
        rcases e' with z | z
        · rw [z]; exact hel
        · rw [z]; exact hil
      rw [upd_ne (Nat.ne_of_lt hb')]
      exact (hf b hb).1
  done := by
    intro X hP hw hK hc i pins s σ H E I hf st hg
    subst hP hw hK
    obtain ⟨⟨old, he⟩, hit, hne⟩ := st
    obtain ⟨xs, hq, hx⟩ := hg
    obtain ⟨its, rv, p, hz⟩ := I.tuple hq
    have ht : s.heap.IsTuple a its.toArray := p
    obtain ⟨f0, f1, f2, f3, f4, f5⟩ := hf it (by simp)
    have hl := rv.length
    have hT : s.TypeIs (.ref e) "enumerate" := ⟨_, he, rfl⟩
    unfold pyNext
    refine wpAny_bind (wpAny_attempt (wpAny_callSpecial?_slot (name := Str.ofString "__next__") hT F.slot_enumerate_next
      (wpAny_call_entry F.slot_enumerate_next hT F.entry_enumerate_next ?_ (F.args_enumerate_next_1 _))))
    show wpAny _ _ (field (.ref e) 2 >>= _) _ _ _
    refine wpAny_bind (wpAny_field he rfl (x := .ref it) rfl ?_)
    refine wpAny_bind (wpAny_nextOf_tuple_end (show (Around.in1 X.A).handled = none from I.ok.hd hc) hit ht (by simp; omega) fun h' x he' hx' => ?_)
    obtain ⟨o, ho, hc'⟩ := hx'
    refine wpAny_bind (wpAny_isInstance (T := "StopIteration") (b := true) ⟨o, ho, hc'⟩ isSubtype_stop ?_)
    exact wpAny_pure ⟨rfl, I.turned (t' := s.toks) (fun b o hb q => he' b o hb q) f0 f1 f3 f4 f5⟩
  self := fun A i s Q E st h => let ⟨⟨_, he⟩, _⟩ := st; wpAny_pyIter_enum he h
def iEnT (K : PySem.W.Frag) (ta : TA) : TI := fun σ H R => ta σ H fun vs H1 => ∃ a xs, vs = [.ref a] ∧ SqT K H1 a xs ∧ R (IteT K a) H1
theorem pi_enT {X : Cx} {e : Expr} {ta : TA} {p pos tpos : Pos} {elts : List Expr} {kk : Nat} (hg : Gl X "enumerate") (hm : X.mg "enumerate" = none) (ha : PA X [e] ta) (hs : starEach [e] X.env = [(false, eval e X.env)] := by rfl) :
    PI X (.Tuple elts kk tpos) (.Call (.Name "enumerate" p) [e] [] pos) (iEnT X.K ta) := by
  refine ⟨fun pins s σ H R I h => ?_⟩
  refine Call_ (ld_blt I hg hm boot_enumerate (PyProof.Rows.callWith_type1 (thn (ha.run pos pins s σ H _ I h) fun us s1 ⟨vs, H1, I1, r1, q1⟩ => ?_) hs rfl))
  obtain ⟨a, xs, ex, hq, q⟩ := q1
  subst ex
  cases r1 with
  | cons r rr =>
    cases rr
    cases r
    obtain ⟨its, rv, p', hz⟩ := I1.tuple hq
    refine call_enT (show s1.heap.IsTuple a its.toArray from p') fun h' he hit hsz hk => wpAny_pyIter_enum he ?_
    have I2 : Inv X pins σ H1 { s1 with heap := h' } := I1.kept (t' := s1.toks) hk
    refine ⟨s1.heap.objs.size + 1, [s1.heap.objs.size + 1, s1.heap.objs.size], _, _, H1, rfl, I2, turn_enT a (s1.heap.objs.size + 1) s1.heap.objs.size, ⟨⟨.none, he⟩, hit, Nat.succ_ne_self _⟩, fun b hb => ?_, q⟩
    have e' : b = s1.heap.objs.size + 1 ∨ b = s1.heap.objs.size := by simpa using hb
    have hle : s1.heap.objs.size ≤ b := by
      rcases e' with z | z
      · rw [z]; exact Nat.le_add_right _ _
      · rw [z]; exact Nat.le_refl _
    exact I1.fpOk hle (I1.hok.fresh hle)
theorem walk_enT {K : PySem.W.Frag} {a : Addr} {xs : List V} : Walk (IteT K a) xs.length (fun H => SqT K H a xs) (YPair (fun i => some (.int (i : Nat))) (fun i => xs[i]?)) := by
  refine ⟨fun i _ hi q => ⟨xs, xs[i], q, by simp [hi]⟩, fun _ q => ⟨xs, q, Nat.le_refl _⟩, fun i H v H' _ q y => ?_⟩
  obtain ⟨T, x, h1, h2, h3, h4⟩ := y
  exact ⟨T, .int (i : Nat), x, h1, h2, h3, rfl, h4 xs q⟩
end Cn
/-! lambdas without parameters as values: made, kept, handed to a def that calls them -/
namespace Cn
open PySem PySem.Spec PyProof.Rows L2 LamX
/-- the lambda at f -/
def LamO (f : Addr) (q : Str) (params : Arguments) (body : Expr) (scope : Scope) (cl : List (Str × Addr)) (c' : Addr) : HO := .ext fun h => ∃ pm ctv, h.get? f = some (PySem.W.kla_obj "<lambda>" q params body scope cl pm c' ctv)
theorem lamO_ne {f : Addr} {q : Str} {params : Arguments} {body : Expr} {scope : Scope} {cl : List (Str × Addr)} {c' : Addr} (ps : Array Value) : LamO f q params body scope cl c' ≠ .tbl ps := fun z => by
  unfold LamO at z
  cases z
/-- what the lambda captures, in a heap: the cells are there, and hold what the slots tell -/
structure CapAt (X : Cx) (scope : Scope) (σ : L2.St) (h : Heap) (H : Hp) : Prop where
  cell : ∀ y c, (y, NameKind.free) ∈ scope.names → X.env.cells.lookup y = some c → (∃ v, h.IsCell c v) ∧ H c = none
  val : ∀ (i : Nat) (y : Str) (v : V), X.N[i]? = some y → σ[i]? = some (some v) → (y, NameKind.free) ∈ scope.names → ∃ u c, RelV v u ∧ X.env.cells.lookup y = some c ∧ h.IsCell c (some u)
section
variable {X : Cx} {pins : List (Addr × Obj)} {σ : L2.St} {H H' HZ : Hp} {s s1 : Shared} {scope : Scope}
theorem CapAt.of (I : Inv X pins σ H s) (L : LamS X.env.scope scope) : CapAt X scope σ s.heap H where
  cell := fun y c _ e => ⟨I.cell y c e, I.freeC y c e⟩
  val := fun i y v e1 e2 hy => by
    have kk := L.free _ hy rfl
    obtain ⟨m, hn, hl⟩ := I.loc
    obtain ⟨u, r, l⟩ := hl i y v e1 e2 (.inr kk)
    rcases l with ⟨k', _⟩ | ⟨_, c, e, z⟩
    · have k' : X.env.scope.names.lookup y = some .local := k'
      rcases kk with k2 | k2 <;> rw [k2] at k' <;> cases k'
    · exact ⟨u, c, r, e, z⟩
theorem CapAt.un {fs ex : List Addr} {h h' : Heap} (C : CapAt X scope σ h H) (un : Un fs ex H H' h h') (hx : ∀ y c, X.env.cells.lookup y = some c → c ∉ ex) : CapAt X scope σ h' H' := by
  have go : ∀ {c : Addr} {v : Option Value}, H c = none → c ∉ ex → h.IsCell c v → h'.IsCell c v := fun {c v} n hc ⟨o, ho, hd⟩ => by
    obtain ⟨sl, q⟩ := un.any ho n hc
    exact ⟨_, q, hd⟩
  refine ⟨fun y c hy e => ?_, fun i y v e1 e2 hy => ?_⟩
  · obtain ⟨⟨v, z⟩, n⟩ := C.cell y c hy e
    obtain ⟨o, ho, hd⟩ := _root_.id z
    exact ⟨⟨v, go n (hx y c e) z⟩, un.free c o ho n (hx y c e)⟩
  · obtain ⟨u, c, r, e, z⟩ := C.val i y v e1 e2 hy
    obtain ⟨_, n⟩ := C.cell y c hy e
    exact ⟨u, c, r, e, go n (hx y c e) z⟩
/-- the lambda's body is entered -/
theorem lam_inv {A : Around} {outer : List Env} {E : XK} {f c' : Addr} {h₁ : Heap} {tk : Nat} (ok : X.Ok) (hlen : σ.length = X.N.length) (C : CapAt X scope σ s1.heap HZ) (L : LamS X.env.scope scope) (e0 : Env0 X.prog X.w X.K X.mg X.base A outer s1 HZ) (hd : A.handled = none)
    (hns : h₁.Ns s1.heap.objs.size fun y => ([] : List (Str × Value)).reverse.lookup y) (kp : ∀ b o, s1.heap.get? b = some o → h₁.get? b = some o) :
    Inv (lamCx X A outer s1 HZ E scope f c') [] σ HZ { s1 with heap := h₁, toks := tk } := by
  have hfree := L.has ok
  have cm : ∀ {y c}, (cloFrom X.env.cells scope.names []).lookup y = some c → (y, NameKind.free) ∈ scope.names ∧ X.env.cells.lookup y = some c := fun {y c} e => by
    refine ⟨?_, clo_back hfree e⟩
    rcases cloFrom_mem (PySem.mem_of_lookup e) with hm | ⟨h1, _⟩
    · cases hm
    · exact h1
  have look : ∀ {y}, scope.names.lookup y = some .free → ∃ c, (cloFrom X.env.cells scope.names []).lookup y = some c := fun {y} hl => mem_lookup (cloFrom_has (cells := X.env.cells) (acc := []) (PySem.mem_of_lookup hl))
  have kc : ∀ {c : Addr} {v : Option Value}, s1.heap.IsCell c v → h₁.IsCell c v := fun {c v} ⟨o, ho, hd⟩ => ⟨o, kp _ _ ho, hd⟩
  have noA : ∀ b : Addr, b ∉ (lamCx X A outer s1 HZ E scope f c').ex := fun b z => absurd (show b ∈ ([] : List Addr) from z) (by simp)
  have okL : (lamCx X A outer s1 HZ E scope f c').Ok := by
    refine ⟨e0.mod, L.kind, rfl, rfl, Nat.le_refl _, fun y z c e1 e2 => ok.inj y z c (cm e1).2 (cm e2).2, fun y hy => ?_, fun y c z _ => (by cases (show false = true from z)), fun _ => hd, Around.frames_deeper e0.frames, .inr ⟨rfl, rfl⟩, fun b z => absurd z (noA b), e0.bs, e0.bsz, fun b _ _ => noA b, fun b z => absurd z (noA b), e0.funs, e0.frf⟩
    have hy : scope.names.lookup y = some .cell ∨ scope.names.lookup y = some .free := hy
    rcases hy with hy | hy
    · exact absurd rfl (L.own _ (PySem.mem_of_lookup hy)).2
    · exact look hy
  refine ⟨okL, rfl, e0.bare, Un.kept kp, ⟨_, hns, fun i y v e1 e2 e3 => ?_⟩, fun y c e => ?_, e0.hok.fresh (Nat.le_refl _), fun y c e => ?_, fun q hq => absurd (show q ∈ ([] : List (Addr × Obj)) ++ [] from hq) (by simp), e0.hok.kept kp, hlen⟩
  · have e3 : Vis scope y := e3
    rcases e3 with k | k | k
    · exact absurd rfl (L.own _ (PySem.mem_of_lookup k)).1
    · exact absurd rfl (L.own _ (PySem.mem_of_lookup k)).2
    · obtain ⟨c2, h2⟩ := look k
      obtain ⟨hy, c1⟩ := cm h2
      obtain ⟨u, c, r, e, z⟩ := C.val i y v e1 e2 hy
      rw [c1] at e
      cases e
      exact ⟨u, r, .inr ⟨.inr k, c2, h2, kc z⟩⟩
  · obtain ⟨hy, c1⟩ := cm e
    obtain ⟨⟨v, z⟩, _⟩ := C.cell y c hy c1
    exact ⟨v, kc z⟩
  · obtain ⟨hy, c1⟩ := cm e
    exact (C.cell y c hy c1).2
end
/-- a lambda as a value -/
def tLamV (T : List (Addr × Str)) (q : Str) (params : Arguments) (body : Expr) (scope : Scope) (cl : List (Str × Addr)) : TE := fun σ H Q => Tabs T H ∧
  ∀ f c' H1, H f = none → ExtN H H1 → Tabs T H1 → H1 f = some (LamO f q params body scope cl c') → H1 c' = some (CodeO c' q) → Q (.ref f) H1
section
variable {X : Cx}
theorem pe_lam {T : List (Addr × Str)} {c P : Addr} {params : Arguments} {body : Expr} {scope : Scope} {pos : Pos} (TB : TabB X.base X.mg c P) (hcode : X.env.code = .ref c) (hmT : (P, X.env.qual ++ "<lambda>") ∈ T) (hu : ∀ p ∈ T, p.1 = P → p.2 = X.env.qual ++ "<lambda>")
    (hL : lamSB X.env.scope scope = true) (hdef : defaultsOf params X.env = ([], [])) : PE X (.Lambda params body scope pos) (tLamV T (X.env.qual ++ "<lambda>") params body scope (cloFrom X.env.cells scope.names [])) := by
  refine ⟨fun pins s σ H Q I h => ?_⟩
  obtain ⟨hT, h⟩ := h
  obtain ⟨ps, hP, ht, hcs⟩ := hT _ hmT
  have L := lamS_by hL
  have gP : s.heap.get? P = some { cls := .none, data := .fields ps } := I.hok P _ hP
  refine PySem.W.kla_eval hdef ?_
  have bP : s.heap.BuiltinsAt X.mg P := TB.bm.keeps I.bk
  have fin : ∀ {Hx : Hp} {hp : Heap} {tk : Nat} {c' : Addr} {pm ctv : Value}, (∀ (h2 : Heap), (∀ b u, hp.get? b = some u → h2.get? b = some u) → Inv X pins σ Hx { s with heap := h2, toks := tk }) → s.heap.objs.size ≤ hp.objs.size → Hx hp.objs.size = none → ExtN H Hx → Tabs T Hx → Hx c' = some (CodeO c' (X.env.qual ++ "<lambda>")) →
      EP X pins σ Q (.ref hp.objs.size) { s with heap := hp.push (PySem.W.kla_obj "<lambda>" (X.env.qual ++ "<lambda>") params body scope (cloFrom X.env.cells scope.names []) pm c' ctv), toks := tk } := fun {Hx hp tk c' pm ctv} J le fr eN tN hc => by
    have J0 := J hp fun _ _ e => e
    have atf : (hp.push (PySem.W.kla_obj "<lambda>" (X.env.qual ++ "<lambda>") params body scope (cloFrom X.env.cells scope.names []) pm c' ctv)).get? hp.objs.size = some (PySem.W.kla_obj "<lambda>" (X.env.qual ++ "<lambda>") params body scope (cloFrom X.env.cells scope.names []) pm c' ctv) := Heap.get?_push_size _ rfl
    have J1 := J0.laid (a := hp.objs.size) (o := LamO hp.objs.size (X.env.qual ++ "<lambda>") params body scope (cloFrom X.env.cells scope.names []) c') (t' := tk) (h' := hp.push (PySem.W.kla_obj "<lambda>" (X.env.qual ++ "<lambda>") params body scope (cloFrom X.env.cells scope.names []) pm c' ctv))
      (fun b u e => Heap.get?_push_of_some _ e) (Nat.le_refl _) ⟨⟨pm, ctv, atf⟩, ⟨_, atf⟩, fun h1 h2 ⟨pm, ctv, z⟩ st => ⟨pm, ctv, st _ z⟩⟩
    have eF : ∀ b u, Hx b = some u → upd Hx hp.objs.size (LamO hp.objs.size (X.env.qual ++ "<lambda>") params body scope (cloFrom X.env.cells scope.names []) c') b = some u := fun b u e => by rw [upd_ne (ne_of_none e fr), e]
    exact ⟨.ref hp.objs.size, _, J1, rfl, h _ c' _ (I.hok.fresh le) (fun b o e n => eF _ _ (eN b o e n)) (tN.ext eF) upd_same (eF _ _ hc)⟩
  cases hc : codeAmong pos ps.toList with
  | some cv =>
    obtain ⟨c', rfl, hco⟩ := hcs pos cv hc
    refine PySem.W.kla_makeFunctionHit (mg := X.mg) (c := c) (P := P) (ps := ps) (closure_ok (L.has I.ok)) I.ok.glob (I.mod.glob.keeps I.bk) hcode (TB.code.keeps I.bk) gP ht hc bP fun ctv h' tk hx hsz => ?_
    exact fin (fun h2 k => I.kept fun b u e => k b u (hx b u e)) hsz (I.hok.fresh hsz) (ExtN.refl H) hT hco
  | none =>
    refine PySem.W.kla_makeFunction (mg := X.mg) (c := c) (P := P) (ps := ps) (closure_ok (L.has I.ok)) I.ok.glob (I.mod.glob.keeps I.bk) hcode (TB.code.keeps I.bk) gP ht hc TB.gP bP fun c' ctv h' tk hx hge hlt hrec htb => ?_
    obtain ⟨c2, oc, vs, t, e2, hoc, hd, hv⟩ := hrec
    cases e2
    have nC : H c' = none := I.hok.fresh hge
    have nPc : P ≠ c' := ne_of_none hP nC
    have hE : ExtN H (upd (upd H P (.tbl (ps ++ #[rawInt pos.line, rawInt pos.col, .ref c']))) c' (CodeO c' (X.env.qual ++ "<lambda>"))) := fun b u e n => by
      have n1 : b ≠ P := fun z => n ps (by rw [z, hP] at e; exact (Option.some.inj e).symm)
      rw [upd_ne (ne_of_none e nC), upd_ne n1, e]
    have eL : (ps ++ #[rawInt pos.line, rawInt pos.col, .ref c']).toList = ps.toList ++ [rawInt pos.line, rawInt pos.col, .ref c'] := by simp
    have hTn : Tabs T (upd (upd H P (.tbl (ps ++ #[rawInt pos.line, rawInt pos.col, .ref c']))) c' (CodeO c' (X.env.qual ++ "<lambda>"))) := fun p hp => by
      obtain ⟨p1, p2⟩ := p
      by_cases hb : p1 = P
      · obtain rfl : p2 = X.env.qual ++ "<lambda>" := hu _ hp hb
        subst hb
        refine ⟨_, by rw [upd_ne nPc, upd_same], by rw [eL]; exact PySem.TriplesOk_snoc _ _ _ _ ht, fun pp cv hcv => ?_⟩
        rw [eL] at hcv
        rcases among_app _ ht hcv with z | z
        · obtain ⟨c0, z1, z2⟩ := hcs pp cv z
          exact ⟨c0, z1, hE c0 _ z2 codeO_ne⟩
        · exact ⟨c', z, upd_same⟩
      · obtain ⟨ps', a1, a2, a3⟩ := hT _ hp
        refine ⟨ps', by rw [upd_ne (ne_of_none a1 nC), upd_ne hb, a1], a2, fun pp cv hcv => ?_⟩
        obtain ⟨c0, z1, z2⟩ := a3 pp cv hcv
        exact ⟨c0, z1, hE c0 _ z2 codeO_ne⟩
    have le : s.heap.objs.size ≤ h'.objs.size := Nat.le_trans hge (Nat.le_of_lt hlt)
    refine fin (fun h2 k => inv_table (t' := tk) (h' := h2) (more := #[rawInt pos.line, rawInt pos.col, .ref c']) I hP (fun b o hb e => k _ _ (hx b o hb e)) (k _ _ htb) hge ⟨oc, vs, t, k _ _ hoc, hd, hv⟩) le ?_ hE hTn upd_same
    have n1 : h'.objs.size ≠ c' := Nat.ne_of_gt hlt
    have n2 : h'.objs.size ≠ P := Nat.ne_of_gt (Nat.lt_of_lt_of_le (Heap.lt_size gP) le)
    rw [upd_ne n1, upd_ne n2]
    exact I.hok.fresh le
end
end Cn
namespace Cn
open PySem PySem.Spec PyProof.Rows L2 LamX
/-- a context beside X: the def's own block, a comprehension's -/
abbrev sib (X : Cx) (s0 : Shared) (H0 : Hp) (env : Env) (outer : List Env) (ex : List Addr) (fn : Str → Bool) (pn : List (Addr × Obj)) (xe : Value → Shared → Prop) : Cx := { X with s_0 := s0, H_0 := H0, env := env, outer := outer, ex := ex, fn := fn, pn := pn, xe := xe }
section
variable {X : Cx}
/-- x(), in the def that got the lambda, which is told by the heap; s, H: where that def was entered -/
theorem pe_actV {CXg : CXT} {Eg : XK} {Ng : List Str} {qg : Str} {sg : Scope} {g f c' : Addr} {cdg : Value} {params : Arguments} {body : Expr} {scope : Scope} {q : Str} {k : Nat} {a : Str} {pn : List (Addr × Obj)} {xe : Value → Shared → Prop} {W : WX} {E : XK} {tb : TE} {p1 p2 : Pos} {σ : L2.St} {H : Hp} {s : Shared}
    (ok : X.Ok) (hlen : σ.length = X.N.length) (C : CapAt X scope σ s.heap H) (L : LamS X.env.scope scope) (hq : q = X.env.qual ++ "<lambda>")
    (hbind : ∀ (pm ctv : Value), bindArgs (PySem.W.kla_fn "<lambda>" q params body scope (cloFrom X.env.cells scope.names []) pm (.ref c') ctv) ⟨[], []⟩ = pure [])
    (tk : Takes ((cxOf CXg X.prog X.w X.K X.mg X.base Ng qg sg g cdg X.A X.stack s H Eg).tr pn xe) W) (hW : ∀ cls d σ' H', E cls d H' → W cls d σ' H') (hr : Room (k + 1) (X.A.deeper (envOfC qg sg s.heap.objs.size g cdg)))
    (hbody : ∀ (A : Around) (outer : List Env) (s : Shared) (H : Hp), Room k (A.deeper (lamEnv X scope s.heap.objs.size f c')) → PE (lamCx X A outer s H E scope f c') body tb)
    (hN : Ng[0]? = some a) (hv : Vis sg a) (hd : (a == ("__debug__" : Str)) = false) (hcd : (a == ("__classdict__" : Str)) = false) :
    PE ((cxOf CXg X.prog X.w X.K X.mg X.base Ng qg sg g cdg X.A X.stack s H Eg).tr pn xe) (.Call (.Name a p1) [] [] p2)
      (fun σZ HZ Q => σZ[0]? = some (some (.ref f)) ∧ HZ c' = some (CodeO c' q) ∧ HZ f = some (LamO f q params body scope (cloFrom X.env.cells scope.names []) c') ∧ tb σ HZ Q) := by
  subst hq
  refine ⟨fun pinsZ sZ σZ HZ Q IZ h => ?_⟩
  obtain ⟨hs, hc, hf, ht⟩ := h
  refine wpAny_Call_Name_kw (thn ((pe_var (pos := p1) (i := 0) hN hv hd hcd).run pinsZ sZ σZ HZ (fun v H1 => v = .ref f ∧ H1 = HZ) IZ ⟨.ref f, hs, rfl, rfl⟩) fun u s1 ⟨v, H1, I1, r1, ev, eH⟩ => ?_)
  subst ev eH
  obtain rfl : u = Value.ref f := r1
  obtain ⟨⟨pm, ctv, of1⟩, _, _⟩ := I1.hok f _ hf
  refine PySem.W.callWith_F0 ⟨_, _, _, _, of1⟩ ?_
  have un : Un (frs X.stack) [] H H1 s.heap s1.heap := I1.base
  obtain ⟨⟨oc, vs, t, hoc, hdc, hvc⟩, _, _⟩ := I1.hok c' _ hc
  have C1 := C.un un fun _ _ _ z => nomatch z
  have e0 := I1.env0
  have rc : codeAny (model X.prog X.w) (X.A.deeper (envOfC qg sg s.heap.objs.size g cdg)) (.call (.ref f) ⟨[], []⟩) (CR (L2.CX X.prog X.w) (envOfC qg sg s.heap.objs.size g cdg :: X.stack) X.prog X.w H1 s1 Q E) s1 := by
    refine PySem.W.kla_callFunE hr.depth of1 rfl L.co L.gen rfl ⟨c', oc, vs, t, rfl, hoc, hdc, hvc⟩ ?_
    rw [hbind]
    refine wpAny_pure (wpAny_newFunctionEnv (fun y hy => (L.own y hy).2) (fun y hy => absurd hy (by simp)) (fun h₁ hns hsb => ⟨I1.nolimit.fresh _ hsb, ?_⟩) L.kind)
    have kp : ∀ b o, s1.heap.get? b = some o → h₁.get? b = some o := fun b o e => hsb.extBut b o (Nat.ne_of_lt (Heap.lt_size e)) (Heap.get?_push_of_some _ e)
    have J := lam_inv (f := f) (c' := c') (tk := s1.toks + ([] : List (Str × Value)).length) (E := E) ok hlen C1 L e0 hr.hd hns kp
    refine PySem.W.kla_codeExpr (wpAny_mono ((hbody _ _ s1 H1 (hr.deeper _)).run [] _ _ H1 Q J ht) (fun v s' ⟨w', H', J', rv, q⟩ => ?_) fun _ _ z => z)
    exact ⟨w', H', J'.os, J'.bare, J'.base, J'.hok, rv, q⟩
  have hx : Passes (L2.CX X.prog X.w) ((cxOf CXg X.prog X.w X.K X.mg X.base Ng qg sg g cdg X.A X.stack s H Eg).tr pn xe) E := passes_call tk hW
  refine wpAny_call (codeAny_mono rc fun r s' hq => ?_)
  match r, hq with
  | .error e, hq => exact hx pinsZ σZ H1 s1 e s' I1 hq
  | .ok (.ret u), hq => exact I1.after hq
  | .ok .next, hq => exact False.elim hq
  | .ok .brk, hq => exact False.elim hq
  | .ok .cont, hq => exact False.elim hq
end
/-- a def is handed the lambda that e gives, one of a family; sel: the slots of the lambda's maker -/
def tTold {ι : Type} (X : Cx) (CS : Addr) (ret q : Str) (sel : L2.St → L2.St) (params : ι → Arguments) (body : ι → Expr) (lsc : ι → Scope) (tb : ι → XK → TE) (te : TE) : TE := fun σ H Q => te σ H fun v H1 =>
  ∃ (i : ι) (f c' : Addr), v = .ref f ∧ H1 f = some (LamO f q (params i) (body i) (lsc i) (cloFrom X.env.cells (lsc i).names []) c') ∧ H1 c' = some (CodeO c' q) ∧
    TTold X.K CS ret (fun E H' Q' => tb i E (sel σ) H' Q') H1 Q
theorem pe_told {X : Cx} {s0 : Shared} {H0 : Hp} {env : Env} {outer : List Env} {ex : List Addr} {fn : Str → Bool} {pn : List (Addr × Obj)} {xe : Value → Shared → Prop} {ι : Type} {d : He.DefD} {CS : Addr} {x a q ret en : Str} {k j : Nat} {sel : L2.St → L2.St} {params : ι → Arguments} {body : ι → Expr} {lsc : ι → Scope} {tb : ι → XK → TE} {te : TE} {e : Expr} {p pos : Pos} {Ng : List Str} {jj : Nat} {q1 q2 q3 q4 q5 q6 q7 q8 : Pos}
    (F : ∃ fd, FunD X.K d.name d.qual d.params d.body d.scope (d.dvs X.K) (d.kws X.K) (He.fAd X.K d.at_) fd) (hdf : d.dfl = []) (hm : X.mg x = some (.ref (He.fAd X.K d.at_))) (hqx : d.qual = x) (hnx : d.name = x)
    (hb : ∀ (kV doc pm : Value) (an : Option Addr) (cdv ct : Value) (us : List Value), us.length = 1 → bindArgs (PySem.W.fnOf d.name d.qual d.params d.body d.scope .none kV doc pm an cdv ct) ⟨us, []⟩ = pure ([a].zip us))
    (Sg : FnScope Ng [a] d.scope) (hNg : Ng[0]? = some a) (h0 : ∀ f : Addr, (L2.start Ng [V.ref f])[0]? = some (some (V.ref f))) (hva : Vis d.scope a)
    (hbd : d.body = [.Try [.Return (some (.Call (.Name a q1) [] [] q2)) q3] [.ExceptHandler (some (.Name en q4)) none [.Return (some (.Constant (.str ret) jj q5)) q6] q7] [] [] q8])
    (hge : d.scope.names.lookup en = some .globalImplicit) (hme : X.mg en = some (.ref CS)) (hde : (en == ("__debug__" : Str)) = false)
    (hr : Room j X.A) (hkj : k + 2 ≤ j) (hq : q = X.env.qual ++ "<lambda>") (hL : ∀ i, lamSB X.env.scope (lsc i) = true)
    (hbind : ∀ (i : ι) (cl : List (Str × Addr)) (pm cv ctv : Value), bindArgs (PySem.W.kla_fn "<lambda>" q (params i) (body i) (lsc i) cl pm cv ctv) ⟨[], []⟩ = pure [])
    (hcap : ∀ pins σ' H s, Inv (sib X s0 H0 env outer ex fn pn xe) pins σ' H s → X.Ok ∧ (sel σ').length = X.N.length ∧ ∀ i, CapAt X (lsc i) (sel σ') s.heap H)
    (hbody : ∀ (i : ι) (A : Around) (outer : List Env) (s : Shared) (H : Hp) (E : XK) (f c' : Addr), Room k (A.deeper (lamEnv X (lsc i) s.heap.objs.size f c')) → PE (lamCx X A outer s H E (lsc i) f c') (body i) (tb i E))
    (he : PE (sib X s0 H0 env outer ex fn pn xe) e te) (hg : Gl (sib X s0 H0 env outer ex fn pn xe) x) (hdb : (x == ("__debug__" : Str)) = false := by decide) (hda : (a == ("__debug__" : Str)) = false := by decide) (hdc : (a == ("__classdict__" : Str)) = false := by decide)
    (hst : starEach [e] env = (false, eval e env) :: starEach [] env := by rfl) :
    PE (sib X s0 H0 env outer ex fn pn xe) (.Call (.Name x p) [e] [] pos) (tTold X CS ret q sel params body lsc tb te) := by
  refine ⟨fun pins s σ H Q I h => ?_⟩
  obtain ⟨fd, F⟩ := F
  refine wpAny_Call_Name_kw (ld_glob I hg hm ?_ hdb)
  refine PySem.W.callWith_K (h₀ := X.base) I.ok.mod.kin F.kp ?_ hst (by rfl)
  have ha : PA (sib X s0 H0 env outer ex fn pn xe) [e] (tCons te tNil) := pa_cons he pa_nil hst
  let R : V → Hp → Prop := fun v H1 => ∃ (i : ι) (f c' : Addr), v = .ref f ∧ H1 f = some (LamO f q (params i) (body i) (lsc i) (cloFrom X.env.cells (lsc i).names []) c') ∧ H1 c' = some (CodeO c' q) ∧
    TTold X.K CS ret (fun E H' Q' => tb i E (sel σ) H' Q') H1 Q
  refine thn (ha.run pos pins s σ H (fun vs H1 => match vs with
    | [v] => R v H1
    | _ => False) I h) fun us s1 ⟨vs, H1, I1, r1, hR⟩ => ⟨I1.kIn, ?_⟩
  obtain ⟨v, rfl, i, f, c', rfl, hf, hc, htb⟩ : ∃ v, vs = [v] ∧ R v H1 := by
    match vs, hR with
    | [v], hR => exact ⟨v, rfl, hR⟩
  obtain ⟨oc, od, dV, kV, doc, pm, an, cdv, ct, osl, rfl, lk, hcd, hD, _⟩ := F.ex
  obtain rfl : dV = Value.none := by
    have e : d.dvs X.K = [] := by unfold He.DefD.dvs; rw [hdf] <;> rfl
    rcases hD with ⟨_, z⟩ | ⟨z, _⟩
    · exact z
    · exact absurd e z
  obtain ⟨u, rfl, ru⟩ : ∃ u, us = [u] ∧ RelV (.ref f) u := by
    cases r1 with
    | cons a b =>
      cases b
      exact ⟨_, rfl, a⟩
  obtain rfl : u = Value.ref f := ru
  obtain ⟨okX, hlen, hC⟩ := hcap pins σ H1 s1 I1
  have rc : codeAny (model X.prog X.w) X.A (.call (.ref (He.fAd X.K d.at_)) ⟨[.ref f], []⟩) (CR C8.CX0 X.stack X.prog X.w H1 s1 Q C8.E0) s1 := by
    refine run_ofS (N := Ng) (ps := [a]) (us := [.ref f]) (vs := [.ref f]) lk hcd Sg (hr.mono hkj) I1.env0 (.of_eq (hb kV doc pm an cdv ct [.ref f] rfl)) (.cons rfl .nil) rfl fun hr' => ?_
    have G := told_gives (X := sib X s0 H0 env outer ex fn pn xe) (Ng := Ng) (x := d.qual) (sg := d.scope) (g := He.fAd X.K d.at_) (CS := CS) (cdg := cdv) (ret := ret) (e := en) (q := q) (a := a) (j := jj) (p1 := q1) (p2 := q2) (p3 := q3) (p4 := q4) (p5 := q5) (p6 := q6) (p7 := q7) (p8 := q8) hge hme hde h0
    rw [← hbd] at G
    obtain ⟨t', ht', hq'⟩ := G f c' s1 H1 Q (fun E HZ Q' => HZ f = some (LamO f q (params i) (body i) (lsc i) (cloFrom X.env.cells (lsc i).names []) c') ∧ tb i E (sel σ) HZ Q')
      (fun W pn xe E p1 p2 tk hW => pe_actV (X := X) okX hlen (hC i) (lamS_by (hL i)) hq (fun pm ctv => hbind i _ pm _ ctv) tk hW hr' (fun A outer s H hr2 => hbody i A outer s H E f c' hr2) hNg hva hda hdc) hc ⟨hf, htb⟩
    exact ⟨t', ht'.nox, hq'⟩
  refine wpAny_call (codeAny_mono rc fun r s2 hq => ?_)
  match r, hq with
  | .error e, hq => exact (show False from hq).elim
  | .ok (.ret u), hq => exact I1.after hq
  | .ok .next, hq => exact False.elim hq
  | .ok .brk, hq => exact False.elim hq
  | .ok .cont, hq => exact False.elim hq
end Cn
/-! a list comprehension whose element and tests may lean on what held as its block began -/
namespace Cn
open PySem PySem.Spec PyProof.Rows L2 LamX
section
variable {X : Cx}
/-- the block began in a state of the def; its iterator's cells stand apart from the captured names' -/
structure Began (X : Cx) (σ : L2.St) (s : Shared) (H : Hp) (fp : List Addr) : Prop where
  inv : ∃ pins, Inv X pins σ H s
  apart : ∀ b ∈ fp, ∀ x c, X.env.cells.lookup x = some c → c ≠ b
abbrev Blk (X : Cx) (scope : Scope) (s : Shared) (H : Hp) (C : Addr) (cl : List (Str × Addr)) (fp : List Addr) : Cx := X.blk s H scope (compEnvC scope cl C X.env) fp
theorem pe_lcS {elt tg iter : Expr} {ifs : List Expr} {scope : Scope} {own : List (Str × Nat)} {pos : Pos} {wi : TI} {g : TG} {tt : L2.St → TT} {te : L2.St → TE} (hN : X.N.Nodup) (hi : PI X tg iter wi) (ok : BlkOk X.N X.env.scope scope own)
    (hg : ∀ s H C cl fp, PG (Blk X scope s H C cl fp) tg g) (ht : ∀ σ s H C cl fp, Began X σ s H fp → PTs (Blk X scope s H C cl fp) ifs (tt σ)) (he : ∀ σ s H C cl fp, Began X σ s H fp → PE (Blk X scope s H C cl fp) elt (te σ)) (hc : X.calm = true := by rfl)
    (hs : ∀ x, foldedSetIterable iter X.env x = pure x := by intro _; rfl) : PE X (.ListComp elt [⟨tg, iter, ifs, 0⟩] scope pos) (fun σ H Q => tLc wi g (tt σ) (te σ) (own.map (·.2)) σ H Q) := by
  refine ⟨fun pins s σ H Q I h => ?_⟩
  rw [eval_ListComp]
  have caps : ∀ y ∈ scope.names, y.2 = .free → ∃ c, X.env.cells.lookup y.1 = some c := fun y hy e => I.ok.has _ (ok.free y hy e)
  refine wpAny_comprehension_free (use := none) rfl hs (closure_ok caps) ok.kind (fun y hy e => by rw [ok.uniq y hy, e]) (thn (hi.run pins s σ H _ I h) fun xv s1 hx => thn hx fun itv s2 h2 => ?_)
  obtain ⟨it, fp, tn, J, H2, rfl, I2, T, st2, f2, q⟩ := h2
  refine wpAny_newObj_type (newEnv_comp ?_) (Nat.zero_le _)
  -- D: the new list; S: the state with it; G: what is held then
  obtain ⟨D, hD⟩ : ∃ D, s2.heap.objs.size = D := ⟨_, rfl⟩
  have fD : H2 D = none := I2.hok.fresh (Nat.le_of_eq hD)
  obtain ⟨W, ⟨m0, w0⟩, turn⟩ := q D fD
  obtain ⟨S, hS⟩ : ∃ S : Shared, ({ s2 with heap := s2.heap.push { cls := .type "list", data := .seq ([] : List Value).toArray } } : Shared) = S := ⟨_, rfl⟩
  obtain ⟨G, hG⟩ : ∃ G : Hp, upd H2 D (.lst []) = G := ⟨_, rfl⟩
  have hSh : S.heap = s2.heap.push { cls := .type "list", data := .seq ([] : List Value).toArray } := by rw [← hS]
  have IS : Inv X pins σ G S := by
    rw [← hS, ← hG]
    exact I2.laid (t' := s2.toks) (fun b o e => Heap.get?_push_of_some _ e) (Nat.le_of_eq hD) ⟨Nat.zero_le _, [], 0, .nil, by rw [← hD]; exact Heap.get?_push_size _ rfl⟩
  have kS : ∀ b o, s2.heap.get? b = some o → S.heap.get? b = some o := fun b o e => by
    rw [hSh]
    exact Heap.get?_push_of_some _ e
  have fS : ∀ b ∈ fp, FpOk X pins G b ∧ b < S.heap.objs.size := fun b hb => by
    obtain ⟨o, e, _⟩ := T.obj _ _ st2 b hb
    have lt := Heap.lt_size e
    refine ⟨⟨?_, (f2 b hb).2⟩, Heap.lt_size (kS b o e)⟩
    rw [← hG, upd_ne (by rw [← hD]; exact Nat.ne_of_lt lt)]
    exact (f2 b hb).1
  have beg : Began X σ S G fp := ⟨⟨pins, IS⟩, fun b hb => (fS b hb).1.2.2.2.2.1⟩
  have stS : tn 0 S.heap := T.keep _ _ _ st2 fun b _ o e => kS b o e
  have IB := block_start IS ok hN fS
  obtain ⟨cl, hcl⟩ : ∃ cl, cellsFrom (S.heap.objs.size + 1) scope.names (cloFrom X.env.cells scope.names []) = cl := ⟨_, rfl⟩
  rw [hcl] at IB
  have pg := hg S G S.heap.objs.size cl fp
  have pt := ht σ S G S.heap.objs.size cl fp beg
  have pe := he σ S G S.heap.objs.size cl fp beg
  obtain ⟨ce, hce⟩ : ∃ ce, compEnvC scope cl S.heap.objs.size X.env = ce := ⟨_, rfl⟩
  have ceL : ce.locals = S.heap.objs.size := by
    rw [← hce]
    rfl
  simp only [Blk] at pg pt pe
  rw [hce] at IB pg pt pe
  have nfp : ∀ b ∈ fp, G b = none := fun b hb => (fS b hb).1.1
  obtain ⟨S4, hS4⟩ : ∃ S4 : Shared, ({ S with heap := pushCells (S.heap.push { cls := .type "dict", data := .dict #[] }) scope.names } : Shared) = S4 := ⟨_, rfl⟩
  rw [hS4] at IB
  have st4 : tn 0 S4.heap := T.keep _ _ _ stS fun b _ o e => by
    rw [← hS4]
    exact pushCells_keeps _ _ _ _ (Heap.get?_push_of_some _ e)
  have fpB : ∀ {σ' : L2.St} {H' : Hp} {s' : Shared}, Inv (X.blk S G scope ce fp) [] σ' H' s' → (∀ b ∈ fp, H' b = none) → ∀ b ∈ fp, FpOk (X.blk S G scope ce fp) [] H' b := fun {σ' H' s'} I' hn b hb =>
    ⟨hn b hb, (I'.ok.exf b hb).1, I'.ok.exfs b hb, .inl hb, fun x c e => (I'.ok.exf b hb).2 x c e, fun p hp => absurd (show p ∈ ([] : List (Addr × Obj)) ++ [] from hp) (by simp)⟩
  have goal : codeAny (model X.prog X.w) X.A (.compLoop (.ListComp elt [⟨tg, iter, ifs, 0⟩] scope pos) 0 (.ref it) (.ref D) ce) (compPost (model X.prog X.w) X.A X.xe none (EP X pins σ Q) (.ref D) S.heap.objs.size) S4 := by
    refine compLoop_any (fun n s' => ∃ i H', Inv (X.blk S G scope ce fp) [] (wipe σ (own.map (·.2))) H' s' ∧ tn i s'.heap ∧ (∀ b ∈ fp, H' b = none) ∧ W i n H') ?_ m0 ⟨0, G, IB, st4, nfp, hG ▸ w0⟩
    rintro n s5 ⟨i, H5, I5, st5, n5, w5⟩
    rcases turn i n H5 w5 with ⟨stop, qq⟩ | ⟨go, Nx, hNx, step⟩
    · refine thnF (T.done (X.blk S G scope ce fp) rfl rfl rfl hc i [] s5 _ H5 (fun _ _ => False) I5 (fpB I5 n5) st5 stop) fun r s6 ⟨hr, I6⟩ => ?_
      subst hr
      have I7 : Inv X pins σ H5 s6 := IS.call' (ch := fp) I6.os I6.base I6.hok I6.bare fun b hb => let z := (fS b hb).1.2; ⟨z.2.2.1, z.1, z.2.2.2.1, z.2.2.2.2⟩
      have nC : H5 S.heap.objs.size = none := ceL ▸ I6.free
      obtain ⟨m, hn, _⟩ := I6.loc
      have hn : s6.heap.Ns S.heap.objs.size m := ceL ▸ hn
      obtain ⟨f0, f1, f2', f3, f4, f5⟩ := IS.fpOk (Nat.le_refl _) nC
      exact ⟨m, hn, fun h'' sb => ⟨.ref D, H5, I7.turned (t' := s6.toks) (fun b o hb e => (sb.2 b hb).trans e) f0 f1 f3 f4 f5, rfl, qq⟩⟩
    · refine thnF (T.item (X.blk S G scope ce fp) rfl rfl rfl hc i [] s5 _ H5 (fun _ _ => False) I5 (fpB I5 n5) st5 go) fun r s6 ⟨u, hr, h6⟩ => ?_
      subst hr
      refine thnF h6 fun _ s7 ⟨x, H7, I7, r7, y7, st7, n7⟩ => ?_
      refine thnF (pg.run _ s7 _ H7 x u _ (I7.pinned (fpB I7 n7) (T.obj _ _ st7)) r7 (step x H7 y7)) fun _ s8 ⟨σ8, H8, I8, hw8, q8⟩ => ?_
      refine thnF (pt.run _ s8 σ8 H8 _ I8 q8) fun b s9 ⟨H9, I9, q9⟩ => ?_
      have fin : ∀ {s' : Shared} {H' : Hp}, Inv (X.blk S G scope ce fp) ([] ++ pinsAt fp s7.heap) σ8 H' s' → Nx H' → ∃ m, m < n ∧ ∃ i H', Inv (X.blk S G scope ce fp) [] (wipe σ (own.map (·.2))) H' s' ∧ tn i s'.heap ∧ (∀ b ∈ fp, H' b = none) ∧ W i m H' := fun {s' H'} I' nx => by
        obtain ⟨m', hm, w'⟩ := hNx H' nx
        have pin' : ∀ b ∈ fp, ∀ o, s7.heap.get? b = some o → s'.heap.get? b = some o ∧ H' b = none := fun b hb o e =>
          let z := I'.pin (b, o) (List.mem_append_right _ (List.mem_append_right _ (mem_pinsAt hb e)))
          ⟨z.1, z.2.1⟩
        refine ⟨m', hm, i + 1, H', (I'.unpinned (pins := [])).weak (by rw [← hw8, wipe_length]) (fun j v e => ?_), T.keep _ _ _ st7 fun b hb o e => (pin' b hb o e).1, fun b hb => ?_, w'⟩
        · exact (wipe_some (hw8 ▸ e)).1
        · obtain ⟨o, e, _⟩ := T.obj _ _ st7 b hb
          exact (pin' b hb o e).2
      cases b with
      | false => exact fin I9 (by simpa using q9)
      | true =>
        have q9 : te σ σ8 H9 fun y H4 => ∃ acc, H4 D = some (.lst acc) ∧ acc.length < sizeLine ∧ Nx (upd H4 D (.lst (acc ++ [y]))) := by simpa using q9
        refine thnF (pe.run _ s9 σ8 H9 _ I9 q9) fun z s10 ⟨yv, H10, I10, r10, acc, hD10, hz10, nx⟩ => ?_
        exact app_ok (X := X.blk S G scope ce fp) I10 hD10 hz10 r10 fun s11 I11 => fin I11 nx
  have fine := codeAny_compStart_list goal (T.self X.A 0 _ _ _ st4 goal)
  rw [← hce, ← hcl, ← hS4, ← hD, ← hS] at fine
  exact fine
end
end Cn
/-! readings that leave the heap as it is -/
namespace Cn
open PySem PySem.Spec PyProof.Rows L2
def VP (te : TE) (σ : L2.St) (H : Hp) (v : V) : Prop := ∀ Q : VK, Q v H → te σ H Q
def BP (t : TT) (σ : L2.St) (H : Hp) (b : Bool) : Prop := ∀ Q : Bool → Hp → Prop, Q b H → t σ H Q
def RP (r : R2) (x y : V) (H : Hp) (v : V) : Prop := ∀ Q : VK, Q v H → r x y H Q
section
variable {σ : L2.St} {H : Hp} {t u : TT} {ta tb tc te : TE} {b c : Bool} {x y z v : V} {r r' : R2}
theorem test_p (h : VP te σ H (.bl b)) : BP (tTest te) σ H b := fun Q k => h _ ⟨b, rfl, k⟩
theorem not_p (h : BP t σ H b) : BP (tNot t) σ H (!b) := fun Q k => h _ k
theorem or_p (h : BP t σ H b) (h2 : b = false → BP u σ H c) : BP (tOr t u) σ H (b || c) := fun Q k => h _ (by
  cases b with
  | false => exact ite_ff (h2 rfl _ k)
  | true => exact ite_tt k)
theorem and_p (h : BP t σ H b) (h2 : b = true → BP u σ H c) : BP (tAnd t u) σ H (b && c) := fun Q k => h _ (by
  cases b with
  | false => exact ite_ff k
  | true => exact ite_tt (h2 rfl _ k))
theorem orv_p (h : VP ta σ H (.bl b)) (h2 : b = false → VP tb σ H (.bl c)) : VP (tOrV ta tb) σ H (.bl (b || c)) := fun Q k => h _ ⟨b, rfl, by
  cases b with
  | false => exact ite_ff (h2 rfl _ k)
  | true => exact ite_tt k⟩
theorem andv_p (h : VP ta σ H (.bl b)) (h2 : b = true → VP tb σ H (.bl c)) : VP (tAndV ta tb) σ H (.bl (b && c)) := fun Q k => h _ ⟨b, rfl, by
  cases b with
  | false => exact ite_ff k
  | true => exact ite_tt (h2 rfl _ k)⟩
theorem chain_p (ha : VP ta σ H x) (hb : VP tb σ H y) (h1 : RP r x y H (.bl b)) (hc : b = true → VP tc σ H z) (h2 : b = true → RP r' y z H (.bl c)) : VP (tChain r r' ta tb tc) σ H (.bl (b && c)) := fun Q k => ha _ (hb _ (h1 _ ⟨b, rfl, by
  cases b with
  | false => exact ite_ff k
  | true => exact ite_tt (hc rfl _ (h2 rfl _ k))⟩))
/-- the links -/
def CP (t : V → TT) (x : V) (σ : L2.St) (H : Hp) (b : Bool) : Prop := BP (t x) σ H b
theorem last_p (hb : VP tb σ H y) (h : RP r x y H (.bl b)) : CP (tLast r tb) x σ H b := fun Q k => hb _ (h _ ⟨b, rfl, k⟩)
theorem link_p {t : V → TT} (hb : VP tb σ H y) (h : RP r x y H (.bl b)) (h2 : b = true → CP t y σ H c) : CP (tLink r tb t) x σ H (b && c) := fun Q k => hb _ (h _ ⟨b, rfl, by
  cases b with
  | false => exact ite_ff k
  | true => exact ite_tt (h2 rfl _ k)⟩)
theorem ch_p {t : V → TT} (ha : VP ta σ H x) (h : CP t x σ H b) : BP (fun σ H Q => ta σ H fun x H1 => t x σ H1 Q) σ H b := fun Q k => ha _ (h _ k)
theorem ifs_p {D : Ends} {p q : TS} (h : BP t σ H b) (h1 : b = true → p D σ H) (h2 : b = false → q D σ H) : tIfS t p q D σ H := h _ (by
  cases b with
  | false => exact ite_ff (h2 rfl)
  | true => exact ite_tt (h1 rfl))
theorem rI_p {f : Int → Int → V} {i j : Int} : RP (rI0 f) (.int i) (.int j) H (f i j) := fun Q k => ⟨_, _, rfl, rfl, k⟩
end
end Cn
namespace Cn
open PySem PySem.Spec PyProof.Rows L2
section
variable {X : Cx} {s : Shared} {H : Hp} {sc : Scope} {ce : Env} {fp : List Addr}
theorem blk_K : (X.blk s H sc ce fp).K = X.K := rfl
theorem blk_w : (X.blk s H sc ce fp).w = X.w := rfl
theorem blk_prog : (X.blk s H sc ce fp).prog = X.prog := rfl
theorem yes_ap {σ : L2.St} {H : Hp} {Q : Bool → Hp → Prop} (h : Q true H) : tYes σ H Q := h
theorem yes_it {σ : L2.St} {H : Hp} {P R : Hp → Prop} (h : P H) : tYes σ H (fun b H3 => if b = true then P H3 else R H3) := h
theorem PE.at_ {e : Expr} {t t' : TE} (h : PE X e t) (q : t = t') : PE X e t' := q ▸ h
theorem PG.at_ {e : Expr} {t t' : TG} (h : PG X e t) (q : t = t') : PG X e t' := q ▸ h
theorem PTs.at_ {e : List Expr} {t t' : TT} (h : PTs X e t) (q : t = t') : PTs X e t' := q ▸ h
end
end Cn
namespace Cn
open PySem PySem.Spec PyProof.Rows L2
theorem nx_ap {t : L2.St → Hp → Prop} {rt : VK} {bk ct : L2.St → Hp → Prop} {σ : L2.St} {H : Hp} (h : t σ H) : (Ends.mk t rt bk ct).nx σ H := h
end Cn
namespace Cn
open PySem PySem.Spec PyProof.Rows L2
/-- a statement and the rest, by what holds between -/
theorem seqJ {t u : TS} {rt : VK} {nx bk ct : L2.St → Hp → Prop} {σ : L2.St} {H : Hp} (J : L2.St → Hp → Prop) (h1 : ∀ R : L2.St → Hp → Prop, (∀ σ H, J σ H → R σ H) → t ⟨R, rt, bk, ct⟩ σ H) (h2 : ∀ σ H, J σ H → u ⟨nx, rt, bk, ct⟩ σ H) : tSeq t u ⟨nx, rt, bk, ct⟩ σ H := h1 _ h2
end Cn
namespace Cn
open PySem PySem.Spec PyProof.Rows L2
theorem ru1 {k : Nat} {A : Around} (r : Room k A) : A.units + 1 < cLine := by have := r.un; omega
end Cn
namespace Cn
open PySem PySem.Spec PyProof.Rows L2 LamX
section
variable {X : Cx}
theorem letsL {A : Around} {outer : List Env} {s : Shared} {H : Hp} {E : XK} {scope : Scope} {f c' : Addr} : Lets (lamCx X A outer s H E scope f c') E :=
  passes_call (takes_of rfl rfl rfl rfl) (fun _ _ _ _ z => z)
/-- told(lambda: body), at once -/
theorem pe_toldL {T : List (Addr × Str)} {d : He.DefD} {CS c P : Addr} {x a ret en : Str} {k j : Nat} {Ng : List Str} {params : Arguments} {body : Expr} {scope : Scope} {t : XK → TE} {p lpos pos : Pos} {jj : Nat} {q1 q2 q3 q4 q5 q6 q7 q8 : Pos}
    (F : ∃ fd, FunD X.K d.name d.qual d.params d.body d.scope (d.dvs X.K) (d.kws X.K) (He.fAd X.K d.at_) fd) (hdf : d.dfl = []) (hm : X.mg x = some (.ref (He.fAd X.K d.at_))) (hqx : d.qual = x) (hnx : d.name = x)
    (hb : ∀ (kV doc pm : Value) (an : Option Addr) (cdv ct : Value) (us : List Value), us.length = 1 → bindArgs (PySem.W.fnOf d.name d.qual d.params d.body d.scope .none kV doc pm an cdv ct) ⟨us, []⟩ = pure ([a].zip us))
    (Sg : FnScope Ng [a] d.scope) (hNg : Ng[0]? = some a) (h0 : ∀ f : Addr, (L2.start Ng [V.ref f])[0]? = some (some (V.ref f))) (hva : Vis d.scope a)
    (hbd : d.body = [.Try [.Return (some (.Call (.Name a q1) [] [] q2)) q3] [.ExceptHandler (some (.Name en q4)) none [.Return (some (.Constant (.str ret) jj q5)) q6] q7] [] [] q8])
    (hge : d.scope.names.lookup en = some .globalImplicit) (hme : X.mg en = some (.ref CS)) (hde : (en == ("__debug__" : Str)) = false)
    (TB : TabB X.base X.mg c P) (hcode : X.env.code = .ref c) (hmT : (P, X.env.qual ++ "<lambda>") ∈ T) (hu : ∀ p ∈ T, p.1 = P → p.2 = X.env.qual ++ "<lambda>")
    (hr : Room j X.A) (hkj : k + 2 ≤ j) (hL : lamSB X.env.scope scope = true) (hdef : defaultsOf params X.env = ([], []))
    (hbind : ∀ (q : Str) (cl : List (Str × Addr)) (pm cv ctv : Value), bindArgs (PySem.W.kla_fn "<lambda>" q params body scope cl pm cv ctv) ⟨[], []⟩ = pure [])
    (hbody : ∀ (A : Around) (outer : List Env) (s : Shared) (H : Hp) (E : XK) (f c' : Addr), Room k (A.deeper (lamEnv X scope s.heap.objs.size f c')) → PE (lamCx X A outer s H E scope f c') body (t E))
    (hg : Gl X x := by rfl) (hdb : (x == ("__debug__" : Str)) = false := by decide) (hda : (a == ("__debug__" : Str)) = false := by decide) (hdc : (a == ("__classdict__" : Str)) = false := by decide) :
    PE X (.Call (.Name x p) [.Lambda params body scope lpos] [] pos) (tLam T (TTold X.K CS ret) t) := by
  obtain ⟨fd, F⟩ := F
  obtain ⟨oc, od, dV, kV, doc, pm, an, cdv, ct, osl, rfl, lk, hcd, hD, _⟩ := F.ex
  obtain rfl : dV = Value.none := by
    have e : d.dvs X.K = [] := by unfold He.DefD.dvs; rw [hdf] <;> rfl
    rcases hD with ⟨_, z⟩ | ⟨z, _⟩
    · exact z
    · exact absurd e z
  have kp := F.kp
  rw [hnx, hqx] at lk
  rw [hqx] at hcd
  have hb' : L2.Binds X.K (PySem.W.fnOf x x d.params d.body d.scope .none kV doc pm an cdv ct) [a] [] := Binds.all fun us hl => by
    have := hb kV doc pm an cdv ct us hl
    rw [hnx, hqx] at this
    exact this
  have G := told_gives (X := X) (Ng := Ng) (x := x) (sg := d.scope) (g := He.fAd X.K d.at_) (CS := CS) (cdg := cdv) (ret := ret) (e := en) (q := X.env.qual ++ "<lambda>") (a := a) (j := jj) (p1 := q1) (p2 := q2) (p3 := q3) (p4 := q4) (p5 := q5) (p6 := q6) (p7 := q7) (p8 := q8) hge hme hde h0
  rw [← hbd] at G
  exact pe_lamcall hg hm kp lk hcd hb' Sg hNg hva G TB hcode hmT hu (hr.mono hkj) (lamS_by hL) hdef hbind hbody hdb hda hdc
end
end Cn
/-! list comprehensions: pure ones, copies -/
namespace Cn
open PySem PySem.Spec PyProof.Rows L2 LamX
theorem wipe1 {σ : L2.St} {s : Nat} {v : Option V} : wipe ((wipe σ [s]).set s v) [s] = wipe σ [s] := by
  show ((σ.set s none).set s v).set s none = σ.set s none
  rw [List.set_set, List.set_set]
/-- [e for x in xs], e leaves the heap as it is -/
theorem lcP {J : It} {G : Hp → Prop} {xs : List V} (w : Walk J xs.length G (YAt xs)) {s : Nat} {te : TE} {σ : L2.St} {H1 : Hp} {D : Addr} {Qd : Hp → Prop} (f : Nat → V) (nz : xs.length ≤ sizeLine) (hG : ∀ acc, G (upd H1 D (.lst acc)))
    (he : ∀ i x acc, xs[i]? = some x → VP te ((wipe σ [s]).set s (some x)) (upd H1 D (.lst acc)) (f i)) (hd : Qd (upd H1 D (.lst ((List.range xs.length).map f)))) :
    ∃ W : Nat → Nat → Hp → Prop, (∃ m, W 0 m (upd H1 D (.lst []))) ∧ ∀ i m H, W i m H →
      (J.stop i H ∧ Qd H) ∨ (J.go i H ∧ ∃ Nx : Hp → Prop, (∀ H', Nx H' → ∃ m', m' < m ∧ W (i + 1) m' H') ∧ ∀ x H', J.yld i H x H' → gName s x (wipe σ [s]) H' fun σ2 H2 => wipe σ2 [s] = wipe σ [s] ∧ tYes σ2 H2 fun b H3 =>
        if b = true then te σ2 H3 fun y H4 => ∃ acc, H4 D = some (.lst acc) ∧ acc.length < sizeLine ∧ Nx (upd H4 D (.lst (acc ++ [y]))) else Nx H3) := by
  refine lc_it w (fun i H' => H' = upd H1 D (.lst ((List.range i).map f))) rfl (fun i H' _ e => by rw [e]; exact hG _) ?_ ?_
  · rintro i x H2 H3 hi rfl ⟨rfl, hx⟩
    refine ⟨wipe1, yes_it ?_⟩
    refine he i x _ hx _ ⟨_, upd_same, ?_, ?_⟩
    · rw [List.length_map, List.length_range]
      exact Nat.lt_of_lt_of_le hi nz
    · rw [upd_upd, List.range_succ, List.map_append] <;> rfl
  · rintro H2 rfl
    exact hd
abbrev rListOf (K : PySem.W.Frag) : List V → Hp → VK → Prop := fun xs H Q => ∃ p ys, xs = [V.ref p] ∧ (SqL K H p ys ∨ SqT K H p ys) ∧ ∀ l, H l = none → Q (.ref l) (upd H l (.lst ys))
/-- [list(x) for x in xs], xs lists: new lists with the same items -/
theorem lcCopy {K : PySem.W.Frag} {T : List (Addr × Str)} {b : Addr} {as : List Addr} {rv : Nat → List V} {s : Nat} {σ : L2.St} {H1 : Hp} {D : Addr} {Qd : Hp → Prop} (hs : s < σ.length) (hb : H1 b = some (.lst (as.map V.ref))) (hr : ∀ (i : Nat) (a : Addr), as[i]? = some a → H1 a = some (.lst (rv i))) (nz : as.length ≤ sizeLine) (nD : H1 D = none)
    (hd : ∀ H' (as2 : List Addr), H' D = some (.lst (as2.map V.ref)) → as2.length = as.length → (∀ (i : Nat) (a : Addr), as2[i]? = some a → H' a = some (.lst (rv i))) → as2.Nodup → (∀ a ∈ as2, Nw H1 a) → Fr T [] H1 H' → Qd H') :
    ∃ W : Nat → Nat → Hp → Prop, (∃ m, W 0 m (upd H1 D (.lst []))) ∧ ∀ i m H, W i m H →
      ((Itl K b).stop i H ∧ Qd H) ∨ ((Itl K b).go i H ∧ ∃ Nx : Hp → Prop, (∀ H', Nx H' → ∃ m', m' < m ∧ W (i + 1) m' H') ∧ ∀ x H', (Itl K b).yld i H x H' → gName s x (wipe σ [s]) H' fun σ2 H2 => wipe σ2 [s] = wipe σ [s] ∧ tYes σ2 H2 fun b H3 =>
        if b = true then tCB (rListOf K) (tCons (tVar s) tNil) σ2 H3 fun y H4 => ∃ acc, H4 D = some (.lst acc) ∧ acc.length < sizeLine ∧ Nx (upd H4 D (.lst (acc ++ [y]))) else Nx H3) := by
  have hl : (as.map V.ref).length = as.length := List.length_map ..
  refine lc_list (fun i H' => ∃ as2 : List Addr, as2.length = i ∧ H' D = some (.lst (as2.map V.ref)) ∧ (∀ (j : Nat) (a : Addr), as2[j]? = some a → H' a = some (.lst (rv j))) ∧ as2.Nodup ∧ (∀ a ∈ as2, Nw H1 a ∧ a ≠ D) ∧ Fr T [] H1 H') ⟨[], rfl, upd_same, fun _ _ z => by simp at z, by simp, fun _ z => by simp at z, Fr.new nD⟩ (fun i H' _ ⟨_, _, _, _, _, _, f⟩ => SqL.of (f.l hb (by simp))) ?_ ?_
  · rintro i x H2 hx ⟨as2, hlen, hD, hR, hn, hw, f⟩
    obtain ⟨a, ha, rfl⟩ : ∃ a, as[i]? = some a ∧ x = V.ref a := by
      rw [List.getElem?_map] at hx
      cases e : as[i]? with
      | none => rw [e] at hx; cases hx
      | some q => rw [e] at hx; exact ⟨q, rfl, (Option.some.inj hx).symm⟩
    have hi : i < as.length := (List.getElem?_eq_some_iff.mp ha).1
    refine ⟨wipe1, yes_it ?_⟩
    have hsv : ((wipe σ [s]).set s (some (V.ref a)))[s]? = some (some (V.ref a)) := by
      rw [List.getElem?_set_self (by rw [wipe_length]; exact hs)]
    refine ⟨_, hsv, _, _, rfl, .inl (SqL.of (f.l (hr i a ha) (by simp))), fun l nl => ?_⟩
    have hD2 := (upd_ne (o := .lst (rv i)) (ne_of_none hD nl)).trans hD
    have nlD : l ≠ D := (ne_of_none hD nl).symm
    have nin : l ∉ as2 := fun m => by
      obtain ⟨j, hj⟩ := List.getElem?_of_mem m
      have := hR j l hj
      rw [nl] at this
      cases this
    refine ⟨_, hD2, ?_, as2 ++ [l], by simp [hlen], ?_, fun j c hc => ?_, ?_, fun c hc => ?_, ?_⟩
    · rw [List.length_map, hlen]
      exact Nat.lt_of_lt_of_le hi nz
    · rw [List.map_append]
      exact upd_same
    · by_cases e : j < as2.length
      · rw [List.getElem?_append_left e] at hc
        have h2 := hR j c hc
        exact (upd_ne (hw c (List.mem_of_getElem? hc)).2).trans ((upd_ne (ne_of_none h2 nl)).trans h2)
      · rw [List.getElem?_append_right (Nat.le_of_not_lt e)] at hc
        have e0 : j - as2.length = 0 := by
          obtain ⟨z, _⟩ := List.getElem?_eq_some_iff.mp hc
          have z' : j - as2.length < 1 := z
          omega
        have ej : j = i := by omega
        rw [e0] at hc
        cases hc
        rw [ej]
        exact (upd_ne nlD).trans upd_same
    · rw [List.nodup_append]
      exact ⟨hn, by simp, fun x hx y hy z => nin (by rw [List.mem_singleton.mp hy] at z; rw [← z]; exact hx)⟩
    · rcases List.mem_append.mp hc with z | z
      · exact hw c z
      · rw [List.mem_singleton.mp z]
        exact ⟨Nw.of f nl (by simp), nlD⟩
    · exact f.transW ((Fr.new nl (S := [D])).trans (Fr.upd hD2 rfl (List.mem_singleton.mpr rfl))) fun c hc => .inr (by rw [List.mem_singleton.mp hc]; exact Nw.none nD)
  · rintro H2 ⟨as2, hlen, hD, hR, hn, hw, f⟩
    rw [hl] at hlen
    exact hd H2 as2 hD hlen hR hn (fun a ha => (hw a ha).1) f
end Cn
namespace Cn
open PySem PySem.Spec PyProof.Rows L2
theorem gname_ap {i : Nat} {v : V} {σ : L2.St} {H : Hp} {Q : L2.St → Hp → Prop} (h : Q (σ.set i (some v)) H) : gName i v σ H Q := h
end Cn
namespace Cn
open PySem PySem.Spec PyProof.Rows L2
/-! lists of ints as data -/
def dI (ns : List Int) : PyData := .list (ns.map PyData.int)
theorem dpAll_ints {K : PySem.W.Frag} {H : Hp} : ∀ ns : List Int, DpAll K H (ns.map V.int) (ns.map PyData.int)
  | [] => .nil
  | n :: r => .cons (.int n) (dpAll_ints r)
theorem dp_ints {K : PySem.W.Frag} {H : Hp} {a : Addr} {ns : List Int} (h : SqL K H a (ns.map V.int)) : Dp K H (.ref a) (dI ns) := .lst h (dpAll_ints ns)
theorem can_ints : ∀ ns : List Int, PyData.canLayAll0 (ns.map PyData.int) = true
  | [] => rfl
  | n :: r => by
    show (PyData.canLay0 (.int n) && PyData.canLayAll0 (r.map PyData.int)) = true
    rw [can_ints r] <;> rfl
theorem depth_ints : ∀ ns : List Int, PyData.depthAll (ns.map PyData.int) ≤ 1
  | [] => Nat.zero_le _
  | n :: r => by
    show max (PyData.depth (.int n)) (PyData.depthAll (r.map PyData.int)) ≤ 1
    have := depth_ints r
    have : PyData.depth (.int n) ≤ 1 := by simp [PyData.depth]
    omega
theorem can_dI (ns : List Int) : PyData.canLay0 (dI ns) = true := by
  show PyData.canLayAll0 (ns.map PyData.int) = true
  exact can_ints ns
theorem shaped_ints (ns : List Int) : SeqAt.shaped (dI ns) = true := by
  unfold SeqAt.shaped
  rw [can_dI, Bool.true_and]
  refine decide_eq_true ?_
  have h := depth_ints ns
  unfold dI
  simp only [PyData.depth]
  omega
theorem eqv_ints (ns : List Int) : PyData.eqv (dI ns) (dI ns) = true := SeqAt.eqv_refl _ (can_dI ns)
theorem ite_no {c : Bool} {P Q : Prop} (h : c = false) (q : Q) : if c = true then P else Q := by
  rw [h]
  exact q
theorem ite_yes {c : Bool} {P Q : Prop} (h : c = true) (q : P) : if c = true then P else Q := by
  rw [h]
  exact q
end Cn
namespace Cn
open PySem PySem.Spec PyProof.Rows L2
theorem ne_said {s : Str} {F n : Int} (h : F < n) : (!decide (V.bl (decide (V.str s = V.str s)) = V.bl (decide (n > F)))) = false := by simp [h]
theorem ne_non {s : Str} {F n : Int} (h : n ≤ F) : (!decide (V.bl (decide (V.non = V.str s)) = V.bl (decide (n > F)))) = false := by
  have : ¬ n > F := by omega
  simp [this]
theorem ne_int {a b : Int} (h : a = b) : (!decide (V.int a = V.int b)) = false := by simp [h]
theorem ne_same (v : V) : (!decide (v = v)) = false := by simp
theorem not_eqv {d : PyData} (h : d.canLay0 = true) : (!PyData.eqv d d) = false := by rw [SeqAt.eqv_refl d h] <;> rfl
end Cn
/-! lambdas in a list, told in a comprehension -/
namespace Cn
open PySem PySem.Spec PyProof.Rows L2 LamX
theorem PE.weak {X : Cx} {e : Expr} {t t' : TE} (h : PE X e t) (w : ∀ σ H Q, t' σ H Q → t σ H Q) : PE X e t' := ⟨fun pins s σ H Q I q => h.run pins s σ H Q I (w σ H Q q)⟩
theorem cap_blk {X : Cx} {σ : L2.St} {s : Shared} {H : Hp} {fp : List Addr} {scope lsc : Scope} {C : Addr} {cl : List (Str × Addr)} (B : Began X σ s H fp) (L : LamS X.env.scope lsc) {pins : List (Addr × Obj)} {σ' : L2.St} {H' : Hp} {s' : Shared} (I : Inv (Blk X scope s H C cl fp) pins σ' H' s') :
    X.Ok ∧ σ.length = X.N.length ∧ CapAt X lsc σ s'.heap H' := by
  obtain ⟨⟨pins0, I0⟩, ap⟩ := B
  exact ⟨I0.ok, I0.len, (CapAt.of I0 L).un I.base (fun y c e m => ap c m y c e rfl)⟩
def lamPr (d : Arguments) : Expr → Arguments
  | .Lambda p _ _ _ => p
  | _ => d
def lamBd : Expr → Expr
  | .Lambda _ b _ _ => b
  | e => e
def lamSc (d : Scope) : Expr → Scope
  | .Lambda _ _ s _ => s
  | _ => d
def listEs : Stmt → List Expr
  | .Assign _ (.List es _) _ => es
  | _ => []
/-- lambdas stand at the addresses fs -/
def LamsAt (q : Str) (cells : List (Str × Addr)) (da : Arguments) (ds : Scope) (E : Nat → Expr) (H : Hp) (fs : List Addr) : Prop :=
  ∀ (i : Nat) (f : Addr), fs[i]? = some f → ∃ c', H f = some (LamO f q (lamPr da (E i)) (lamBd (E i)) (lamSc ds (E i)) (cloFrom cells (lamSc ds (E i)).names []) c') ∧ H c' = some (CodeO c' q)
theorem LamsAt.nil {q : Str} {cells : List (Str × Addr)} {da : Arguments} {ds : Scope} {E : Nat → Expr} {H : Hp} : LamsAt q cells da ds E H [] := fun i f h => by simp at h
theorem LamsAt.ext {q : Str} {cells : List (Str × Addr)} {da : Arguments} {ds : Scope} {E : Nat → Expr} {H H1 : Hp} {fs : List Addr} (h : LamsAt q cells da ds E H fs) (e : ExtN H H1) : LamsAt q cells da ds E H1 fs := fun i f hf => by
  obtain ⟨c', h1, h2⟩ := h i f hf
  exact ⟨c', e _ _ h1 fun ps => lamO_ne ps, e _ _ h2 fun ps z => by unfold CodeO at z; cases z⟩
theorem LamsAt.snoc {q : Str} {cells : List (Str × Addr)} {da : Arguments} {ds : Scope} {E : Nat → Expr} {H H1 : Hp} {fs : List Addr} {f c' : Addr} (h : LamsAt q cells da ds E H fs) (e : ExtN H H1)
    (h1 : H1 f = some (LamO f q (lamPr da (E fs.length)) (lamBd (E fs.length)) (lamSc ds (E fs.length)) (cloFrom cells (lamSc ds (E fs.length)).names []) c')) (h2 : H1 c' = some (CodeO c' q)) : LamsAt q cells da ds E H1 (fs ++ [f]) := fun i g hg => by
  by_cases z : i < fs.length
  · rw [List.getElem?_append_left z] at hg
    exact h.ext e i g hg
  · rw [List.getElem?_append_right (Nat.le_of_not_lt z)] at hg
    have z0 : i - fs.length = 0 := by
      obtain ⟨q, _⟩ := List.getElem?_eq_some_iff.mp hg
      have q' : i - fs.length < 1 := q
      omega
    have ei : i = fs.length := by omega
    rw [z0] at hg
    cases hg
    rw [ei]
    exact ⟨c', h1, h2⟩
theorem pe_toldB {X : Cx} {σ : L2.St} {s0 : Shared} {H0 : Hp} {fp : List Addr} {bsc : Scope} {C : Addr} {cl : List (Str × Addr)} {ι : Type} {d : He.DefD} {CS : Addr} {x a ret en : Str} {k j : Nat} {params : ι → Arguments} {body : ι → Expr} {lsc : ι → Scope} {tb : ι → XK → TE} {te : TE} {e : Expr} {p pos : Pos} {Ng : List Str} {jj : Nat} {q1 q2 q3 q4 q5 q6 q7 q8 : Pos} (B : Began X σ s0 H0 fp)
    (F : ∃ fd, FunD X.K d.name d.qual d.params d.body d.scope (d.dvs X.K) (d.kws X.K) (He.fAd X.K d.at_) fd) (hdf : d.dfl = []) (hm : X.mg x = some (.ref (He.fAd X.K d.at_))) (hqx : d.qual = x) (hnx : d.name = x)
    (hb : ∀ (kV doc pm : Value) (an : Option Addr) (cdv ct : Value) (us : List Value), us.length = 1 → bindArgs (PySem.W.fnOf d.name d.qual d.params d.body d.scope .none kV doc pm an cdv ct) ⟨us, []⟩ = pure ([a].zip us))
    (Sg : FnScope Ng [a] d.scope) (hNg : Ng[0]? = some a) (h0 : ∀ f : Addr, (L2.start Ng [V.ref f])[0]? = some (some (V.ref f))) (hva : Vis d.scope a)
    (hbd : d.body = [.Try [.Return (some (.Call (.Name a q1) [] [] q2)) q3] [.ExceptHandler (some (.Name en q4)) none [.Return (some (.Constant (.str ret) jj q5)) q6] q7] [] [] q8])
    (hge : d.scope.names.lookup en = some .globalImplicit) (hme : X.mg en = some (.ref CS)) (hde : (en == ("__debug__" : Str)) = false)
    (hr : Room j X.A) (hkj : k + 2 ≤ j) (hL : ∀ i, lamSB X.env.scope (lsc i) = true)
    (hbind : ∀ (i : ι) (q : Str) (cl : List (Str × Addr)) (pm cv ctv : Value), bindArgs (PySem.W.kla_fn "<lambda>" q (params i) (body i) (lsc i) cl pm cv ctv) ⟨[], []⟩ = pure [])
    (hbody : ∀ (i : ι) (A : Around) (outer : List Env) (s : Shared) (H : Hp) (E : XK) (f c' : Addr), Room k (A.deeper (lamEnv X (lsc i) s.heap.objs.size f c')) → PE (lamCx X A outer s H E (lsc i) f c') (body i) (tb i E))
    (i0 : ι) (he : PE (Blk X bsc s0 H0 C cl fp) e te) (hg : Gl (Blk X bsc s0 H0 C cl fp) x) (hst : starEach [e] (compEnvC bsc cl C X.env) = (false, eval e (compEnvC bsc cl C X.env)) :: starEach [] (compEnvC bsc cl C X.env) := by rfl) (hdb : (x == ("__debug__" : Str)) = false := by decide) (hda : (a == ("__debug__" : Str)) = false := by decide) (hdc : (a == ("__classdict__" : Str)) = false := by decide) :
    PE (Blk X bsc s0 H0 C cl fp) (.Call (.Name x p) [e] [] pos) (tTold X CS ret (X.env.qual ++ "<lambda>") (fun _ => σ) params body lsc tb te) :=
  pe_told (X := X) F hdf hm hqx hnx hb Sg hNg h0 hva hbd hge hme hde hr hkj rfl hL (fun i cl pm cv ctv => hbind i _ cl pm cv ctv)
    (fun pins σ' H s I => ⟨(cap_blk B (lamS_by (hL i0)) I).1, (cap_blk B (lamS_by (hL i0)) I).2.1, fun i => (cap_blk B (lamS_by (hL i)) I).2.2⟩) hbody he hg hdb hda hdc hst
end Cn
namespace Cn
open PySem PySem.Spec PyProof.Rows L2 LamX
theorem nx_ap2 {t : L2.St → Hp → Prop} {rt : VK} {bk ct : L2.St → Hp → Prop} {σ : L2.St} {H : Hp} (H1 : Hp) (e : H1 = H) (h : t σ H1) : (Ends.mk t rt bk ct).nx σ H := by
  subst e
  exact h
def tLamL (T : List (Addr × Str)) (q : Str) (cells : List (Str × Addr)) : List Expr → TA
  | [] => tNil
  | .Lambda p b s _ :: r => tCons (tLamV T q p b s (cloFrom cells s.names [])) (tLamL T q cells r)
  | _ :: _ => fun _ _ _ => False
def LamOk (X : Cx) : List Expr → Prop
  | [] => True
  | .Lambda p _ s _ :: r => (lamSB X.env.scope s = true ∧ defaultsOf p X.env = ([], [])) ∧ LamOk X r
  | _ :: _ => False
theorem pa_lams {X : Cx} {T : List (Addr × Str)} {c P : Addr} (TB : TabB X.base X.mg c P) (hcode : X.env.code = .ref c) (hmT : (P, X.env.qual ++ "<lambda>") ∈ T) (hu : ∀ p ∈ T, p.1 = P → p.2 = X.env.qual ++ "<lambda>") :
    ∀ Es : List Expr, LamOk X Es → PA X Es (tLamL T (X.env.qual ++ "<lambda>") X.env.cells Es)
  | [], _ => pa_nil
  | e :: r, h => by
    cases e with
    | Lambda p b s pos => exact pa_cons (pe_lam TB hcode hmT hu h.1.1 h.1.2) (pa_lams TB hcode hmT hu r h.2) rfl
    | _ => exact False.elim h
theorem lams_rd {T : List (Addr × Str)} {q : Str} {cells : List (Str × Addr)} {da : Arguments} {ds : Scope} {d0 : Expr} {X : Cx} {σ : L2.St} : ∀ (Es all : List Expr) (H : Hp) (fs : List Addr) (Q : List V → Hp → Prop), LamOk X Es → (∀ i, all.getD (fs.length + i) d0 = Es.getD i d0) → LamsAt q cells da ds (fun i => all.getD i d0) H fs → LamX.Tabs T H →
    (∀ H' hs, Fr T [] H H' → LamX.Tabs T H' → hs.length = Es.length → LamsAt q cells da ds (fun i => all.getD i d0) H' (fs ++ hs) → Q (hs.map V.ref) H') → tLamL T q cells Es σ H Q
  | [], all, H, fs, Q, ok, he, ha, ht, k => k H [] Fr.refl ht rfl (by rw [List.append_nil]; exact ha)
  | e :: r, all, H, fs, Q, ok, he, ha, ht, k => by
    cases e with
    | Lambda p b s pos =>
      refine ⟨ht, fun f c' H1 nf e t h1 h2 => ?_⟩
      have e0 : all.getD fs.length d0 = .Lambda p b s pos := he 0
      have a1 := ha.snoc e (f := f) (c' := c') (by simp only [e0]; exact h1) h2
      refine lams_rd r all H1 (fs ++ [f]) (fun vs H2 => Q (V.ref f :: vs) H2) ok.2 (fun i => ?_) a1 t (fun H' hs f2 t2 l2 a2 => k H' (f :: hs) ((Fr.of_ext e fun _ => t).trans f2) t2 (by simp [l2]) (by rw [List.append_assoc] at a2; exact a2))
      have := he (i + 1)
      have hl : (fs ++ [f]).length + i = fs.length + (i + 1) := by simp; omega
      rw [hl, this] <;> rfl
    | _ => exact False.elim ok
end Cn
namespace Cn
open PySem PySem.Spec PyProof.Rows L2
theorem asg_lst {t : TA} {g : TG} {u : TS} {nx bk ct : L2.St → Hp → Prop} {rt : VK} {σ : L2.St} {H : Hp} (h : t σ H (fun xs H1 => xs.length ≤ sizeLine ∧ ∀ p, H1 p = none → g (.ref p) σ (upd H1 p (.lst xs)) (u ⟨nx, rt, bk, ct⟩))) : tSeq (tAsg (tLst t) g) u ⟨nx, rt, bk, ct⟩ σ H := h
end Cn
namespace Cn
open PySem PySem.Spec PyProof.Rows L2
/-- the law's def, its record told -/
theorem mk_fnT {P : Program} {w : World} {K : PySem.W.Frag} {mg : Str → Option Value} {base : Heap} {d : He.DefD} {N ps : List Str} {k : Nat} {sp : Sp} (hd : d.dfl = []) (S : FnScope N ps d.scope)
    (len : ∀ vs H Q E, sp vs H Q E → vs.length = ps.length)
    (hbody : ∀ (A : Around) (outer : List Env) (s : Shared) (H : Hp) (vs : List V) (Q : VK) (E : XK), Room k (A.deeper (envOfC d.qual d.scope s.heap.objs.size (He.fAd K d.at_) (.ref (He.cT K d.at_).1))) → sp vs H Q E →
      ∃ t, PSs (cxOf (L2.CX P w) P w K mg base N d.qual d.scope (He.fAd K d.at_) (.ref (He.cT K d.at_).1) A outer s H E) d.body t ∧ t { nx := fun _ H' => Q .non H', rt := Q } (start N vs) H) :
    ∀ fd, FunD K d.name d.qual d.params d.body d.scope (d.dvs K) (d.kws K) (He.fAd K d.at_) fd → FnOk P w K mg base (L2.CX P w) (k + 1) (He.fAd K d.at_) fd ps sp := by
  intro fd F
  obtain ⟨oc, od, dV, kV, doc, pm, an, cdv, ct, osl, rfl, lk, hcd, _, _⟩ := F.ex
  obtain ⟨c, rfl⟩ := He.codeIn_ref hcd
  have ec : He.codeOf K d.at_ = c := He.codeOf_eq lk rfl
  refine fn_of lk hcd S len fun A outer s H vs Q E hr hsp => ?_
  have q := hbody A outer s H vs Q E
  have e1 : (He.cT K d.at_).1 = c := ec
  rw [e1] at q
  exact q hr hsp
theorem dvs_nil {d : He.DefD} {K : PySem.W.Frag} (h : d.dfl = []) : d.dvs K = [] := by
  unfold He.DefD.dvs
  rw [h] <;> rfl
end Cn
namespace K1
open PySem PySem.Spec PyProof.Rows L2 Cn
def top (i : Nat) : Stmt := PySem.Challenge.pw_canalstack_k01_water_between_locks.main.body.getD i (.Pass ⟨0, 0, 0, 0⟩)
abbrev s_Reach_init : Stmt := inClass (top 5) 0
abbrev s_Reach_free : Stmt := inClass (top 5) 1
abbrev s_Reach_take : Stmt := inClass (top 5) 2
abbrev s_Reach_give : Stmt := inClass (top 5) 3
abbrev s_Reach_hour : Stmt := inClass (top 5) 4
abbrev s_Ladder_init : Stmt := inClass (top 6) 0
abbrev s_Ladder_hour : Stmt := inClass (top 6) 1
abbrev s_Ladder_give : Stmt := inClass (top 6) 2
abbrev s_Ladder_whole : Stmt := inClass (top 6) 3
abbrev s_Ladder_place_of : Stmt := inClass (top 6) 4
abbrev s_Ladder_hours_until_short : Stmt := inClass (top 6) 5
abbrev s_law_dice : Stmt := top 8
abbrev s_law_roll : Stmt := top 9
abbrev s_law_rounds : Stmt := top 10
abbrev s_law_told : Stmt := top 11
abbrev s_law_reach : Stmt := top 12
abbrev s_law_made : Stmt := top 13
abbrev s_law_pour : Stmt := top 14
abbrev s_law_hour : Stmt := top 15
abbrev s_law_plain : Stmt := top 16
abbrev s_law : Stmt := top 17
theorem sc_Reach_init : FnScope ["self", "name", "water", "least", "most", "comes", "leaks", "minutes"] ["self", "name", "water", "least", "most", "comes", "leaks", "minutes"] (defScope s_Reach_init) := ⟨rfl, rfl, rfl, by decide +kernel, rfl, by decide +kernel, by decide +kernel⟩
theorem sc_Reach_free : FnScope ["self"] ["self"] (defScope s_Reach_free) := ⟨rfl, rfl, rfl, by decide +kernel, rfl, by decide +kernel, by decide +kernel⟩
theorem sc_Reach_take : FnScope ["self", "amount"] ["self", "amount"] (defScope s_Reach_take) := ⟨rfl, rfl, rfl, by decide +kernel, rfl, by decide +kernel, by decide +kernel⟩
theorem sc_Reach_give : FnScope ["self", "amount", "over"] ["self", "amount"] (defScope s_Reach_give) := ⟨rfl, rfl, rfl, by decide +kernel, rfl, by decide +kernel, by decide +kernel⟩
theorem sc_Reach_hour : FnScope ["self", "above", "leaked"] ["self", "above"] (defScope s_Reach_hour) := ⟨rfl, rfl, rfl, by decide +kernel, rfl, by decide +kernel, by decide +kernel⟩
theorem sc_Ladder_init : FnScope ["self", "reaches", "reach"] ["self", "reaches"] (defScope s_Ladder_init) := ⟨rfl, rfl, rfl, by decide +kernel, rfl, by decide +kernel, by decide +kernel⟩
theorem sc_Ladder_hour : FnScope ["self", "above", "reach", "leaked"] ["self"] (defScope s_Ladder_hour) := ⟨rfl, rfl, rfl, by decide +kernel, rfl, by decide +kernel, by decide +kernel⟩
theorem sc_Ladder_give : FnScope ["self", "place", "amount", "reach"] ["self", "place", "amount"] (defScope s_Ladder_give) := ⟨rfl, rfl, rfl, by decide +kernel, rfl, by decide +kernel, by decide +kernel⟩
theorem sc_Ladder_whole : FnScope ["self", "reach"] ["self"] (defScope s_Ladder_whole) := ⟨rfl, rfl, rfl, by decide +kernel, rfl, by decide +kernel, by decide +kernel⟩
theorem sc_Ladder_place_of : FnScope ["self", "name", "place", "reach"] ["self", "name"] (defScope s_Ladder_place_of) := ⟨rfl, rfl, rfl, by decide +kernel, rfl, by decide +kernel, by decide +kernel⟩
theorem sc_Ladder_hours_until_short : FnScope ["self", "place", "amount", "rows", "one", "least", "copy", "hours"] ["self", "place", "amount"] (defScope s_Ladder_hours_until_short) := ⟨rfl, rfl, rfl, by decide +kernel, rfl, by decide +kernel, by decide +kernel⟩
theorem sc_law_dice : FnScope ["cell"] ["cell"] (defScope s_law_dice) := ⟨rfl, rfl, rfl, by decide +kernel, rfl, by decide +kernel, by decide +kernel⟩
theorem sc_law_roll : FnScope ["dice", "many", "found"] ["dice", "many"] (defScope s_law_roll) := ⟨rfl, rfl, rfl, by decide +kernel, rfl, by decide +kernel, by decide +kernel⟩
theorem sc_law_rounds : FnScope ["script", "most", "cells", "cell"] ["script", "most"] (defScope s_law_rounds) := ⟨rfl, rfl, rfl, by decide +kernel, rfl, by decide +kernel, by decide +kernel⟩
theorem sc_law_told : FnScope ["what"] ["what"] (defScope s_law_told) := ⟨rfl, rfl, rfl, by decide +kernel, rfl, by decide +kernel, by decide +kernel⟩
theorem sc_law_reach : FnScope ["dice", "least", "water"] ["dice"] (defScope s_law_reach) := ⟨rfl, rfl, rfl, by decide +kernel, rfl, by decide +kernel, by decide +kernel⟩
theorem sc_law_made : FnScope ["rows", "k", "row"] ["rows"] (defScope s_law_made) := ⟨rfl, rfl, rfl, by decide +kernel, rfl, by decide +kernel, by decide +kernel⟩
theorem sc_law_pour : FnScope ["own", "place", "amount", "k", "over"] ["own", "place", "amount"] (defScope s_law_pour) := ⟨rfl, rfl, rfl, by decide +kernel, rfl, by decide +kernel, by decide +kernel⟩
theorem sc_law_hour : FnScope ["own", "above", "row", "leaked"] ["own"] (defScope s_law_hour) := ⟨rfl, rfl, rfl, by decide +kernel, rfl, by decide +kernel, by decide +kernel⟩
theorem sc_law_plain : FnScope ["one", "bad", "f"] [] (defScope s_law_plain) := ⟨rfl, rfl, rfl, by decide +kernel, rfl, by decide +kernel, by decide +kernel⟩
theorem sc_law : FnScope ["script", "dice", "rows", "k", "ladder", "own", "row", "taken", "first", "given", "step", "sort", "place", "amount", "good", "free", "reach", "copy", "due", "hours"] ["script"] (defScope s_law) := ⟨rfl, rfl, rfl, by decide +kernel, rfl, by decide +kernel, by decide +kernel⟩
def d_Reach_init : He.DefD := ⟨("Reach", some "__init__"), "__init__", "Reach.__init__", defArgs s_Reach_init, defBody s_Reach_init, defScope s_Reach_init, [], []⟩
def d_Reach_free : He.DefD := ⟨("Reach", some "free"), "free", "Reach.free", defArgs s_Reach_free, defBody s_Reach_free, defScope s_Reach_free, [], []⟩
def d_Reach_take : He.DefD := ⟨("Reach", some "take"), "take", "Reach.take", defArgs s_Reach_take, defBody s_Reach_take, defScope s_Reach_take, [], []⟩
def d_Reach_give : He.DefD := ⟨("Reach", some "give"), "give", "Reach.give", defArgs s_Reach_give, defBody s_Reach_give, defScope s_Reach_give, [], []⟩
def d_Reach_hour : He.DefD := ⟨("Reach", some "hour"), "hour", "Reach.hour", defArgs s_Reach_hour, defBody s_Reach_hour, defScope s_Reach_hour, [], []⟩
def d_Ladder_init : He.DefD := ⟨("Ladder", some "__init__"), "__init__", "Ladder.__init__", defArgs s_Ladder_init, defBody s_Ladder_init, defScope s_Ladder_init, [], []⟩
def d_Ladder_hour : He.DefD := ⟨("Ladder", some "hour"), "hour", "Ladder.hour", defArgs s_Ladder_hour, defBody s_Ladder_hour, defScope s_Ladder_hour, [], []⟩
def d_Ladder_give : He.DefD := ⟨("Ladder", some "give"), "give", "Ladder.give", defArgs s_Ladder_give, defBody s_Ladder_give, defScope s_Ladder_give, [], []⟩
def d_Ladder_whole : He.DefD := ⟨("Ladder", some "whole"), "whole", "Ladder.whole", defArgs s_Ladder_whole, defBody s_Ladder_whole, defScope s_Ladder_whole, [], []⟩
def d_Ladder_place_of : He.DefD := ⟨("Ladder", some "place_of"), "place_of", "Ladder.place_of", defArgs s_Ladder_place_of, defBody s_Ladder_place_of, defScope s_Ladder_place_of, [], []⟩
def d_Ladder_hours_until_short : He.DefD := ⟨("Ladder", some "hours_until_short"), "hours_until_short", "Ladder.hours_until_short", defArgs s_Ladder_hours_until_short, defBody s_Ladder_hours_until_short, defScope s_Ladder_hours_until_short, [], []⟩
def d_law_dice : He.DefD := ⟨("_law_dice", none), "_law_dice", "_law_dice", defArgs s_law_dice, defBody s_law_dice, defScope s_law_dice, [], []⟩
def d_law_roll : He.DefD := ⟨("_law_roll", none), "_law_roll", "_law_roll", defArgs s_law_roll, defBody s_law_roll, defScope s_law_roll, [], []⟩
def d_law_rounds : He.DefD := ⟨("_law_rounds", none), "_law_rounds", "_law_rounds", defArgs s_law_rounds, defBody s_law_rounds, defScope s_law_rounds, [], []⟩
def d_law_told : He.DefD := ⟨("_law_told", none), "_law_told", "_law_told", defArgs s_law_told, defBody s_law_told, defScope s_law_told, [], []⟩
def d_law_reach : He.DefD := ⟨("_law_reach", none), "_law_reach", "_law_reach", defArgs s_law_reach, defBody s_law_reach, defScope s_law_reach, [], []⟩
def d_law_made : He.DefD := ⟨("_law_made", none), "_law_made", "_law_made", defArgs s_law_made, defBody s_law_made, defScope s_law_made, [], []⟩
def d_law_pour : He.DefD := ⟨("_law_pour", none), "_law_pour", "_law_pour", defArgs s_law_pour, defBody s_law_pour, defScope s_law_pour, [], []⟩
def d_law_hour : He.DefD := ⟨("_law_hour", none), "_law_hour", "_law_hour", defArgs s_law_hour, defBody s_law_hour, defScope s_law_hour, [], []⟩
def d_law_plain : He.DefD := ⟨("_law_plain", none), "_law_plain", "_law_plain", defArgs s_law_plain, defBody s_law_plain, defScope s_law_plain, [], []⟩
def d_law : He.DefD := ⟨("law", none), "law", "law", defArgs s_law, defBody s_law, defScope s_law, [], []⟩
def fn : List He.DefD := [d_Reach_init, d_Reach_free, d_Reach_take, d_Reach_give, d_Reach_hour, d_Ladder_init, d_Ladder_hour, d_Ladder_give, d_Ladder_whole, d_Ladder_place_of, d_Ladder_hours_until_short, d_law_dice, d_law_roll, d_law_rounds, d_law_told, d_law_reach, d_law_made, d_law_pour, d_law_hour, d_law_plain, d_law]
def fa_0 : List He.Fa := [.glo "CanalError", .exc "CanalError", .glo "ReachError", .exc "ReachError", .glo "Reach", .cls "Reach", .mkr "Reach", .noat "Reach" "name", .noat "Reach" "water", .noat "Reach" "least", .noat "Reach" "most", .noat "Reach" "comes", .noat "Reach" "leaks", .noat "Reach" "minutes", .meth "Reach" "free", .meth "Reach" "take", .meth "Reach" "give", .meth "Reach" "hour", .glo "Ladder", .cls "Ladder", .mkr "Ladder", .noat "Ladder" "reaches", .noat "Ladder" "leaked", .noat "Ladder" "spilled", .noat "Ladder" "came", .meth "Ladder" "hour", .meth "Ladder" "give", .meth "Ladder" "whole", .meth "Ladder" "place_of", .meth "Ladder" "hours_until_short"]
def fa_1 : List He.Fa := [.exm "CanalError" "CanalError" true, .exm "CanalError" "ReachError" false, .exm "ReachError" "CanalError" true, .exm "ReachError" "ReachError" true, .glo "_law_dice", .glo "_law_roll", .glo "_law_rounds", .glo "_law_told", .glo "_law_reach", .glo "_law_made", .glo "_law_pour", .glo "_law_hour", .glo "_law_plain", .glo "law", .int "MOST_WATER" 1000000, .free "ValueError", .free "abs", .free "enumerate", .free "int", .free "len", .free "list", .free "max", .free "min", .free "range", .free "str", .free "sum", .free "tuple"]
def fa : List He.Fa := fa_0 ++ fa_1
def tf : List He.Defn := [("Ladder", some "whole"), ("_law_plain", none), ("law", none)]
def FL (K : PySem.W.Frag) : List (Addr × Str) := [((He.cT K ("Ladder", some "whole")).2, (d_Ladder_whole.qual ++ ".<locals>." ++ "<genexpr>" : Str)), ((He.cT K ("_law_plain", none)).2, (d_law_plain.qual ++ ".<locals>." ++ "<lambda>" : Str)), ((He.cT K ("law", none)).2, (d_law.qual ++ ".<locals>." ++ "<lambda>" : Str))]
def exB (K : PySem.W.Frag) : Bool := decide ((FL K).map (·.1)).Nodup
def loose : List Str := ["CanalError", "ReachError", "MOST_WATER", "Reach", "Ladder", "_law_dice", "_law_roll", "_law_rounds", "_law_told", "_law_reach", "_law_made", "_law_pour", "_law_hour", "_law_plain"]
structure Txt (K : PySem.W.Frag) (mg : Str → Option Value) (base : Heap) : Prop where
  g_CanalError : mg "CanalError" = some (.ref (He.ga K "CanalError"))
  e_CanalError : PySem.W.excIn K (He.ga K "CanalError") He.veBase "ValueError.__new__" = true ∧ PySem.W.keepIn K (.ref (He.ga K "CanalError")) = true ∧ PySem.W.subIn K (.ref (He.ga K "CanalError")) (.type "BaseException") = some true ∧ PySem.W.typeIn K (.ref (He.ga K "CanalError")) = some (.type "type")
  g_ReachError : mg "ReachError" = some (.ref (He.ga K "ReachError"))
  e_ReachError : PySem.W.excIn K (He.ga K "ReachError") He.veBase "ValueError.__new__" = true ∧ PySem.W.keepIn K (.ref (He.ga K "ReachError")) = true ∧ PySem.W.subIn K (.ref (He.ga K "ReachError")) (.type "BaseException") = some true ∧ PySem.W.typeIn K (.ref (He.ga K "ReachError")) = some (.type "type")
  g_Reach : mg "Reach" = some (.ref (He.ga K "Reach"))
  k_Reach : Cls K (He.ga K "Reach")
  m_Reach : Mk K (He.ga K "Reach") (He.fAd K ("Reach", some "__init__"))
  n_Reach_name : NoAttr K (He.ga K "Reach") "name"
  n_Reach_water : NoAttr K (He.ga K "Reach") "water"
  n_Reach_least : NoAttr K (He.ga K "Reach") "least"
  n_Reach_most : NoAttr K (He.ga K "Reach") "most"
  n_Reach_comes : NoAttr K (He.ga K "Reach") "comes"
  n_Reach_leaks : NoAttr K (He.ga K "Reach") "leaks"
  n_Reach_minutes : NoAttr K (He.ga K "Reach") "minutes"
  me_Reach_free : Meth K (He.ga K "Reach") "free" (He.fAd K ("Reach", some "free"))
  me_Reach_take : Meth K (He.ga K "Reach") "take" (He.fAd K ("Reach", some "take"))
  me_Reach_give : Meth K (He.ga K "Reach") "give" (He.fAd K ("Reach", some "give"))
  me_Reach_hour : Meth K (He.ga K "Reach") "hour" (He.fAd K ("Reach", some "hour"))
  g_Ladder : mg "Ladder" = some (.ref (He.ga K "Ladder"))
  k_Ladder : Cls K (He.ga K "Ladder")
  m_Ladder : Mk K (He.ga K "Ladder") (He.fAd K ("Ladder", some "__init__"))
  n_Ladder_reaches : NoAttr K (He.ga K "Ladder") "reaches"
  n_Ladder_leaked : NoAttr K (He.ga K "Ladder") "leaked"
  n_Ladder_spilled : NoAttr K (He.ga K "Ladder") "spilled"
  n_Ladder_came : NoAttr K (He.ga K "Ladder") "came"
  me_Ladder_hour : Meth K (He.ga K "Ladder") "hour" (He.fAd K ("Ladder", some "hour"))
  me_Ladder_give : Meth K (He.ga K "Ladder") "give" (He.fAd K ("Ladder", some "give"))
  me_Ladder_whole : Meth K (He.ga K "Ladder") "whole" (He.fAd K ("Ladder", some "whole"))
  me_Ladder_place_of : Meth K (He.ga K "Ladder") "place_of" (He.fAd K ("Ladder", some "place_of"))
  me_Ladder_hours_until_short : Meth K (He.ga K "Ladder") "hours_until_short" (He.fAd K ("Ladder", some "hours_until_short"))
  x_CanalError_CanalError : PySem.W.exmOne K (.ref (He.ga K "CanalError")) (.ref (He.ga K "CanalError")) = some true
  x_CanalError_ReachError : PySem.W.exmOne K (.ref (He.ga K "CanalError")) (.ref (He.ga K "ReachError")) = some false
  x_ReachError_CanalError : PySem.W.exmOne K (.ref (He.ga K "ReachError")) (.ref (He.ga K "CanalError")) = some true
  x_ReachError_ReachError : PySem.W.exmOne K (.ref (He.ga K "ReachError")) (.ref (He.ga K "ReachError")) = some true
  g_law_dice : mg "_law_dice" = some (.ref (He.ga K "_law_dice"))
  g_law_roll : mg "_law_roll" = some (.ref (He.ga K "_law_roll"))
  g_law_rounds : mg "_law_rounds" = some (.ref (He.ga K "_law_rounds"))
  g_law_told : mg "_law_told" = some (.ref (He.ga K "_law_told"))
  g_law_reach : mg "_law_reach" = some (.ref (He.ga K "_law_reach"))
  g_law_made : mg "_law_made" = some (.ref (He.ga K "_law_made"))
  g_law_pour : mg "_law_pour" = some (.ref (He.ga K "_law_pour"))
  g_law_hour : mg "_law_hour" = some (.ref (He.ga K "_law_hour"))
  g_law_plain : mg "_law_plain" = some (.ref (He.ga K "_law_plain"))
  g_law : mg "law" = some (.ref (He.ga K "law"))
  c_MOST_WATER : ∃ t, mg "MOST_WATER" = some (.int 1000000 t)
  f_ValueError : mg "ValueError" = none
  f_abs : mg "abs" = none
  f_enumerate : mg "enumerate" = none
  f_int : mg "int" = none
  f_len : mg "len" = none
  f_list : mg "list" = none
  f_max : mg "max" = none
  f_min : mg "min" = none
  f_range : mg "range" = none
  f_str : mg "str" = none
  f_sum : mg "sum" = none
  f_tuple : mg "tuple" = none
  d_Reach_init : ∃ fd, FunD K d_Reach_init.name d_Reach_init.qual d_Reach_init.params d_Reach_init.body d_Reach_init.scope (d_Reach_init.dvs K) (d_Reach_init.kws K) (He.fAd K d_Reach_init.at_) fd
  d_Reach_free : ∃ fd, FunD K d_Reach_free.name d_Reach_free.qual d_Reach_free.params d_Reach_free.body d_Reach_free.scope (d_Reach_free.dvs K) (d_Reach_free.kws K) (He.fAd K d_Reach_free.at_) fd
  d_Reach_take : ∃ fd, FunD K d_Reach_take.name d_Reach_take.qual d_Reach_take.params d_Reach_take.body d_Reach_take.scope (d_Reach_take.dvs K) (d_Reach_take.kws K) (He.fAd K d_Reach_take.at_) fd
  d_Reach_give : ∃ fd, FunD K d_Reach_give.name d_Reach_give.qual d_Reach_give.params d_Reach_give.body d_Reach_give.scope (d_Reach_give.dvs K) (d_Reach_give.kws K) (He.fAd K d_Reach_give.at_) fd
  d_Reach_hour : ∃ fd, FunD K d_Reach_hour.name d_Reach_hour.qual d_Reach_hour.params d_Reach_hour.body d_Reach_hour.scope (d_Reach_hour.dvs K) (d_Reach_hour.kws K) (He.fAd K d_Reach_hour.at_) fd
  d_Ladder_init : ∃ fd, FunD K d_Ladder_init.name d_Ladder_init.qual d_Ladder_init.params d_Ladder_init.body d_Ladder_init.scope (d_Ladder_init.dvs K) (d_Ladder_init.kws K) (He.fAd K d_Ladder_init.at_) fd
  d_Ladder_hour : ∃ fd, FunD K d_Ladder_hour.name d_Ladder_hour.qual d_Ladder_hour.params d_Ladder_hour.body d_Ladder_hour.scope (d_Ladder_hour.dvs K) (d_Ladder_hour.kws K) (He.fAd K d_Ladder_hour.at_) fd
  d_Ladder_give : ∃ fd, FunD K d_Ladder_give.name d_Ladder_give.qual d_Ladder_give.params d_Ladder_give.body d_Ladder_give.scope (d_Ladder_give.dvs K) (d_Ladder_give.kws K) (He.fAd K d_Ladder_give.at_) fd
  d_Ladder_whole : ∃ fd, FunD K d_Ladder_whole.name d_Ladder_whole.qual d_Ladder_whole.params d_Ladder_whole.body d_Ladder_whole.scope (d_Ladder_whole.dvs K) (d_Ladder_whole.kws K) (He.fAd K d_Ladder_whole.at_) fd
  d_Ladder_place_of : ∃ fd, FunD K d_Ladder_place_of.name d_Ladder_place_of.qual d_Ladder_place_of.params d_Ladder_place_of.body d_Ladder_place_of.scope (d_Ladder_place_of.dvs K) (d_Ladder_place_of.kws K) (He.fAd K d_Ladder_place_of.at_) fd
  d_Ladder_hours_until_short : ∃ fd, FunD K d_Ladder_hours_until_short.name d_Ladder_hours_until_short.qual d_Ladder_hours_until_short.params d_Ladder_hours_until_short.body d_Ladder_hours_until_short.scope (d_Ladder_hours_until_short.dvs K) (d_Ladder_hours_until_short.kws K) (He.fAd K d_Ladder_hours_until_short.at_) fd
  d_law_dice : ∃ fd, FunD K d_law_dice.name d_law_dice.qual d_law_dice.params d_law_dice.body d_law_dice.scope (d_law_dice.dvs K) (d_law_dice.kws K) (He.fAd K d_law_dice.at_) fd
  d_law_roll : ∃ fd, FunD K d_law_roll.name d_law_roll.qual d_law_roll.params d_law_roll.body d_law_roll.scope (d_law_roll.dvs K) (d_law_roll.kws K) (He.fAd K d_law_roll.at_) fd
  d_law_rounds : ∃ fd, FunD K d_law_rounds.name d_law_rounds.qual d_law_rounds.params d_law_rounds.body d_law_rounds.scope (d_law_rounds.dvs K) (d_law_rounds.kws K) (He.fAd K d_law_rounds.at_) fd
  d_law_told : ∃ fd, FunD K d_law_told.name d_law_told.qual d_law_told.params d_law_told.body d_law_told.scope (d_law_told.dvs K) (d_law_told.kws K) (He.fAd K d_law_told.at_) fd
  d_law_reach : ∃ fd, FunD K d_law_reach.name d_law_reach.qual d_law_reach.params d_law_reach.body d_law_reach.scope (d_law_reach.dvs K) (d_law_reach.kws K) (He.fAd K d_law_reach.at_) fd
  d_law_made : ∃ fd, FunD K d_law_made.name d_law_made.qual d_law_made.params d_law_made.body d_law_made.scope (d_law_made.dvs K) (d_law_made.kws K) (He.fAd K d_law_made.at_) fd
  d_law_pour : ∃ fd, FunD K d_law_pour.name d_law_pour.qual d_law_pour.params d_law_pour.body d_law_pour.scope (d_law_pour.dvs K) (d_law_pour.kws K) (He.fAd K d_law_pour.at_) fd
  d_law_hour : ∃ fd, FunD K d_law_hour.name d_law_hour.qual d_law_hour.params d_law_hour.body d_law_hour.scope (d_law_hour.dvs K) (d_law_hour.kws K) (He.fAd K d_law_hour.at_) fd
  d_law_plain : ∃ fd, FunD K d_law_plain.name d_law_plain.qual d_law_plain.params d_law_plain.body d_law_plain.scope (d_law_plain.dvs K) (d_law_plain.kws K) (He.fAd K d_law_plain.at_) fd
  d_law : ∃ fd, FunD K d_law.name d_law.qual d_law.params d_law.body d_law.scope (d_law.dvs K) (d_law.kws K) (He.fAd K d_law.at_) fd
  tb : ∀ p ∈ tf, LamX.TabB base mg (He.cT K p).1 (He.cT K p).2
  nt : ((FL K).map (·.1)).Nodup
theorem tm_Ladder_whole : (("Ladder", some "whole") : He.Defn) ∈ tf := by decide +kernel
theorem tl_Ladder_whole {K : PySem.W.Frag} : ((He.cT K ("Ladder", some "whole")).2, (d_Ladder_whole.qual ++ ".<locals>." ++ "<genexpr>" : Str)) ∈ FL K := by unfold FL; simp
theorem tm_law_plain : (("_law_plain", none) : He.Defn) ∈ tf := by decide +kernel
theorem tl_law_plain {K : PySem.W.Frag} : ((He.cT K ("_law_plain", none)).2, (d_law_plain.qual ++ ".<locals>." ++ "<lambda>" : Str)) ∈ FL K := by unfold FL; simp
theorem tm_law : (("law", none) : He.Defn) ∈ tf := by decide +kernel
theorem tl_law {K : PySem.W.Frag} : ((He.cT K ("law", none)).2, (d_law.qual ++ ".<locals>." ++ "<lambda>" : Str)) ∈ FL K := by unfold FL; simp
theorem txt_of {w : World} {K : PySem.W.Frag} {mg : Str → Option Value} {base h : Heap} (X : K.In h) (G : h.Ns mainGlobals mg) (c : He.SaysX fa fn [] tf exB w h K) (tb : ∀ p ∈ tf.map (He.cT K), LamX.TabB base mg p.1 p.2) : Txt K mg base :=
  ⟨He.glo_ok X G (c.t.d.fact 0 (f := .glo "CanalError") rfl),
   He.exc_ok (c.t.d.fact 1 (f := .exc "CanalError") rfl),
   He.glo_ok X G (c.t.d.fact 2 (f := .glo "ReachError") rfl),
   He.exc_ok (c.t.d.fact 3 (f := .exc "ReachError") rfl),
   He.glo_ok X G (c.t.d.fact 4 (f := .glo "Reach") rfl),
   He.cls_ok (c.t.d.fact 5 (f := .cls "Reach") rfl),
   He.mkr_ok (c.t.d.fact 6 (f := .mkr "Reach") rfl),
   He.noat_ok (c.t.d.fact 7 (f := .noat "Reach" "name") rfl),
   He.noat_ok (c.t.d.fact 8 (f := .noat "Reach" "water") rfl),
   He.noat_ok (c.t.d.fact 9 (f := .noat "Reach" "least") rfl),
   He.noat_ok (c.t.d.fact 10 (f := .noat "Reach" "most") rfl),
   He.noat_ok (c.t.d.fact 11 (f := .noat "Reach" "comes") rfl),
   He.noat_ok (c.t.d.fact 12 (f := .noat "Reach" "leaks") rfl),
   He.noat_ok (c.t.d.fact 13 (f := .noat "Reach" "minutes") rfl),
   He.meth_ok (c.t.d.fact 14 (f := .meth "Reach" "free") rfl),
   He.meth_ok (c.t.d.fact 15 (f := .meth "Reach" "take") rfl),
   He.meth_ok (c.t.d.fact 16 (f := .meth "Reach" "give") rfl),
   He.meth_ok (c.t.d.fact 17 (f := .meth "Reach" "hour") rfl),
   He.glo_ok X G (c.t.d.fact 18 (f := .glo "Ladder") rfl),
   He.cls_ok (c.t.d.fact 19 (f := .cls "Ladder") rfl),
   He.mkr_ok (c.t.d.fact 20 (f := .mkr "Ladder") rfl),
   He.noat_ok (c.t.d.fact 21 (f := .noat "Ladder" "reaches") rfl),
   He.noat_ok (c.t.d.fact 22 (f := .noat "Ladder" "leaked") rfl),
   He.noat_ok (c.t.d.fact 23 (f := .noat "Ladder" "spilled") rfl),
   He.noat_ok (c.t.d.fact 24 (f := .noat "Ladder" "came") rfl),
   He.meth_ok (c.t.d.fact 25 (f := .meth "Ladder" "hour") rfl),
   He.meth_ok (c.t.d.fact 26 (f := .meth "Ladder" "give") rfl),
   He.meth_ok (c.t.d.fact 27 (f := .meth "Ladder" "whole") rfl),
   He.meth_ok (c.t.d.fact 28 (f := .meth "Ladder" "place_of") rfl),
   He.meth_ok (c.t.d.fact 29 (f := .meth "Ladder" "hours_until_short") rfl),
   He.exm_ok (c.t.d.fact 30 (f := .exm "CanalError" "CanalError" true) rfl),
   He.exm_ok (c.t.d.fact 31 (f := .exm "CanalError" "ReachError" false) rfl),
   He.exm_ok (c.t.d.fact 32 (f := .exm "ReachError" "CanalError" true) rfl),
   He.exm_ok (c.t.d.fact 33 (f := .exm "ReachError" "ReachError" true) rfl),
   He.glo_ok X G (c.t.d.fact 34 (f := .glo "_law_dice") rfl),
   He.glo_ok X G (c.t.d.fact 35 (f := .glo "_law_roll") rfl),
   He.glo_ok X G (c.t.d.fact 36 (f := .glo "_law_rounds") rfl),
   He.glo_ok X G (c.t.d.fact 37 (f := .glo "_law_told") rfl),
   He.glo_ok X G (c.t.d.fact 38 (f := .glo "_law_reach") rfl),
   He.glo_ok X G (c.t.d.fact 39 (f := .glo "_law_made") rfl),
   He.glo_ok X G (c.t.d.fact 40 (f := .glo "_law_pour") rfl),
   He.glo_ok X G (c.t.d.fact 41 (f := .glo "_law_hour") rfl),
   He.glo_ok X G (c.t.d.fact 42 (f := .glo "_law_plain") rfl),
   He.glo_ok X G (c.t.d.fact 43 (f := .glo "law") rfl),
   He.int_ok X G (c.t.d.fact 44 (f := .int "MOST_WATER" 1000000) rfl),
   He.free_ok X G (c.t.d.fact 45 (f := .free "ValueError") rfl),
   He.free_ok X G (c.t.d.fact 46 (f := .free "abs") rfl),
   He.free_ok X G (c.t.d.fact 47 (f := .free "enumerate") rfl),
   He.free_ok X G (c.t.d.fact 48 (f := .free "int") rfl),
   He.free_ok X G (c.t.d.fact 49 (f := .free "len") rfl),
   He.free_ok X G (c.t.d.fact 50 (f := .free "list") rfl),
   He.free_ok X G (c.t.d.fact 51 (f := .free "max") rfl),
   He.free_ok X G (c.t.d.fact 52 (f := .free "min") rfl),
   He.free_ok X G (c.t.d.fact 53 (f := .free "range") rfl),
   He.free_ok X G (c.t.d.fact 54 (f := .free "str") rfl),
   He.free_ok X G (c.t.d.fact 55 (f := .free "sum") rfl),
   He.free_ok X G (c.t.d.fact 56 (f := .free "tuple") rfl),
   c.t.d.def_ 0 (d := d_Reach_init) rfl,
   c.t.d.def_ 1 (d := d_Reach_free) rfl,
   c.t.d.def_ 2 (d := d_Reach_take) rfl,
   c.t.d.def_ 3 (d := d_Reach_give) rfl,
   c.t.d.def_ 4 (d := d_Reach_hour) rfl,
   c.t.d.def_ 5 (d := d_Ladder_init) rfl,
   c.t.d.def_ 6 (d := d_Ladder_hour) rfl,
   c.t.d.def_ 7 (d := d_Ladder_give) rfl,
   c.t.d.def_ 8 (d := d_Ladder_whole) rfl,
   c.t.d.def_ 9 (d := d_Ladder_place_of) rfl,
   c.t.d.def_ 10 (d := d_Ladder_hours_until_short) rfl,
   c.t.d.def_ 11 (d := d_law_dice) rfl,
   c.t.d.def_ 12 (d := d_law_roll) rfl,
   c.t.d.def_ 13 (d := d_law_rounds) rfl,
   c.t.d.def_ 14 (d := d_law_told) rfl,
   c.t.d.def_ 15 (d := d_law_reach) rfl,
   c.t.d.def_ 16 (d := d_law_made) rfl,
   c.t.d.def_ 17 (d := d_law_pour) rfl,
   c.t.d.def_ 18 (d := d_law_hour) rfl,
   c.t.d.def_ 19 (d := d_law_plain) rfl,
   c.t.d.def_ 20 (d := d_law) rfl,
   fun p hp => tb _ (List.mem_map_of_mem hp),
   of_decide_eq_true c.more⟩
end K1
namespace K1
open PySem PySem.Spec PyProof.Rows L2 Cn
local macro_rules | `(tactic| walk_at "few") => `(tactic| exact Nat.le_of_ble_eq_true rfl)
local macro_rules | `(tactic| walk_at "ne") => `(tactic| first | assumption | (apply Ne.symm; assumption) | exact ne_of_none (by assumption) (by assumption) | exact (ne_of_none (by assumption) (by assumption)).symm)
local macro_rules | `(tactic| walk_at "hf") => `(tactic| first | assumption | exact upd_same | (refine Eq.trans (upd_ne (by walk_at "ne")) ?_; walk_at "hf"))
/-! ### a reach -/
structure RowS where
  name : Str
  w : Int
  least : Int
  most : Int
  comes : Int
  leaks : Int
  minutes : Int
def reachF (r : RowS) : List (Str × V) := [("name", .str r.name), ("water", .int r.w), ("least", .int r.least), ("most", .int r.most), ("comes", .int r.comes), ("leaks", .int r.leaks), ("minutes", .int r.minutes)]
theorem lk_Reach_name (r : RowS) : (reachF r).lookup ("name" : Str) = some (.str r.name) := by kernel_rfl
theorem lk_Reach_water (r : RowS) : (reachF r).lookup ("water" : Str) = some (.int r.w) := by kernel_rfl
theorem pt_Reach_water (r : RowS) (v : Int) : putF "water" (.int v) (reachF r) = reachF { r with w := v } := by kernel_rfl
theorem lk_Reach_least (r : RowS) : (reachF r).lookup ("least" : Str) = some (.int r.least) := by kernel_rfl
theorem lk_Reach_most (r : RowS) : (reachF r).lookup ("most" : Str) = some (.int r.most) := by kernel_rfl
theorem lk_Reach_comes (r : RowS) : (reachF r).lookup ("comes" : Str) = some (.int r.comes) := by kernel_rfl
theorem lk_Reach_leaks (r : RowS) : (reachF r).lookup ("leaks" : Str) = some (.int r.leaks) := by kernel_rfl
theorem lk_Reach_minutes (r : RowS) : (reachF r).lookup ("minutes" : Str) = some (.int r.minutes) := by kernel_rfl
theorem nm_Reach_free (r : RowS) : (reachF r).lookup ("free" : Str) = none := by kernel_rfl
theorem nm_Reach_take (r : RowS) : (reachF r).lookup ("take" : Str) = none := by kernel_rfl
theorem nm_Reach_give (r : RowS) : (reachF r).lookup ("give" : Str) = none := by kernel_rfl
theorem nm_Reach_hour (r : RowS) : (reachF r).lookup ("hour" : Str) = none := by kernel_rfl
theorem mk_Reach (n : Str) (w l m c k mi : Int) : putF "minutes" (.int mi) (putF "leaks" (.int k) (putF "comes" (.int c) (putF "most" (.int m) (putF "least" (.int l) (putF "water" (.int w) (putF "name" (.str n) [])))))) = reachF ⟨n, w, l, m, c, k, mi⟩ := by kernel_rfl
def max0 (a b : Int) : Int := if b > a then b else a
def min0 (a b : Int) : Int := if b < a then b else a
def freeS (r : RowS) : Int := max0 0 (r.w - r.least)
def overS (r : RowS) (n : Int) : Int := max0 0 (r.w + n - r.most)
def giveS (r : RowS) (n : Int) : RowS := { r with w := r.w + (n - overS r n) }
def leakS (r : RowS) : Int := min0 r.leaks r.w
def dryS (r : RowS) : RowS := { r with w := r.w - leakS r }
def badR (r : RowS) : Bool := !(decide (0 ≤ r.least) && (decide (r.least ≤ r.w) && (decide (r.w ≤ r.most) && decide (r.most ≤ 1000000)))) || (decide (min0 r.comes r.leaks < 0) || decide (r.minutes < 1))
def badT (r : RowS) (n : Int) : Bool := !(decide (0 ≤ n) && decide (n ≤ freeS r))
abbrev RchO (K : PySem.W.Frag) (dx : Addr) (r : RowS) : HO := .ins (He.ga K "Reach") dx (reachF r)
abbrev ReachAt (K : PySem.W.Frag) (H : Hp) (a dx : Addr) (r : RowS) : Prop := H a = some (RchO K dx r)
abbrev RErr (K : PySem.W.Frag) : Value := .ref (He.ga K "ReachError")
def spFree (K : PySem.W.Frag) : Sp := Sp1 fun x H Q _ => ∃ a dx r, x = .ref a ∧ ReachAt K H a dx r ∧ Q (.int (freeS r)) H
section
variable {P : Program} {w : World} {K : PySem.W.Frag} {mg : Str → Option Value} {base : Heap}
theorem ok_Reach_free (T : Txt K mg base) : Pr P w K mg base 1 (He.fAd K ("Reach", some "free")) ["self"] (spFree K) := by
  refine mk_pr T.d_Reach_free rfl sc_Reach_free (fun _ _ _ _ _ _ us hl => match us, hl with | [_], _ => rfl) len1 (fun cdv A outer s H vs Q E hr h => ?_)
  have nd := sc_Reach_free.nd
  obtain ⟨x, rfl, a, dx, r, rfl, h1, k⟩ := h
  refine ⟨_, (pss_one (ps_ret (pe_callB (call_max2 rfl) (by rfl) T.f_max (by decide +kernel) (pa_cons pe_int (pa_cons (pe_op op_sub (pe_fld (pv 0) rfl) (pe_fld (pv 0) rfl)) pa_nil))))), ?_⟩
  (refine ⟨_, rfl, _, _, _, _, _, rfl, (by walk_at "hf"), T.k_Reach, T.n_Reach_water, lk_Reach_water _, _, rfl, _, _, _, _, _, rfl, (by walk_at "hf"), T.k_Reach, T.n_Reach_least, lk_Reach_least _, _, _, rfl, rfl, _, _, rfl, ?_⟩)
  exact k
end
def spGive (K : PySem.W.Frag) : Sp := Sp2 fun x y H Q E => ∃ a dx r n, x = .ref a ∧ y = .int n ∧ ReachAt K H a dx r ∧ (n < 0 → E (RErr K) none H) ∧ (0 ≤ n → Q (.int (overS r n)) (upd H a (RchO K dx (giveS r n))))
section
variable {P : Program} {w : World} {K : PySem.W.Frag} {mg : Str → Option Value} {base : Heap}
theorem ok_Reach_give (T : Txt K mg base) : Pr P w K mg base 1 (He.fAd K ("Reach", some "give")) ["self", "amount"] (spGive K) := by
  refine mk_pr T.d_Reach_give rfl sc_Reach_give (fun _ _ _ _ _ _ us hl => match us, hl with | [_, _], _ => rfl) len2 (fun cdv A outer s H vs Q E hr h => ?_)
  have nd := sc_Reach_give.nd
  obtain ⟨x, y, rfl, a, dx, r, n, rfl, rfl, h1, e, k⟩ := h
  refine ⟨_, (pss_cons (ps_if (pt_cmpR op_lt (pv 1) pe_int (nomark _))
        (pss_one (ps_err takes T.e_ReachError T.g_ReachError))
        pss_nil)
      (pss_cons (ps_set (i := 2) nd rfl (Or.inl rfl) (pe_callB (call_max2 rfl) (by rfl) T.f_max (by decide +kernel) (pa_cons pe_int (pa_cons (pe_op op_sub (pe_op op_add (pe_fld (pv 0) rfl) (pv 1)) (pe_fld (pv 0) rfl)) pa_nil))))
      (pss_cons (ps_fldaug (pv 0) (pe_op op_sub (pv 1) (pv 2)) in_add)
      (pss_one (ps_ret (pv 2)))))), ?_⟩
  (refine ⟨_, rfl, _, _, rfl, rfl, _, rfl, ?_⟩)
  refine ite2 (fun hd => ?_) (fun hd => ?_)
  · exact e (by simpa using hd)
  · (refine ⟨_, rfl, _, _, _, _, _, rfl, (by walk_at "hf"), T.k_Reach, T.n_Reach_water, lk_Reach_water _, _, rfl, _, _, rfl, rfl, _, rfl, _, _, _, _, _, rfl, (by walk_at "hf"), T.k_Reach, T.n_Reach_most, lk_Reach_most _, _, _, rfl, rfl, _, _, rfl, _, rfl, _, _, _, _, _, rfl, (by walk_at "hf"), T.k_Reach, T.n_Reach_water, lk_Reach_water _, ⟨_, rfl, _, rfl, _, _, rfl, rfl, _, _, rfl, rfl, _, _, (by walk_at "hf"), (by walk_at "few"), ?_⟩⟩; rw [pt_Reach_water]; refine ⟨_, rfl, ?_⟩)
    exact k (by simpa using hd)
end
def spTake (K : PySem.W.Frag) : Sp := Sp2 fun x y H Q E => ∃ a dx r n, x = .ref a ∧ y = .int n ∧ ReachAt K H a dx r ∧ (badT r n = true → E (RErr K) none H) ∧ (badT r n = false → Q .non (upd H a (RchO K dx { r with w := r.w - n })))
section
variable {P : Program} {w : World} {K : PySem.W.Frag} {mg : Str → Option Value} {base : Heap}
theorem ok_Reach_take (T : Txt K mg base) : Pr P w K mg base 2 (He.fAd K ("Reach", some "take")) ["self", "amount"] (spTake K) := by
  refine mk_pr T.d_Reach_take rfl sc_Reach_take (fun _ _ _ _ _ _ us hl => match us, hl with | [_, _], _ => rfl) len2 (fun cdv A outer s H vs Q E hr h => ?_)
  have nd := sc_Reach_take.nd
  obtain ⟨x, y, rfl, a, dx, r, n, rfl, rfl, h1, e, k⟩ := h
  refine ⟨_, (pss_cons (ps_if (pt_not (pt_chain op_le op_le pe_int (pv 1) (pe_mt0 (pv 0) T.k_Reach T.me_Reach_free (ok_Reach_free T) hr (by decide) lets)))
        (pss_one (ps_err takes T.e_ReachError T.g_ReachError))
        pss_nil)
      (pss_one (ps_fldaug (pv 0) (pv 1) in_sub))), ?_⟩
  refine ifs_p (not_p (test_p (chain_p (fun _ k => k) (fun _ k => ⟨_, rfl, k⟩) rI_p (fun hg => fun _ k => ⟨_, rfl, _, _, _, rfl, (by walk_at "hf"), nm_Reach_free _, ⟨_, rfl, _, _, _, rfl, (by walk_at "hf"), k⟩⟩) (fun hg => rI_p)))) (fun hd => ?_) (fun hd => ?_)
  · exact e hd
  · (refine ⟨_, rfl, _, _, _, _, _, rfl, (by walk_at "hf"), T.k_Reach, T.n_Reach_water, lk_Reach_water _, ⟨_, rfl, _, _, rfl, rfl, _, _, (by walk_at "hf"), (by walk_at "few"), ?_⟩⟩; rw [pt_Reach_water])
    exact k hd
end
def spHour (K : PySem.W.Frag) : Sp := Sp2 fun x y H Q E => ∃ a dx r n, x = .ref a ∧ y = .int n ∧ ReachAt K H a dx r ∧ (0 ≤ r.comes + n) ∧ ∀ p, upd H a (RchO K dx (giveS (dryS r) (r.comes + n))) p = none →
  Q (.ref p) (upd (upd H a (RchO K dx (giveS (dryS r) (r.comes + n)))) p (.tup [.int (overS (dryS r) (r.comes + n)), .int (leakS r)]))
section
variable {P : Program} {w : World} {K : PySem.W.Frag} {mg : Str → Option Value} {base : Heap}
theorem ok_Reach_hour (T : Txt K mg base) : Pr P w K mg base 2 (He.fAd K ("Reach", some "hour")) ["self", "above"] (spHour K) := by
  refine mk_pr T.d_Reach_hour rfl sc_Reach_hour (fun _ _ _ _ _ _ us hl => match us, hl with | [_, _], _ => rfl) len2 (fun cdv A outer s H vs Q E hr h => ?_)
  have nd := sc_Reach_hour.nd
  obtain ⟨x, y, rfl, a, dx, r, n, rfl, rfl, h1, hn, k⟩ := h
  refine ⟨_, (pss_cons (ps_set (i := 2) nd rfl (Or.inl rfl) (pe_callB (call_min2 rfl) (by rfl) T.f_min (by decide +kernel) (pa_cons (pe_fld (pv 0) rfl) (pa_cons (pe_fld (pv 0) rfl) pa_nil))))
      (pss_cons (ps_fldaug (pv 0) (pv 2) in_sub)
      (pss_one (ps_ret (pe_tup (pa_cons (pe_mt (pv 0) T.k_Reach T.me_Reach_give (ok_Reach_give T) hr (by decide) lets (pa_cons (pe_op op_add (pe_fld (pv 0) rfl) (pv 1)) pa_nil)) (pa_cons (pv 2) pa_nil))))))), ?_⟩
  (refine ⟨_, rfl, _, _, _, _, _, rfl, (by walk_at "hf"), T.k_Reach, T.n_Reach_leaks, lk_Reach_leaks _, _, rfl, _, _, _, _, _, rfl, (by walk_at "hf"), T.k_Reach, T.n_Reach_water, lk_Reach_water _, _, _, rfl, _, rfl, _, _, _, _, _, rfl, (by walk_at "hf"), T.k_Reach, T.n_Reach_water, lk_Reach_water _, ⟨_, rfl, _, _, rfl, rfl, _, _, (by walk_at "hf"), (by walk_at "few"), ?_⟩⟩; rw [pt_Reach_water])
  (refine ⟨_, rfl, _, _, _, rfl, (by walk_at "hf"), nm_Reach_give _, _, rfl, _, _, _, _, _, rfl, (by walk_at "hf"), T.k_Reach, T.n_Reach_comes, lk_Reach_comes _, _, rfl, _, _, rfl, rfl, ?_⟩)
  refine ⟨_, _, rfl, _, _, _, _, rfl, rfl, (by walk_at "hf"), fun z => absurd hn (Int.not_le.mpr z), fun _ => ?_⟩
  refine ⟨_, rfl, (by walk_at "few"), ?_⟩
  rw [upd_upd]
  exact k
end
def spInit (K : PySem.W.Frag) : Sp := Sp8 fun x x1 x2 x3 x4 x5 x6 x7 H Q E => ∃ a dx r, x = .ref a ∧ H a = some (.ins (He.ga K "Reach") dx []) ∧ x1 = .str r.name ∧ x2 = .int r.w ∧ x3 = .int r.least ∧ x4 = .int r.most ∧ x5 = .int r.comes ∧ x6 = .int r.leaks ∧ x7 = .int r.minutes ∧
  (badR r = true → E (RErr K) none H) ∧ (badR r = false → Q .non (upd H a (RchO K dx r)))
section
variable {P : Program} {w : World} {K : PySem.W.Frag} {mg : Str → Option Value} {base : Heap}
theorem ok_Reach_init (T : Txt K mg base) : Pr P w K mg base 1 (He.fAd K ("Reach", some "__init__")) ["self", "name", "water", "least", "most", "comes", "leaks", "minutes"] (spInit K) := by
  refine mk_pr T.d_Reach_init rfl sc_Reach_init (fun _ _ _ _ _ _ us hl => match us, hl with | [_, _, _, _, _, _, _, _], _ => rfl) len8 (fun cdv A outer s H vs Q E hr h => ?_)
  have nd := sc_Reach_init.nd
  obtain ⟨x, x1, x2, x3, x4, x5, x6, x7, rfl, a, dx, r, rfl, h1, rfl, rfl, rfl, rfl, rfl, rfl, rfl, e, k⟩ := h
  refine ⟨_, (pss_cons (ps_if (PW.pt (pw_or (pt_not (pt_ch pe_int (ch_link op_le (pv 3) (ch_link op_le (pv 2) (ch_link op_le (pv 4) (ch_last op_le ((pe_gint T.c_MOST_WATER)))))))) (pw_or (pt_cmpR op_lt (pe_callB (call_min2 rfl) (by rfl) T.f_min (by decide +kernel) (pa_cons (pv 5) (pa_cons (pv 6) pa_nil))) pe_int (nomark _)) (pw_or1 (pt_cmpR op_lt (pv 7) pe_int (nomark _))))))
        (pss_one (ps_err takes T.e_ReachError T.g_ReachError))
        pss_nil)
      (pss_cons (ps_fld (pv 0) (pv 1) rfl)
      (pss_cons (ps_fld (pv 0) (pv 2) rfl)
      (pss_cons (ps_fld (pv 0) (pv 3) rfl)
      (pss_cons (ps_fld (pv 0) (pv 4) rfl)
      (pss_cons (ps_fld (pv 0) (pv 5) rfl)
      (pss_cons (ps_fld (pv 0) (pv 6) rfl)
      (pss_one (ps_fld (pv 0) (pv 7) rfl))))))))), ?_⟩
  (refine ifs_p (or_p (not_p (ch_p (fun _ k => k) (link_p (fun _ k => ⟨_, rfl, k⟩) rI_p (fun hg => (link_p (fun _ k => ⟨_, rfl, k⟩) rI_p (fun hg => (link_p (fun _ k => ⟨_, rfl, k⟩) rI_p (fun hg => (last_p (fun _ k => k) rI_p))))))))) (fun hg => (or_p (test_p (fun _ k => ⟨_, rfl, _, rfl, _, _, rfl, _, _, rfl, rfl, k⟩)) (fun hg => (test_p (fun _ k => ⟨_, rfl, _, _, rfl, rfl, k⟩)))))) (fun hd => ?_) (fun hd => ?_))
  · exact e hd
  · refine ⟨_, rfl, _, rfl, _, _, _, _, rfl, h1, T.k_Reach, T.n_Reach_name, (by walk_at "few"), ?_⟩
    refine ⟨_, rfl, _, rfl, _, _, _, _, rfl, upd_same, T.k_Reach, T.n_Reach_water, (by walk_at "few"), ?_⟩; rw [upd_upd]
    refine ⟨_, rfl, _, rfl, _, _, _, _, rfl, upd_same, T.k_Reach, T.n_Reach_least, (by walk_at "few"), ?_⟩; rw [upd_upd]
    refine ⟨_, rfl, _, rfl, _, _, _, _, rfl, upd_same, T.k_Reach, T.n_Reach_most, (by walk_at "few"), ?_⟩; rw [upd_upd]
    refine ⟨_, rfl, _, rfl, _, _, _, _, rfl, upd_same, T.k_Reach, T.n_Reach_comes, (by walk_at "few"), ?_⟩; rw [upd_upd]
    refine ⟨_, rfl, _, rfl, _, _, _, _, rfl, upd_same, T.k_Reach, T.n_Reach_leaks, (by walk_at "few"), ?_⟩; rw [upd_upd]
    refine ⟨_, rfl, _, rfl, _, _, _, _, rfl, upd_same, T.k_Reach, T.n_Reach_minutes, (by walk_at "few"), ?_⟩; rw [upd_upd, mk_Reach]
    exact k hd
end
end K1
namespace K1
open PySem PySem.Spec PyProof.Rows L2 Cn
local macro_rules | `(tactic| walk_at "few") => `(tactic| exact Nat.le_of_ble_eq_true rfl)
local macro_rules | `(tactic| walk_at "ne") => `(tactic| first | assumption | (apply Ne.symm; assumption) | exact ne_of_none (by assumption) (by assumption) | exact (ne_of_none (by assumption) (by assumption)).symm)
local macro_rules | `(tactic| walk_at "hf") => `(tactic| first | assumption | exact upd_same | (refine Eq.trans (upd_ne (by walk_at "ne")) ?_; walk_at "hf"))
/-! ### a ladder -/
structure LadS where
  rs : List RowS
  lk : Int
  sp : Int
  cm : Int
structure LadP where
  a : Addr
  dx : Addr
  t : Addr
  pl : List (Addr × Addr)
structure LF where
  t : Addr
  lk : Int
  sp : Int
  cm : Int
def ladF (f : LF) : List (Str × V) := [("reaches", .ref f.t), ("leaked", .int f.lk), ("spilled", .int f.sp), ("came", .int f.cm)]
theorem lk_Ladder_reaches (r : LF) : (ladF r).lookup ("reaches" : Str) = some (.ref r.t) := by kernel_rfl
theorem lk_Ladder_leaked (r : LF) : (ladF r).lookup ("leaked" : Str) = some (.int r.lk) := by kernel_rfl
theorem pt_Ladder_leaked (r : LF) (v : Int) : putF "leaked" (.int v) (ladF r) = ladF { r with lk := v } := by kernel_rfl
theorem lk_Ladder_spilled (r : LF) : (ladF r).lookup ("spilled" : Str) = some (.int r.sp) := by kernel_rfl
theorem pt_Ladder_spilled (r : LF) (v : Int) : putF "spilled" (.int v) (ladF r) = ladF { r with sp := v } := by kernel_rfl
theorem lk_Ladder_came (r : LF) : (ladF r).lookup ("came" : Str) = some (.int r.cm) := by kernel_rfl
theorem pt_Ladder_came (r : LF) (v : Int) : putF "came" (.int v) (ladF r) = ladF { r with cm := v } := by kernel_rfl
theorem nm_Ladder_hour (r : LF) : (ladF r).lookup ("hour" : Str) = none := by kernel_rfl
theorem nm_Ladder_give (r : LF) : (ladF r).lookup ("give" : Str) = none := by kernel_rfl
theorem nm_Ladder_whole (r : LF) : (ladF r).lookup ("whole" : Str) = none := by kernel_rfl
theorem nm_Ladder_place_of (r : LF) : (ladF r).lookup ("place_of" : Str) = none := by kernel_rfl
theorem nm_Ladder_hours_until_short (r : LF) : (ladF r).lookup ("hours_until_short" : Str) = none := by kernel_rfl
theorem mk_Ladder (t : Addr) (l s c : Int) : putF "came" (.int c) (putF "spilled" (.int s) (putF "leaked" (.int l) (putF "reaches" (.ref t) []))) = ladF ⟨t, l, s, c⟩ := by kernel_rfl
abbrev LadO (K : PySem.W.Frag) (dx : Addr) (f : LF) : HO := .ins (He.ga K "Ladder") dx (ladF f)
def RowsAt (K : PySem.W.Frag) (H : Hp) (pl : List (Addr × Addr)) (rs : List RowS) : Prop := pl.length = rs.length ∧ ∀ (i : Nat) (q : Addr × Addr) (r : RowS), pl[i]? = some q → rs[i]? = some r → H q.1 = some (RchO K q.2 r)
structure LadAt (K : PySem.W.Frag) (H : Hp) (p : LadP) (L : LadS) : Prop where
  o : H p.a = some (LadO K p.dx ⟨p.t, L.lk, L.sp, L.cm⟩)
  t : H p.t = some (.tup (p.pl.map fun q => V.ref q.1))
  r : RowsAt K H p.pl L.rs
  n : (p.pl.map (·.1)).Nodup
  z : p.pl.length ≤ 64
def foot (p : LadP) : List Addr := p.a :: p.pl.map (·.1)
theorem foot_ne {p : LadP} {i : Nat} {q : Addr × Addr} (h : p.pl[i]? = some q) : q.1 ∈ foot p := List.mem_cons_of_mem _ (List.mem_map_of_mem (List.mem_of_getElem? h))
section
variable {K : PySem.W.Frag} {H H' : Hp} {p : LadP} {L : LadS} {pl : List (Addr × Addr)} {rs : List RowS} {i : Nat} {q : Addr × Addr} {r r' : RowS}
theorem RowsAt.get (h : RowsAt K H pl rs) (hq : pl[i]? = some q) : ∃ r, rs[i]? = some r ∧ ReachAt K H q.1 q.2 r := by
  have hl : i < rs.length := by
    obtain ⟨z, _⟩ := List.getElem?_eq_some_iff.mp hq
    exact h.1 ▸ z
  exact ⟨rs[i], by simp [hl], h.2 i q _ hq (by simp [hl])⟩
theorem RowsAt.mono (h : RowsAt K H pl rs) (k : ∀ q ∈ pl, ∀ r, ReachAt K H q.1 q.2 r → ReachAt K H' q.1 q.2 r) : RowsAt K H' pl rs := ⟨h.1, fun i q r a b => k q (List.mem_of_getElem? a) r (h.2 i q r a b)⟩
theorem RowsAt.set (h : RowsAt K H pl rs) (n : (pl.map (·.1)).Nodup) (hq : pl[i]? = some q) : RowsAt K (upd H q.1 (RchO K q.2 r')) pl (rs.set i r') := by
  refine ⟨by rw [List.length_set]; exact h.1, fun j q2 r2 a b => ?_⟩
  by_cases e : i = j
  · subst e
    rw [hq] at a
    cases a
    have hl : i < rs.length := by
      obtain ⟨z, _⟩ := List.getElem?_eq_some_iff.mp hq
      exact h.1 ▸ z
    rw [List.getElem?_set_self hl] at b
    cases b
    exact upd_same
  · rw [List.getElem?_set_ne e] at b
    have ne : q2.1 ≠ q.1 := fun z => e (by
      have h1 : (pl.map (·.1))[i]? = some q.1 := by rw [List.getElem?_map, hq] <;> rfl
      have h2 : (pl.map (·.1))[j]? = some q.1 := by rw [List.getElem?_map, a, ← z] <;> rfl
      obtain ⟨l1, e1⟩ := List.getElem?_eq_some_iff.mp h1
      obtain ⟨l2, e2⟩ := List.getElem?_eq_some_iff.mp h2
      exact (List.getElem_inj n).mp (e1.trans e2.symm))
    exact (upd_ne ne).trans (h.2 j q2 r2 a b)
theorem ins_ne {a b dx dx2 : Addr} {f : LF} (h : H a = some (LadO K dx f)) (h2 : ReachAt K H b dx2 r) : a ≠ b := fun e => by
  rw [e, h2] at h
  injection h with h
  injection h with _ _ h
  exact absurd (congrArg List.length h) (by show ¬ (7 = 4); decide)
theorem tup_ne {a b dx2 : Addr} {xs : List V} (h : H a = some (.tup xs)) (h2 : ReachAt K H b dx2 r) : a ≠ b := fun e => by
  rw [e, h2] at h
  cases h
theorem LadAt.ta (h : LadAt K H p L) : p.t ≠ p.a := fun e => by
  have h1 := h.t
  rw [e, h.o] at h1
  cases h1
theorem LadAt.row (h : LadAt K H p L) (hq : p.pl[i]? = some q) : LadAt K (upd H q.1 (RchO K q.2 r')) p { L with rs := L.rs.set i r' } := by
  obtain ⟨r, _, hr⟩ := h.r.get hq
  exact ⟨(upd_ne (ins_ne h.o hr)).trans h.o, (upd_ne (tup_ne h.t hr)).trans h.t, h.r.set h.n hq, h.n, h.z⟩
theorem LadAt.put (h : LadAt K H p L) {l s c : Int} : LadAt K (upd H p.a (LadO K p.dx ⟨p.t, l, s, c⟩)) p { L with lk := l, sp := s, cm := c } := by
  refine ⟨upd_same, (upd_ne h.ta).trans h.t, h.r.mono fun q hq r hr => (upd_ne (Ne.symm (ins_ne h.o hr))).trans hr, h.n, h.z⟩
theorem LadAt.new (h : LadAt K H p L) {b : Addr} {o : HO} (n : H b = none) : LadAt K (upd H b o) p L :=
  ⟨(upd_ne (ne_of_none h.o n)).trans h.o, (upd_ne (ne_of_none h.t n)).trans h.t, h.r.mono fun q hq r hr => (upd_ne (ne_of_none hr n)).trans hr, h.n, h.z⟩
theorem LadAt.fr {T : List (Addr × Str)} {S : List Addr} (h : LadAt K H p L) (f : Fr T S H H') (ha : p.a ∉ S) (ht : p.t ∉ S) (hq : ∀ q ∈ p.pl, q.1 ∉ S) : LadAt K H' p L :=
  ⟨f.i h.o ha, f.t h.t ht, h.r.mono fun q z r hr => f.i hr (hq q z), h.n, h.z⟩
end
theorem map_get {α : Type} {f : α → V} {l : List α} {i : Nat} {x : V} (h : (l.map f)[i]? = some x) : ∃ q, l[i]? = some q ∧ x = f q := by
  rw [List.getElem?_map] at h
  cases e : l[i]? with
  | none => rw [e] at h; cases h
  | some q => rw [e] at h; exact ⟨q, rfl, (Option.some.inj h).symm⟩
/-! an hour -/
def hrow (ab : Int) (r : RowS) : RowS := giveS (dryS r) (r.comes + ab)
def hab (ab : Int) (r : RowS) : Int := overS (dryS r) (r.comes + ab)
structure HSt where
  L : LadS
  ab : Int
def hrun (s : HSt) (i : Nat) (r : RowS) : HSt := ⟨{ s.L with rs := s.L.rs.set i (hrow s.ab r), lk := s.L.lk + leakS r, cm := s.L.cm + r.comes }, hab s.ab r⟩
def hstep (i : Nat) (s : HSt) : HSt := match s.L.rs[i]? with
  | some r => hrun s i r
  | none => s
def itN {α : Type} (f : Nat → α → α) : Nat → α → α
  | 0, s => s
  | n + 1, s => f n (itN f n s)
def hourS (L : LadS) : LadS := let s := itN hstep L.rs.length ⟨L, 0⟩; { s.L with sp := s.L.sp + s.ab }
def Gd (r : RowS) : Prop := 0 ≤ r.least ∧ 0 ≤ r.w ∧ r.w ≤ r.most ∧ r.most ≤ 1000000 ∧ 0 ≤ r.comes ∧ 0 ≤ r.leaks ∧ 1 ≤ r.minutes
def GdL (L : LadS) : Prop := ∀ r ∈ L.rs, Gd r
theorem max0_le (a b : Int) : a ≤ max0 a b ∧ b ≤ max0 a b ∧ (max0 a b = a ∨ max0 a b = b) := by
  unfold max0
  split <;> omega
theorem min0_le (a b : Int) : min0 a b ≤ a ∧ min0 a b ≤ b ∧ (min0 a b = a ∨ min0 a b = b) := by
  unfold min0
  split <;> omega
theorem Gd.give {r : RowS} {n : Int} (g : Gd r) (hn : 0 ≤ n) : Gd (giveS r n) ∧ 0 ≤ overS r n := by
  obtain ⟨h1, h2, h3, h4, h5, h6, h7⟩ := g
  have := max0_le 0 (r.w + n - r.most)
  unfold giveS Gd overS
  simp only
  refine ⟨⟨h1, ?_, ?_, h4, h5, h6, h7⟩, ?_⟩ <;> omega
theorem Gd.dry {r : RowS} (g : Gd r) : Gd (dryS r) := by
  obtain ⟨h1, h2, h3, h4, h5, h6, h7⟩ := g
  have := min0_le r.leaks r.w
  unfold dryS Gd leakS
  simp only
  refine ⟨h1, ?_, ?_, h4, h5, h6, h7⟩ <;> omega
theorem Gd.hour {r : RowS} {ab : Int} (g : Gd r) (h : 0 ≤ ab) : Gd (hrow ab r) ∧ 0 ≤ hab ab r := g.dry.give (by
  obtain ⟨h1, h2, h3, h4, h5, h6, h7⟩ := g
  omega)
theorem hstep_get {s : HSt} {i : Nat} {r : RowS} (h : s.L.rs[i]? = some r) : hstep i s = hrun s i r := by
  unfold hstep
  rw [h]
theorem hstep_len {s : HSt} {i : Nat} : (hstep i s).L.rs.length = s.L.rs.length := by
  unfold hstep
  split
  · exact List.length_set
  · rfl
theorem itN_len {s : HSt} : ∀ n, (itN hstep n s).L.rs.length = s.L.rs.length
  | 0 => rfl
  | n + 1 => hstep_len.trans (itN_len n)
theorem hstep_gd {s : HSt} {i : Nat} (h : GdL s.L ∧ 0 ≤ s.ab) : GdL (hstep i s).L ∧ 0 ≤ (hstep i s).ab := by
  unfold hstep
  split
  · rename_i r e
    have g := (h.1 r (List.mem_of_getElem? e)).hour h.2
    refine ⟨fun r2 m => ?_, g.2⟩
    rcases List.mem_or_eq_of_mem_set m with z | z
    · exact h.1 r2 z
    · rw [z]; exact g.1
  · exact h
theorem itN_gd {s : HSt} (h : GdL s.L ∧ 0 ≤ s.ab) : ∀ n, GdL (itN hstep n s).L ∧ 0 ≤ (itN hstep n s).ab
  | 0 => h
  | n + 1 => hstep_gd (itN_gd h n)
theorem hourS_gd {L : LadS} (h : GdL L) : GdL (hourS L) := (itN_gd (s := ⟨L, 0⟩) ⟨h, Int.le_refl 0⟩ _).1
theorem hourS_len {L : LadS} : (hourS L).rs.length = L.rs.length := itN_len (s := ⟨L, 0⟩) _
def spLHour (K : PySem.W.Frag) : Sp := Sp1 fun x H Q _ => ∃ p L, x = .ref p.a ∧ LadAt K H p L ∧ GdL L ∧ ∀ H', Fr (FL K) (foot p) H H' → LadAt K H' p (hourS L) → Q .non H'
section
variable {P : Program} {w : World} {K : PySem.W.Frag} {mg : Str → Option Value} {base : Heap}
theorem ok_Ladder_hour (T : Txt K mg base) : Pr P w K mg base 3 (He.fAd K ("Ladder", some "hour")) ["self"] (spLHour K) := by
  refine mk_pr T.d_Ladder_hour rfl sc_Ladder_hour (fun _ _ _ _ _ _ us hl => match us, hl with | [_], _ => rfl) len1 (fun cdv A outer s H vs Q E hr h => ?_)
  have nd := sc_Ladder_hour.nd
  obtain ⟨x, rfl, p, L, rfl, h1, g, k⟩ := h
  refine ⟨_, (pss_cons (ps_set (i := 1) nd rfl (Or.inl rfl) pe_int)
      (pss_cons (ps_for owns rfl (pi_tup (pe_fld (pv 0) rfl)) (pg_name (i := 2) nd rfl (.inl rfl))
        (pss_cons (ps_fldaug (pv 0) (pe_fld (pv 2) rfl) in_add)
        (pss_cons (ps_asg (pe_mt (pv 2) T.k_Reach T.me_Reach_hour (ok_Reach_hour T) hr (by decide) lets (pa_cons (pv 1) pa_nil)) (pg_tup rfl (pgs_cons (pg_name (i := 1) nd rfl (.inl rfl)) (pgs_cons (pg_name (i := 3) nd rfl (.inl rfl)) pgs_nil))))
        (pss_one (ps_fldaug (pv 0) (pv 3) in_add)))))
      (pss_one (ps_fldaug (pv 0) (pv 1) in_add)))), ?_⟩
  refine ⟨_, rfl, _, _, _, _, _, rfl, h1.o, T.k_Ladder, T.n_Ladder_reaches, lk_Ladder_reaches _, _, rfl, ⟨_, SqT.of h1.t⟩, ?_⟩
  refine for_it walk_tup (fun i σ H' => ∃ x2 x3, σ = [some (.ref p.a), some (.int (itN hstep i ⟨L, 0⟩).ab), x2, x3] ∧ LadAt K H' p (itN hstep i ⟨L, 0⟩).L ∧ Fr (FL K) (foot p) H H') ⟨none, none, rfl, h1, Fr.refl⟩ (fun i σ H' _ ⟨_, _, _, l, _⟩ => SqT.of l.t) ?_ ?_
  · rintro i x σ H1 H2 hi ⟨x2, x3, rfl, hl, hf⟩ ⟨rfl, hx⟩
    obtain ⟨q, hq, rfl⟩ := map_get hx
    obtain ⟨r, hr, ha⟩ := hl.r.get hq
    have gd := itN_gd (s := ⟨L, 0⟩) ⟨g, Int.le_refl 0⟩ i
    have e' : itN hstep (i + 1) ⟨L, 0⟩ = hstep i (itN hstep i ⟨L, 0⟩) := rfl
    rw [e']
    generalize itN hstep i ⟨L, 0⟩ = S at *
    clear e'
    have gr := gd.1 r (List.mem_of_getElem? hr)
    rw [hstep_get hr]
    show ∃ _, _
    have ho := hl.o
    (refine ⟨_, rfl, _, _, _, _, _, rfl, (by walk_at "hf"), T.k_Ladder, T.n_Ladder_came, lk_Ladder_came _, ⟨_, rfl, _, _, _, _, _, rfl, (by walk_at "hf"), T.k_Reach, T.n_Reach_comes, lk_Reach_comes _, _, _, rfl, rfl, _, _, (by walk_at "hf"), (by walk_at "few"), ?_⟩⟩; rw [pt_Ladder_came])
    have hl2 := hl.put (l := S.L.lk) (s := S.L.sp) (c := S.L.cm + r.comes)
    have ha2 := (upd_ne (o := LadO K p.dx ⟨p.t, S.L.lk, S.L.sp, S.L.cm + r.comes⟩) (Ne.symm (ins_ne ho ha))).trans ha
    (refine ⟨_, rfl, _, _, _, rfl, (by walk_at "hf"), nm_Reach_hour _, _, rfl, ?_⟩)
    have hn : 0 ≤ r.comes + S.ab := by
      obtain ⟨_, _, _, _, g5, _, _⟩ := gr
      exact Int.add_nonneg g5 gd.2
    refine ⟨_, _, rfl, _, _, r, _, rfl, rfl, ha2, hn, fun p0 np => ?_⟩
    have hl3 := (hl2.row hq (r' := hrow S.ab r)).new np (o := .tup [.int (hab S.ab r), .int (leakS r)])
    have ho3 := hl3.o
    refine ⟨_, _, rfl, SqT.of upd_same, rfl, _, _, rfl, _, _, rfl, rfl, ?_⟩
    (refine ⟨_, rfl, _, _, _, _, _, rfl, (by walk_at "hf"), T.k_Ladder, T.n_Ladder_leaked, lk_Ladder_leaked _, ⟨_, rfl, _, _, rfl, rfl, _, _, (by walk_at "hf"), (by walk_at "few"), ?_⟩⟩; rw [pt_Ladder_leaked])
    exact ⟨_, _, rfl, hl3.put, hf.trans ((Fr.upd ho rfl (List.mem_cons_self ..)).trans ((Fr.upd ha2 rfl (foot_ne hq)).trans ((Fr.new np).trans (Fr.upd ho3 rfl (List.mem_cons_self ..)))))⟩
  · rintro σ H1 ⟨x2, x3, rfl, hl, hf⟩
    have ho := hl.o
    (refine ⟨_, rfl, _, _, _, _, _, rfl, (by walk_at "hf"), T.k_Ladder, T.n_Ladder_spilled, lk_Ladder_spilled _, ⟨_, rfl, _, _, rfl, rfl, _, _, (by walk_at "hf"), (by walk_at "few"), ?_⟩⟩; rw [pt_Ladder_spilled])
    refine k _ (hf.trans (Fr.upd ho rfl (List.mem_cons_self ..))) ?_
    have hlen : (p.pl.map fun q => V.ref q.1).length = L.rs.length := by rw [List.length_map]; exact h1.r.1
    rw [hlen]
    rw [hlen] at hl
    exact hl.put
end
end K1
namespace K1
open PySem PySem.Spec PyProof.Rows L2 Cn LamX
local macro_rules | `(tactic| walk_at "few") => `(tactic| exact Nat.le_of_ble_eq_true rfl)
local macro_rules | `(tactic| walk_at "ne") => `(tactic| first | assumption | (apply Ne.symm; assumption) | exact ne_of_none (by assumption) (by assumption) | exact (ne_of_none (by assumption) (by assumption)).symm)
local macro_rules | `(tactic| walk_at "hf") => `(tactic| first | assumption | exact upd_same | (refine Eq.trans (upd_ne (by walk_at "ne")) ?_; walk_at "hf"))
/-! what runs on down -/
def grun (s : HSt) (i : Nat) (r : RowS) : HSt := ⟨{ s.L with rs := s.L.rs.set i (giveS r s.ab) }, overS r s.ab⟩
def gstep (i0 j : Nat) (s : HSt) : HSt := match s.L.rs[i0 + j]? with
  | some r => grun s (i0 + j) r
  | none => s
def giveL (i : Nat) (n : Int) (L : LadS) : LadS := let s := itN (gstep i) (L.rs.length - i) ⟨L, n⟩; { s.L with sp := s.L.sp + s.ab }
theorem gstep_get {s : HSt} {i j : Nat} {r : RowS} (h : s.L.rs[i + j]? = some r) : gstep i j s = grun s (i + j) r := by
  unfold gstep
  rw [h]
theorem gstep_len {s : HSt} {i j : Nat} : (gstep i j s).L.rs.length = s.L.rs.length := by
  unfold gstep
  split
  · exact List.length_set
  · rfl
theorem gstep_gd {s : HSt} {i j : Nat} (h : GdL s.L ∧ 0 ≤ s.ab) : GdL (gstep i j s).L ∧ 0 ≤ (gstep i j s).ab := by
  unfold gstep
  split
  · rename_i r e
    have g := (h.1 r (List.mem_of_getElem? e)).give h.2
    refine ⟨fun r2 m => ?_, g.2⟩
    rcases List.mem_or_eq_of_mem_set m with z | z
    · exact h.1 r2 z
    · rw [z]; exact g.1
  · exact h
theorem gitN_len {s : HSt} {i : Nat} : ∀ n, (itN (gstep i) n s).L.rs.length = s.L.rs.length
  | 0 => rfl
  | n + 1 => gstep_len.trans (gitN_len n)
theorem gitN_gd {s : HSt} {i : Nat} (h : GdL s.L ∧ 0 ≤ s.ab) : ∀ n, GdL (itN (gstep i) n s).L ∧ 0 ≤ (itN (gstep i) n s).ab
  | 0 => h
  | n + 1 => gstep_gd (gitN_gd h n)
theorem giveL_gd {L : LadS} {i : Nat} {n : Int} (h : GdL L) (hn : 0 ≤ n) : GdL (giveL i n L) := (gitN_gd (s := ⟨L, n⟩) ⟨h, hn⟩ _).1
theorem giveL_len {L : LadS} {i : Nat} {n : Int} : (giveL i n L).rs.length = L.rs.length := gitN_len (s := ⟨L, n⟩) _
def badP (L : LadS) (i : Int) : Bool := !(decide (0 ≤ i) && decide (i < (L.rs.length : Int)))
theorem badP_no {L : LadS} {i : Int} (h : badP L i = false) : 0 ≤ i ∧ i < (L.rs.length : Int) := by
  simpa [badP] using h
theorem cut_drop {xs : List V} {n : Nat} (h : n ≤ xs.length) : cutV xs (some (n : Int)) none = xs.drop n := by
  unfold cutV
  rw [HT.sIx_nat, HT.sIx_none, Nat.min_eq_left h, List.take_of_length_le]
  rw [List.length_drop]
  exact Nat.le_refl _
theorem slA_drop {K : PySem.W.Frag} {T : List (Addr × Str)} {H : Hp} {t : Addr} {xs : List V} {m : Nat} {Q : VK} (h : H t = some (.tup xs)) (hm : m ≤ xs.length) (q : ∀ tt H1, H1 tt = some (.tup (xs.drop m)) → Fr T [] H H1 → Q (.ref tt) H1) : rSlA K (.ref t) (some (m : Int)) none H Q := by
  refine ⟨t, xs, rfl, SqT.of h, fun z => ?_, fun _ p np => ?_⟩
  · refine q t H ?_ Fr.refl
    have h1 := z.1
    rw [HT.sIx_nat, Nat.min_eq_left hm] at h1
    rw [h1]
    exact h
  · rw [cut_drop hm]
    exact q p _ upd_same (Fr.new np)
theorem noPart_ap {σ : L2.St} {H : Hp} {R : Option Int → Hp → Prop} (h : R none H) : tNoPart σ H R := h
def spLGive (K : PySem.W.Frag) : Sp := Sp3 fun x y z H Q E => ∃ p L i n, x = .ref p.a ∧ y = .int i ∧ z = .int n ∧ LadAt K H p L ∧ GdL L ∧ (badP L i = true → E (RErr K) none H) ∧
  (badP L i = false → n < 0 → ∀ H', Fr (FL K) [] H H' → E (RErr K) none H') ∧
  (badP L i = false → 0 ≤ n → ∀ H', Fr (FL K) (foot p) H H' → LadAt K H' p (giveL i.toNat n L) → Q .non H')
section
variable {P : Program} {w : World} {K : PySem.W.Frag} {mg : Str → Option Value} {base : Heap}
theorem LadAt.tf {H : Hp} {p : LadP} {L : LadS} (h : LadAt K H p L) {b : Addr} {xs : List V} (hb : H b = some (.tup xs)) : b ∉ foot p := fun m => by
  rcases List.mem_cons.mp m with e | m
  · rw [e, h.o] at hb
    cases hb
  · obtain ⟨q, hq, e⟩ := List.mem_map.mp m
    obtain ⟨i, hi⟩ := List.getElem?_of_mem hq
    obtain ⟨r, _, hr⟩ := h.r.get hi
    rw [← e, hr] at hb
    cases hb
theorem ok_Ladder_give (T : Txt K mg base) : Pr P w K mg base 2 (He.fAd K ("Ladder", some "give")) ["self", "place", "amount"] (spLGive K) := by
  refine mk_pr T.d_Ladder_give rfl sc_Ladder_give (fun _ _ _ _ _ _ us hl => match us, hl with | [_, _, _], _ => rfl) len3 (fun cdv A outer s H vs Q E hr h => ?_)
  have nd := sc_Ladder_give.nd
  obtain ⟨x, y, z, rfl, p, L, i, n, rfl, rfl, rfl, h1, g, e1, e2, k⟩ := h
  have hlen : (p.pl.map fun q => V.ref q.1).length = L.rs.length := by rw [List.length_map]; exact h1.r.1
  refine ⟨_, (pss_cons (ps_if (pt_not (pt_chain op_le op_lt pe_int (pv 1) (pe_callB call_len_seq (by rfl) T.f_len (by decide +kernel) (pa_cons (pe_fld (pv 0) rfl) pa_nil))))
        (pss_one (ps_err takes T.e_ReachError T.g_ReachError))
        pss_nil)
      (pss_cons (ps_for owns rfl (pi_tup (pe_slice sl_tupA (pe_fld (pv 0) rfl) (po_some (pv 1)) po_none)) (pg_name (i := 3) nd rfl (.inl rfl))
        (pss_one (ps_set (i := 2) nd rfl (Or.inl rfl) (pe_mt (pv 3) T.k_Reach T.me_Reach_give (ok_Reach_give T) hr (by decide) lets (pa_cons (pv 2) pa_nil)))))
      (pss_one (ps_fldaug (pv 0) (pv 2) in_add)))), ?_⟩
  refine ifs_p (b := badP L i) (not_p (test_p (chain_p (fun _ k => k) (fun _ k => ⟨_, rfl, k⟩) rI_p (fun hg => fun _ k => ⟨_, rfl, _, _, _, _, _, rfl, h1.o, T.k_Ladder, T.n_Ladder_reaches, lk_Ladder_reaches _, _, _, rfl, .inr (SqT.of h1.t), by rw [hlen]; exact k⟩) (fun hg => rI_p)))) (fun hd => ?_) (fun hd => ?_)
  · exact e1 hd
  obtain ⟨i0, i1⟩ := badP_no hd
  have et : ((i.toNat : Nat) : Int) = i := Int.toNat_of_nonneg i0
  generalize hm : i.toNat = m at *
  subst et
  have hm2 : m < L.rs.length := by omega
  refine ⟨_, rfl, _, _, _, _, _, rfl, h1.o, T.k_Ladder, T.n_Ladder_reaches, lk_Ladder_reaches _, _, rfl, _, rfl, ?_⟩
  refine noPart_ap ?_
  refine slA_drop (T := FL K) h1.t (by omega) fun tt H1 htt hf1 => ?_
  have h2 := h1.fr hf1 (by simp) (by simp) (by simp)
  have hdl : ((p.pl.map fun q => V.ref q.1).drop m).length = L.rs.length - m := by rw [List.length_drop, hlen]
  refine ⟨_, rfl, ⟨_, SqT.of htt⟩, ?_⟩
  refine for_it walk_tup (fun j σ H' => (0 < j → 0 ≤ n) ∧ (j = 0 → H' = H1) ∧ ∃ x3, σ = [some (.ref p.a), some (.int m), some (.int (itN (gstep m) j ⟨L, n⟩).ab), x3] ∧ LadAt K H' p (itN (gstep m) j ⟨L, n⟩).L ∧ Fr (FL K) (foot p) H1 H') ⟨fun z => absurd z (Nat.lt_irrefl 0), fun _ => rfl, none, rfl, h2, Fr.refl⟩ (fun j σ H' _ ⟨_, _, _, _, l, f⟩ => SqT.of (f.t htt (h2.tf htt))) ?_ ?_
  · rintro j x σ H3 H2 hj ⟨hn, h0, x3, rfl, hl, hf⟩ ⟨rfl, hx⟩
    rw [List.getElem?_drop] at hx
    obtain ⟨q, hq, rfl⟩ := map_get hx
    obtain ⟨r, hr, ha⟩ := hl.r.get hq
    have e' : itN (gstep m) (j + 1) ⟨L, n⟩ = gstep m j (itN (gstep m) j ⟨L, n⟩) := rfl
    have gd : 0 ≤ n → GdL (itN (gstep m) j ⟨L, n⟩).L ∧ 0 ≤ (itN (gstep m) j ⟨L, n⟩).ab := fun z => gitN_gd (s := ⟨L, n⟩) ⟨g, z⟩ j
    rw [e']
    generalize hS : itN (gstep m) j ⟨L, n⟩ = S at *
    rw [gstep_get hr]
    refine ⟨_, rfl, _, _, _, rfl, ha, nm_Reach_give _, _, rfl, _, _, rfl, _, _, r, _, rfl, rfl, ha, fun z => ?_, fun z => ?_⟩
    · have hn0 : n < 0 := by
        rcases Int.lt_or_le n 0 with w | w
        · exact w
        · exact absurd (gd w).2 (Int.not_le.mpr z)
      have j0 : j = 0 := by
        rcases Nat.eq_zero_or_pos j with w | w
        · exact w
        · exact absurd (hn w) (Int.not_le.mpr hn0)
      rw [h0 j0]
      exact e2 hd hn0 _ hf1
    · refine ⟨fun _ => ?_, fun z => absurd z (Nat.succ_ne_zero j), _, rfl, hl.row hq, hf.trans (Fr.upd ha rfl (foot_ne hq))⟩
      rcases Nat.eq_zero_or_pos j with w | w
      · subst w
        rw [← hS] at z
        exact z
      · exact hn w
  · rintro σ H2 ⟨hn, _, x3, rfl, hl, hf⟩
    have n0 := hn (by rw [hdl]; omega)
    rw [hdl] at hl ⊢
    have ho := hl.o
    (refine ⟨_, rfl, _, _, _, _, _, rfl, (by walk_at "hf"), T.k_Ladder, T.n_Ladder_spilled, lk_Ladder_spilled _, ⟨_, rfl, _, _, rfl, rfl, _, _, (by walk_at "hf"), (by walk_at "few"), ?_⟩⟩; rw [pt_Ladder_spilled])
    exact k hd n0 _ ((hf1.mono (by simp)).trans (hf.trans (Fr.upd ho rfl (List.mem_cons_self ..)))) hl.put
end
def spWhole (K : PySem.W.Frag) : Sp := Sp1 fun x H Q _ => ∃ p L, x = .ref p.a ∧ LadAt K H p L ∧ Tabs (FL K) H ∧ ∀ H', Fr (FL K) [] H H' → Q (.int (preSum (fun i => ((L.rs[i]?).map RowS.w).getD 0) L.rs.length)) H'
section
variable {P : Program} {w : World} {K : PySem.W.Frag} {mg : Str → Option Value} {base : Heap}
theorem ok_Ladder_whole (T : Txt K mg base) : Pr P w K mg base 2 (He.fAd K ("Ladder", some "whole")) ["self"] (spWhole K) := by
  refine mk_prT T.d_Ladder_whole rfl sc_Ladder_whole (fun _ _ _ _ _ _ us hl => match us, hl with | [_], _ => rfl) len1 (fun A outer s H vs Q E hr h => ?_)
  have nd := sc_Ladder_whole.nd
  obtain ⟨x, rfl, p, L, rfl, h1, ht, k⟩ := h
  refine ⟨_, (pss_one (ps_ret (pe_sumG hr (T.tb _ tm_Ladder_whole) rfl tl_Ladder_whole (tab_uniq T.nt tl_Ladder_whole) T.f_sum (pe_fld (pv 0) rfl) (peg_fld (peg_var (i := 1)) (fun _ _ => rfl)) (ix := 1) rfl (show gsB (defScope s_Ladder_whole) _ ["self", "reach"] "reach" = true from by rfl) nd (show (".0" : Str) ∉ (["self", "reach"] : List Str) from by decide +kernel)))), ?_⟩
  refine ⟨_, rfl, _, _, _, _, _, rfl, h1.o, T.k_Ladder, T.n_Ladder_reaches, lk_Ladder_reaches _, _, _, (fun i => ((L.rs[i]?).map RowS.w).getD 0), rfl, .inr (SqT.of h1.t), ht, ?_, ?_⟩
  · intro i y Hg hy he
    obtain ⟨q, hq, rfl⟩ := map_get hy
    obtain ⟨r, hr, ha⟩ := h1.r.get hq
    refine ⟨_, rfl, _, _, _, _, _, rfl, he _ _ ha (fun _ z => by cases z), T.k_Reach, T.n_Reach_water, lk_Reach_water _, ?_⟩
    show V.int r.w = V.int (((L.rs[i]?).map RowS.w).getD 0)
    rw [hr] <;> rfl
  · intro H2 he ht2
    rw [List.length_map, h1.r.1]
    exact k _ (Fr.of_ext he fun _ => ht2)
end
def spPlace (K : PySem.W.Frag) : Sp := Sp2 fun x y H Q E => ∃ p L nm, x = .ref p.a ∧ y = .str nm ∧ LadAt K H p L ∧
  (∀ i r, L.rs[i]? = some r → r.name = nm → (∀ j r', j < i → L.rs[j]? = some r' → r'.name ≠ nm) → ∀ H', Fr (FL K) [] H H' → Q (.int (i : Nat)) H') ∧
  ((∀ r ∈ L.rs, r.name ≠ nm) → ∀ H', Fr (FL K) [] H H' → E (RErr K) none H')
section
variable {P : Program} {w : World} {K : PySem.W.Frag} {mg : Str → Option Value} {base : Heap}
theorem ok_Ladder_place_of (T : Txt K mg base) : Pr P w K mg base 1 (He.fAd K ("Ladder", some "place_of")) ["self", "name"] (spPlace K) := by
  refine mk_pr T.d_Ladder_place_of rfl sc_Ladder_place_of (fun _ _ _ _ _ _ us hl => match us, hl with | [_, _], _ => rfl) len2 (fun cdv A outer s H vs Q E hr h => ?_)
  have nd := sc_Ladder_place_of.nd
  obtain ⟨x, y, rfl, p, L, nm, rfl, rfl, h1, k, e⟩ := h
  refine ⟨_, (pss_cons (ps_for owns rfl (pi_enT (by rfl) T.f_enumerate (pa_cons (pe_fld (pv 0) rfl) pa_nil)) (pg_tup rfl (pgs_cons (pg_name (i := 2) nd rfl (.inl rfl)) (pgs_cons (pg_name (i := 3) nd rfl (.inl rfl)) pgs_nil)))
        (pss_one (ps_if (pt_cmpR op_eq (pe_fld (pv 3) rfl) (pv 1) (nomark _))
          (pss_one (ps_ret (pv 2)))
          pss_nil)))
      (pss_one (ps_err takes T.e_ReachError T.g_ReachError))), ?_⟩
  refine ⟨_, rfl, _, _, _, _, _, rfl, h1.o, T.k_Ladder, T.n_Ladder_reaches, lk_Ladder_reaches _, _, _, rfl, SqT.of h1.t, ?_⟩
  refine for_it walk_enT (fun i σ H' => ∃ x2 x3, σ = [some (.ref p.a), some (.str nm), x2, x3] ∧ Fr (FL K) [] H H' ∧ ∀ j r', j < i → L.rs[j]? = some r' → r'.name ≠ nm) ⟨none, none, rfl, Fr.refl, fun j _ h => absurd h (Nat.not_lt_zero _)⟩ (fun i σ H' _ ⟨_, _, _, f, _⟩ => SqT.of (f.t h1.t (by simp))) ?_ ?_
  · rintro i x σ H1 H2 hi ⟨x2, x3, rfl, hf, hn⟩ ⟨p0, a0, b0, rfl, np, rfl, ea, eb⟩
    cases ea
    obtain ⟨q, hq, rfl⟩ := map_get eb
    obtain ⟨r, hr, ha⟩ := h1.r.get hq
    have ha2 := (upd_ne (o := .tup [.int (i : Nat), .ref q.1]) (ne_of_none (hf.i ha (by simp)) np)).trans (hf.i ha (by simp))
    have hf2 := hf.trans (Fr.new np (o := .tup [.int (i : Nat), .ref q.1]))
    refine ⟨_, _, rfl, SqT.of upd_same, rfl, _, _, rfl, _, _, rfl, rfl, ?_⟩
    (refine ifs_p (test_p (fun _ k => ⟨_, rfl, _, _, _, _, _, rfl, (by walk_at "hf"), T.k_Reach, T.n_Reach_name, lk_Reach_name _, _, rfl, rfl, k⟩)) (fun hd => ?_) (fun hd => ?_))
    · exact ⟨_, rfl, k i r hr (by simpa using hd) hn _ hf2⟩
    · refine ⟨_, _, rfl, hf2, fun j r' hj hr' => ?_⟩
      by_cases e : j = i
      · subst e
        rw [hr] at hr'
        cases hr'
        simpa using hd
      · exact hn j r' (by omega) hr'
  · rintro σ H1 ⟨x2, x3, rfl, hf, hn⟩
    refine e (fun r hr z => ?_) _ hf
    obtain ⟨i, hi⟩ := List.getElem?_of_mem hr
    refine hn i r ?_ hi z
    rw [List.length_map, h1.r.1]
    exact (List.getElem?_eq_some_iff.mp hi).1
end
end K1
namespace K1
open PySem PySem.Spec PyProof.Rows L2 Cn LamX
local macro_rules | `(tactic| walk_at "few") => `(tactic| exact Nat.le_of_ble_eq_true rfl)
local macro_rules | `(tactic| walk_at "ne") => `(tactic| first | assumption | (apply Ne.symm; assumption) | exact ne_of_none (by assumption) (by assumption) | exact (ne_of_none (by assumption) (by assumption)).symm)
local macro_rules | `(tactic| walk_at "hf") => `(tactic| first | assumption | exact upd_same | (refine Eq.trans (upd_ne (by walk_at "ne")) ?_; walk_at "hf"))
local macro_rules | `(tactic| walk_at "bk") => `(tactic| first | (dsimp only [blk_K, blk_w, blk_prog]; done) | exact rfl | (dsimp only [blk_K, blk_w, blk_prog]; exact rfl))
/-! a ladder is made -/
structure KsOf (kvs : List (Key × V)) (ns : List Str) : Prop where
  le : kvs.length ≤ ns.length
  eq : kvs.length = ns.length ↔ ns.Nodup
  mem : ∀ n, (valV kvs (.inr n)).isSome = true ↔ n ∈ ns
theorem KsOf.nil : KsOf [] [] := ⟨Nat.le_refl 0, by simp, fun n => by simp [valV_nil]⟩
theorem KsOf.put {kvs : List (Key × V)} {ns : List Str} {n : Str} {v : V} (h : KsOf kvs ns) : KsOf (putK kvs (.inr n) v) (ns ++ [n]) := by
  have hm : ∀ m, (valV (putK kvs (.inr n) v) (.inr m)).isSome = true ↔ m ∈ ns ++ [n] := fun m => by
    rw [valV_put]
    by_cases e : (Sum.inr m : Key) = .inr n
    · rw [if_pos e]
      cases e
      simp
    · rw [if_neg e, h.mem m]
      have : m ≠ n := fun z => e (by rw [z])
      simp [this]
  have hz := h.le
  by_cases hn : n ∈ ns
  · have hl : (putK kvs (.inr n) v).length = kvs.length := by
      unfold putK
      rw [valV_any, (h.mem n).mpr hn, if_pos rfl, List.length_map]
    refine ⟨by rw [hl, List.length_append]; omega, ?_, hm⟩
    rw [hl, List.length_append, List.length_singleton]
    refine ⟨fun e => by omega, fun d => ?_⟩
    rw [List.nodup_append] at d
    exact absurd rfl (d.2.2 n hn n (by simp))
  · have hl : (putK kvs (.inr n) v).length = kvs.length + 1 := by
      unfold putK
      have e : ((valV kvs (.inr n)).isSome) = false := by
        cases q : (valV kvs (.inr n)).isSome with
        | false => rfl
        | true => exact absurd ((h.mem n).mp q) hn
      rw [valV_any, e, if_neg (by decide), List.length_append] <;> rfl
    refine ⟨by rw [hl, List.length_append]; exact Nat.succ_le_succ hz, ?_, hm⟩
    rw [hl, List.length_append, List.length_singleton]
    have e := h.eq
    refine ⟨fun z => ?_, fun z => ?_⟩
    · rw [List.nodup_append]
      refine ⟨e.mp (by omega), by simp, fun x hx y hy z => hn ?_⟩
      rw [List.mem_singleton.mp hy] at z
      rw [← z]; exact hx
    · rw [List.nodup_append] at z
      have := e.mpr z.1
      omega
theorem take_next {α : Type} {l : List α} {i : Nat} {x : α} (h : l[i]? = some x) : l.take (i + 1) = l.take i ++ [x] := by
  obtain ⟨hi, e⟩ := List.getElem?_eq_some_iff.mp h
  rw [List.take_add_one, h] <;> rfl
def badL (rs : List RowS) : Bool := rs.isEmpty || !decide (rs.map RowS.name).Nodup
theorem RowsAt.nodup {K : PySem.W.Frag} {H : Hp} {pl : List (Addr × Addr)} {rs : List RowS} (h : RowsAt K H pl rs) (n : (rs.map RowS.name).Nodup) : (pl.map (·.1)).Nodup := by
  rw [List.nodup_iff_pairwise_ne, List.pairwise_iff_getElem] at n ⊢
  intro i j hi hj hij e
  rw [List.length_map] at hi hj
  have hi' : i < rs.length := h.1 ▸ hi
  have hj' : j < rs.length := h.1 ▸ hj
  have a := h.2 i pl[i] rs[i] (by simp [hi]) (by simp [hi'])
  have b := h.2 j pl[j] rs[j] (by simp [hj]) (by simp [hj'])
  rw [List.getElem_map, List.getElem_map] at e
  rw [e, b] at a
  injection a with a
  injection a with _ _ a
  have a1 := congrArg (fun l : List (Str × V) => l.lookup ("name" : Str)) a
  have a2 : some (V.str rs[j].name) = some (V.str rs[i].name) := a1
  injection a2 with a2
  injection a2 with a2
  refine n i j (by rw [List.length_map]; exact hi') (by rw [List.length_map]; exact hj') hij ?_
  rw [List.getElem_map, List.getElem_map, a2]
def spLInit (K : PySem.W.Frag) : Sp := Sp2 fun x y H Q E => ∃ a dx b pl rs, x = .ref a ∧ H a = some (.ins (He.ga K "Ladder") dx []) ∧ y = .ref b ∧ H b = some (.lst (pl.map fun q => V.ref q.1)) ∧ RowsAt K H pl rs ∧ pl.length ≤ 64 ∧
  (badL rs = true → ∀ H', Fr (FL K) [a] H H' → E (RErr K) none H') ∧
  (badL rs = false → ∀ H' t, Fr (FL K) [a] H H' → LadAt K H' ⟨a, dx, t, pl⟩ ⟨rs, 0, 0, 0⟩ → Q .non H')
section
variable {P : Program} {w : World} {K : PySem.W.Frag} {mg : Str → Option Value} {base : Heap}
theorem ok_Ladder_init (T : Txt K mg base) : Pr P w K mg base 1 (He.fAd K ("Ladder", some "__init__")) ["self", "reaches"] (spLInit K) := by
  refine mk_pr T.d_Ladder_init rfl sc_Ladder_init (fun _ _ _ _ _ _ us hl => match us, hl with | [_, _], _ => rfl) len2 (fun cdv A outer s H vs Q E hr h => ?_)
  have nd := sc_Ladder_init.nd
  obtain ⟨x, y, rfl, a, dx, b, pl, rs, rfl, h1, rfl, hb, hR, hz, e, k⟩ := h
  refine ⟨_, (pss_cons (ps_fld (pv 0) (pe_callTy call_tuple_of (by rfl) T.f_tuple (by decide +kernel) (pa_cons (pv 1) pa_nil)) rfl)
      (pss_cons (ps_fld (pv 0) pe_int rfl)
      (pss_cons (ps_fld (pv 0) pe_int rfl)
      (pss_cons (ps_fld (pv 0) pe_int rfl)
      (pss_one (ps_if (PW.pt (pw_or (pt_cmpR (op_eqT0 hr.units0) (pe_fld (pv 0) rfl) (pe_tup pa_nil) (nomark _)) (pw_or1 (pt_cmpR op_lt (pe_callB call_lenD (by rfl) T.f_len (by decide +kernel) (pa_cons (pe_dc (own := [("reach", 2)]) (by rfl) nd (pi_tup (pe_fld (pv 0) rfl)) (blkOk_by (own := [("reach", 2)]) (N := ["self", "reaches", "reach"]) (sc := defScope s_Ladder_init) (by decide +kernel)) (fun _ _ _ _ _ => PG.at_ (pg_name (i := 2) nd rfl (.inl rfl)) (by walk_at "bk")) (fun _ _ _ _ _ => pts_nil) (fun _ _ _ _ _ => PE.at_ (pe_fld (pv 2) rfl) (by walk_at "bk")) (fun _ _ _ _ _ => PE.at_ (pe_bl) (by walk_at "bk"))) pa_nil)) (pe_callB call_len_seq (by rfl) T.f_len (by decide +kernel) (pa_cons (pe_fld (pv 0) rfl) pa_nil)) (nomark _)))))
        (pss_one (ps_err takes T.e_ReachError T.g_ReachError))
        pss_nil)))))), ?_⟩
  refine ⟨_, rfl, _, _, rfl, .inl ⟨SqL.of hb, fun t0 nt => ?_⟩⟩
  have nat : a ≠ t0 := ne_of_none h1 nt
  refine ⟨_, rfl, _, _, _, _, rfl, (upd_ne nat).trans h1, T.k_Ladder, T.n_Ladder_reaches, (by walk_at "few"), ?_⟩
  refine ⟨_, rfl, _, _, _, _, rfl, upd_same, T.k_Ladder, T.n_Ladder_leaked, (by walk_at "few"), ?_⟩; rw [upd_upd]
  refine ⟨_, rfl, _, _, _, _, rfl, upd_same, T.k_Ladder, T.n_Ladder_spilled, (by walk_at "few"), ?_⟩; rw [upd_upd]
  refine ⟨_, rfl, _, _, _, _, rfl, upd_same, T.k_Ladder, T.n_Ladder_came, (by walk_at "few"), ?_⟩; rw [upd_upd, mk_Ladder]
  have hf : Fr (FL K) [a] H (upd (upd H t0 (.tup (pl.map fun q => V.ref q.1))) a (LadO K dx ⟨t0, 0, 0, 0⟩)) := (Fr.new nt).trans (Fr.upd ((upd_ne nat).trans h1) rfl (by simp))
  have hqa : ∀ q ∈ pl, ∀ r, ReachAt K H q.1 q.2 r → q.1 ≠ a := fun q _ r hr z => by
    have hr' : H q.1 = some (RchO K q.2 r) := hr
    rw [z, h1] at hr'
    injection hr' with hr'
    injection hr' with _ _ hr'
    cases hr'
  have hR0 : RowsAt K (upd (upd H t0 (.tup (pl.map fun q => V.ref q.1))) a (LadO K dx ⟨t0, 0, 0, 0⟩)) pl rs := hR.mono fun q hq r hr => (upd_ne (hqa q hq r hr)).trans ((upd_ne (ne_of_none hr nt)).trans hr)
  have ho : upd (upd H t0 (.tup (pl.map fun q => V.ref q.1))) a (LadO K dx ⟨t0, 0, 0, 0⟩) a = some (LadO K dx ⟨t0, 0, 0, 0⟩) := upd_same
  have ht : upd (upd H t0 (.tup (pl.map fun q => V.ref q.1))) a (LadO K dx ⟨t0, 0, 0, 0⟩) t0 = some (.tup (pl.map fun q => V.ref q.1)) := (upd_ne (Ne.symm nat)).trans upd_same
  generalize upd (upd H t0 (.tup (pl.map fun q => V.ref q.1))) a (LadO K dx ⟨t0, 0, 0, 0⟩) = H1 at *
  refine ⟨_, rfl, _, _, _, _, _, rfl, ho, T.k_Ladder, T.n_Ladder_reaches, lk_Ladder_reaches _, (by walk_at "few"), fun p1 n1 => ?_⟩
  have ho1 := (upd_ne (o := .tup []) (ne_of_none ho n1)).trans ho
  have ht1 := (upd_ne (o := .tup []) (ne_of_none ht n1)).trans ht
  have hR1 : RowsAt K (upd H1 p1 (.tup [])) pl rs := hR0.mono fun q hq r hr => (upd_ne (ne_of_none hr n1)).trans hr
  have hf1 := hf.trans (Fr.new n1 (o := .tup []))
  refine ⟨_, _, _, rfl, rfl, SqT.of ht1, SqT.of upd_same, _, rfl, ?_⟩
  have hf2 : ∀ H', Fr (FL K) [a] (upd H1 p1 (.tup [])) H' → Fr (FL K) [a] H H' := fun H' z => hf1.trans z
  generalize upd H1 p1 (.tup []) = H2 at *
  have hlen : (pl.map fun q => V.ref q.1).length = rs.length := by rw [List.length_map]; exact hR.1
  refine ite2 (fun hd => ?_) (fun hd => ?_)
  · refine ite_tt (e ?_ _ hf1)
    have : rs = [] := by
      have h0 : (pl.map fun q => V.ref q.1) = [] := List.isEmpty_iff.mp hd
      rw [h0] at hlen
      exact List.length_eq_zero_iff.mp hlen.symm
    rw [this] <;> rfl
  · have hne : rs.isEmpty = false := by
      cases hrs : rs with
      | cons _ _ => rfl
      | nil =>
        rw [hrs] at hlen
        exact absurd (List.isEmpty_iff.mpr (List.length_eq_zero_iff.mp hlen)) hd
    refine ⟨_, rfl, _, _, _, _, _, rfl, ho1, T.k_Ladder, T.n_Ladder_reaches, lk_Ladder_reaches _, _, rfl, ⟨_, SqT.of ht1⟩, fun D nD => ?_⟩
    have hd0 : Fr (FL K) [a] H (upd H2 D (.dK [])) := hf2 _ (Fr.new nD)
    refine dc_tup (fun i H' => ∃ kvs, H' = upd H2 D (.dK kvs) ∧ KsOf kvs ((rs.map RowS.name).take i)) ⟨[], rfl, KsOf.nil⟩ (fun i H' _ ⟨kvs, e, _⟩ => SqT.of (by rw [e, upd_ne (ne_of_none ht1 nD)]; exact ht1)) ?_ ?_
    · rintro i x H3 hx ⟨kvs, rfl, hk⟩
      obtain ⟨q, hq, rfl⟩ := map_get hx
      obtain ⟨r, hr, ha⟩ := hR1.get hq
      have hnm : (rs.map RowS.name)[i]? = some r.name := by
        rw [List.getElem?_map, hr] <;> rfl
      refine ⟨rfl, yes_it ?_⟩
      refine ⟨_, rfl, _, _, _, _, _, rfl, (upd_ne (ne_of_none ha nD)).trans ha, T.k_Reach, T.n_Reach_name, lk_Reach_name _, kvs, .inr r.name, rfl, upd_same, ?_, ?_⟩
      · have := hk.le
        rw [List.length_take] at this
        exact Nat.lt_of_le_of_lt (Nat.le_trans this (Nat.min_le_right _ _)) (by rw [List.length_map, ← hR.1]; exact Nat.lt_of_le_of_lt hz (by decide))
      · rw [upd_upd, take_next hnm]
        exact ⟨_, rfl, hk.put⟩
    · rintro H3 ⟨kvs, rfl, hk⟩
      rw [List.take_of_length_le (by rw [hlen, List.length_map]; exact Nat.le_refl _)] at hk
      have ho3 := (upd_ne (o := .dK kvs) (ne_of_none ho1 nD)).trans ho1
      have ht3 := (upd_ne (o := .dK kvs) (ne_of_none ht1 nD)).trans ht1
      refine ⟨_, _, rfl, upd_same, _, rfl, _, _, _, _, _, rfl, ho3, T.k_Ladder, T.n_Ladder_reaches, lk_Ladder_reaches _, _, _, rfl, .inr (SqT.of ht3), _, _, rfl, rfl, _, rfl, ?_⟩
      have hff := hf2 _ (Fr.new nD (o := .dK kvs))
      have hke := hk.eq
      have hkl := hk.le
      rw [List.length_map] at hke hkl
      have hlr : (pl.map fun q => V.ref q.1).length = rs.length := hlen
      refine ite2 (fun hd => e ?_ _ hff) (fun hd => k ?_ _ t0 hff ?_)
      · have hd' : (kvs.length : Int) < ((pl.map fun q => V.ref q.1).length : Int) := by simpa using hd
        unfold badL
        rw [hne, decide_eq_false (fun z => ?_)]
        · rfl
        · have := hke.mpr z
          omega
      · have hd' : ¬ (kvs.length : Int) < ((pl.map fun q => V.ref q.1).length : Int) := by simpa using hd
        unfold badL
        rw [hne, decide_eq_true (hke.mp (by omega))] <;> rfl
      · have hn : (rs.map RowS.name).Nodup := hke.mp (by
          have hd' : ¬ (kvs.length : Int) < ((pl.map fun q => V.ref q.1).length : Int) := by simpa using hd
          omega)
        exact ⟨ho3, ht3, hR1.mono fun q hq r hr => (upd_ne (ne_of_none hr nD)).trans hr, hR.nodup hn, hz⟩
end
end K1
namespace K1
open PySem PySem.Spec PyProof.Rows L2 Cn LamX
local macro_rules | `(tactic| walk_at "few") => `(tactic| exact Nat.le_of_ble_eq_true rfl)
local macro_rules | `(tactic| walk_at "ne") => `(tactic| first | assumption | (apply Ne.symm; assumption) | exact ne_of_none (by assumption) (by assumption) | exact (ne_of_none (by assumption) (by assumption)).symm)
local macro_rules | `(tactic| walk_at "hf") => `(tactic| first | assumption | exact upd_same | (refine Eq.trans (upd_ne (by walk_at "ne")) ?_; walk_at "hf"))
local macro_rules | `(tactic| walk_at "bk") => `(tactic| first | (dsimp only [blk_K, blk_w, blk_prog]; done) | exact rfl | (dsimp only [blk_K, blk_w, blk_prog]; exact rfl))
local macro_rules | `(tactic| walk_at "ht") => `(tactic| exact SqT.of (by walk_at "hf"))
local macro_rules | `(tactic| walk_at "at") => `(tactic| first | exact atI_nat (by assumption) | rfl)
theorem RowsAt.snoc {K : PySem.W.Frag} {H : Hp} {pl : List (Addr × Addr)} {rs : List RowS} {x dx : Addr} {r : RowS} (h : RowsAt K H pl rs) (k : H x = some (RchO K dx r)) : RowsAt K H (pl ++ [(x, dx)]) (rs ++ [r]) := by
  refine ⟨by rw [List.length_append, List.length_append, h.1] <;> rfl, fun i q r2 a b => ?_⟩
  by_cases e : i < pl.length
  · rw [List.getElem?_append_left e] at a
    rw [List.getElem?_append_left (h.1 ▸ e)] at b
    exact h.2 i q r2 a b
  · rw [List.getElem?_append_right (Nat.le_of_not_lt e)] at a
    rw [List.getElem?_append_right (h.1 ▸ Nat.le_of_not_lt e)] at b
    have e0 : i - pl.length = 0 := by
      obtain ⟨z, _⟩ := List.getElem?_eq_some_iff.mp a
      have z' : i - pl.length < 1 := z
      omega
    rw [e0] at a
    rw [← h.1, e0] at b
    cases a
    cases b
    exact k
/-! when a reach runs short -/
def cpy (r : RowS) : RowS := { r with least := min0 r.least r.w }
def copyL (L : LadS) : LadS := ⟨L.rs.map cpy, 0, 0, 0⟩
def wAt (L : LadS) (i : Nat) : Int := ((L.rs[i]?).map RowS.w).getD 0
def lAt (L : LadS) (i : Nat) : Int := ((L.rs[i]?).map RowS.least).getD 0
def hoursN (L : LadS) (h : Nat) : LadS := itN (fun _ => hourS) h L
def shortB (L : LadS) (i : Nat) (n : Int) (h : Nat) : Bool := decide (wAt (hoursN (copyL L) h) i - lAt L i < n)
def DueS (L : LadS) (i : Nat) (n : Int) : Option Nat → Prop
  | some h => h < 1001 ∧ shortB L i n h = true ∧ ∀ j, j < h → shortB L i n j = false
  | none => ∀ j, j < 1001 → shortB L i n j = false
def dueV : Option Nat → V
  | some h => .int (h : Nat)
  | none => .non
theorem hoursN_gd {L : LadS} (g : GdL L) : ∀ h, GdL (hoursN L h)
  | 0 => g
  | h + 1 => hourS_gd (hoursN_gd g h)
theorem hoursN_len {L : LadS} : ∀ h, (hoursN L h).rs.length = L.rs.length
  | 0 => rfl
  | h + 1 => hourS_len.trans (hoursN_len h)
theorem Gd.cpy {r : RowS} (g : Gd r) : Gd (cpy r) ∧ badR (cpy r) = false := by
  obtain ⟨h1, h2, h3, h4, h5, h6, h7⟩ := g
  have m := min0_le r.least r.w
  have m2 := min0_le r.comes r.leaks
  have a : 0 ≤ min0 r.least r.w := by omega
  refine ⟨⟨a, h2, h3, h4, h5, h6, h7⟩, ?_⟩
  have b : ¬ min0 r.comes r.leaks < 0 := by omega
  have c : min0 r.least r.w ≤ r.w := m.2.1
  unfold badR K1.cpy
  simp only
  rw [decide_eq_true a, decide_eq_true c, decide_eq_true h3, decide_eq_true h4, decide_eq_false b, decide_eq_false (by omega : ¬ r.minutes < 1)] <;> rfl
def badH (L : LadS) (i n : Int) : Bool := badP L i || decide (n < 0)
def spShort (K : PySem.W.Frag) : Sp := Sp3 fun x y z H Q E => ∃ p L i n, x = .ref p.a ∧ y = .int i ∧ z = .int n ∧ LadAt K H p L ∧ GdL L ∧ badL L.rs = false ∧ (badH L i n = true → E (RErr K) none H) ∧
  (badH L i n = false → ∀ H' d, Fr (FL K) [] H H' → DueS L i.toNat n d → Q (dueV d) H')
section
variable {P : Program} {w : World} {K : PySem.W.Frag} {mg : Str → Option Value} {base : Heap}
theorem ok_Ladder_hours_until_short (T : Txt K mg base) : Pr P w K mg base 4 (He.fAd K ("Ladder", some "hours_until_short")) ["self", "place", "amount"] (spShort K) := by
  refine mk_pr T.d_Ladder_hours_until_short rfl sc_Ladder_hours_until_short (fun _ _ _ _ _ _ us hl => match us, hl with | [_, _, _], _ => rfl) len3 (fun cdv A outer s H vs Q E hr h => ?_)
  have nd := sc_Ladder_hours_until_short.nd
  obtain ⟨x, y, z, rfl, p, L, i, n, rfl, rfl, rfl, h1, g, gl, e, k⟩ := h
  have hlen : (p.pl.map fun q => V.ref q.1).length = L.rs.length := by rw [List.length_map]; exact h1.r.1
  refine ⟨_, (pss_cons (ps_if (PW.pt (pw_or (pt_not (pt_chain op_le op_lt pe_int (pv 1) (pe_callB call_len_seq (by rfl) T.f_len (by decide +kernel) (pa_cons (pe_fld (pv 0) rfl) pa_nil)))) (pw_or1 (pt_cmpR op_lt (pv 2) pe_int (nomark _)))))
        (pss_one (ps_err takes T.e_ReachError T.g_ReachError))
        pss_nil)
      (pss_cons (ps_set (i := 3) nd rfl (Or.inl rfl) (pe_lst pa_nil))
      (pss_cons (ps_for owns rfl (pi_tup (pe_fld (pv 0) rfl)) (pg_name (i := 4) nd rfl (.inl rfl))
        (pss_cons (ps_set (i := 5) nd rfl (Or.inl rfl) (pe_callB (call_min2 rfl) (by rfl) T.f_min (by decide +kernel) (pa_cons (pe_fld (pv 4) rfl) (pa_cons (pe_fld (pv 4) rfl) pa_nil))))
        (pss_one (ps_expr (pe_bm PySem.F.plainAttrs_list PySem.F.slot_list_append PySem.F.type_list_append mt_append (pv 3) (pa_cons (pe_mk T.m_Reach (ok_Reach_init T) hr (by decide) lets T.g_Reach (pa_cons (pe_fld (pv 4) rfl) (pa_cons (pe_fld (pv 4) rfl) (pa_cons (pv 5) (pa_cons (pe_fld (pv 4) rfl) (pa_cons (pe_fld (pv 4) rfl) (pa_cons (pe_fld (pv 4) rfl) (pa_cons (pe_fld (pv 4) rfl) pa_nil)))))))) pa_nil))))))
      (pss_cons (ps_set (i := 6) nd rfl (Or.inl rfl) (pe_mk T.m_Ladder (ok_Ladder_init T) hr (by decide) lets T.g_Ladder (pa_cons (pv 3) pa_nil)))
      (pss_cons (ps_for owns rfl (pi_range1 (by rfl) T.f_range (pa_cons pe_int pa_nil)) (pg_name (i := 7) nd rfl (.inl rfl))
        (pss_cons (ps_if (pt_cmpR op_lt (pe_op op_sub (pe_fld (pe_ix ix_tup (pe_fld (pv 6) rfl) (pv 1) (fun _ _ => rfl)) rfl) (pe_fld (pe_ix ix_tup (pe_fld (pv 0) rfl) (pv 1) (fun _ _ => rfl)) rfl)) (pv 2) (nomark _))
          (pss_one (ps_ret (pv 7)))
          pss_nil)
        (pss_one (ps_expr (pe_mt0 (pv 6) T.k_Ladder T.me_Ladder_hour (ok_Ladder_hour T) hr (by decide) lets)))))
      (pss_one (ps_ret pe_non))))))), ?_⟩
  refine ifs_p (b := badH L i n) (or_p (not_p (test_p (chain_p (fun _ k => k) (fun _ k => ⟨_, rfl, k⟩) rI_p (fun hg => fun _ k => ⟨_, rfl, _, _, _, _, _, rfl, h1.o, T.k_Ladder, T.n_Ladder_reaches, lk_Ladder_reaches _, _, _, rfl, .inr (SqT.of h1.t), by rw [hlen]; exact k⟩) (fun hg => rI_p)))) (fun _ => test_p fun _ k => ⟨_, rfl, _, _, rfl, rfl, k⟩)) (fun hd => ?_) (fun hd => ?_)
  · exact e hd
  have hb : badP L i = false := by
    unfold badH at hd
    cases q : badP L i with
    | false => rfl
    | true => rw [q] at hd; cases hd
  obtain ⟨i0, i1⟩ := badP_no hb
  have et : ((i.toNat : Nat) : Int) = i := Int.toNat_of_nonneg i0
  generalize hm : i.toNat = m at *
  subst et
  have hm2 : m < L.rs.length := by omega
  refine ⟨by walk_at "few", fun b0 nb => ?_⟩
  refine ⟨_, rfl, _, _, _, _, _, rfl, (upd_ne (ne_of_none h1.o nb)).trans h1.o, T.k_Ladder, T.n_Ladder_reaches, lk_Ladder_reaches _, _, rfl, ⟨_, SqT.of ((upd_ne (ne_of_none h1.t nb)).trans h1.t)⟩, ?_⟩
  refine for_it walk_tup (fun i σ H' => ∃ x4 x5 pl, σ = [some (.ref p.a), some (.int m), some (.int n), some (.ref b0), x4, x5, none, none] ∧ H' b0 = some (.lst (pl.map fun q => V.ref q.1)) ∧ RowsAt K H' pl ((L.rs.take i).map cpy) ∧ (∀ q ∈ pl, Nw H q.1) ∧ Fr (FL K) [] H H') ⟨none, none, [], rfl, upd_same, ⟨rfl, fun i q r a => by simp at a⟩, fun q hq => by simp at hq, Fr.new nb⟩ (fun i σ H' _ ⟨_, _, _, _, _, _, _, f⟩ => SqT.of (f.t h1.t (by simp))) ?_ ?_
  · rintro j x σ H1 H2 hj ⟨x4, x5, pl, rfl, hb0, hR, hw, hf⟩ ⟨rfl, hx⟩
    obtain ⟨q, hq, rfl⟩ := map_get hx
    obtain ⟨r, hr, ha⟩ := h1.r.get hq
    have ha2 : ReachAt K H2 q.1 q.2 r := hf.i ha (by simp)
    have gr := g r (List.mem_of_getElem? hr)
    (refine ⟨_, rfl, _, _, _, _, _, rfl, (by walk_at "hf"), T.k_Reach, T.n_Reach_least, lk_Reach_least _, _, rfl, _, _, _, _, _, rfl, (by walk_at "hf"), T.k_Reach, T.n_Reach_water, lk_Reach_water _, _, _, rfl, ?_⟩)
    refine ⟨_, rfl, .inl ⟨rfl, _, SqL.of hb0⟩, ?_⟩
    (refine ⟨_, rfl, _, _, _, _, _, rfl, (by walk_at "hf"), T.k_Reach, T.n_Reach_name, lk_Reach_name _, _, rfl, _, _, _, _, _, rfl, (by walk_at "hf"), T.k_Reach, T.n_Reach_water, lk_Reach_water _, _, rfl, _, rfl, _, _, _, _, _, rfl, (by walk_at "hf"), T.k_Reach, T.n_Reach_most, lk_Reach_most _, _, rfl, _, _, _, _, _, rfl, (by walk_at "hf"), T.k_Reach, T.n_Reach_comes, lk_Reach_comes _, _, rfl, _, _, _, _, _, rfl, (by walk_at "hf"), T.k_Reach, T.n_Reach_leaks, lk_Reach_leaks _, _, rfl, _, _, _, _, _, rfl, (by walk_at "hf"), T.k_Reach, T.n_Reach_minutes, lk_Reach_minutes _, ?_⟩)
    intro x dx nx ndx hne
    refine ⟨_, _, _, _, _, _, _, _, rfl, x, dx, cpy r, rfl, upd_same, rfl, rfl, rfl, rfl, rfl, rfl, rfl, fun z => ?_, fun _ => ⟨rfl, ?_⟩⟩
    · rw [gr.cpy.2] at z
      cases z
    rw [upd_upd]
    have fm : Fr (FL K) [] H2 (upd (upd H2 dx (.own x)) x (RchO K dx (cpy r))) := Fr.make nx ndx hne
    have hb2 := fm.l hb0 (by simp)
    have hlt : (pl.map fun q => V.ref q.1).length < sizeLine := by
      have z := hR.1
      rw [List.length_map, List.length_take] at z
      rw [List.length_map, z]
      have := h1.z
      have := h1.r.1
      exact Nat.lt_of_le_of_lt (Nat.le_trans (Nat.min_le_right _ _) (by omega : L.rs.length ≤ 64)) (by decide)
    refine ⟨_, _, _, rfl, rfl, hb2, hlt, ?_⟩
    have nxb : x ≠ b0 := ne_of_none hb0 nx |>.symm
    refine ⟨_, _, pl ++ [(x, dx)], rfl, ?_, ?_, fun q hq => (List.mem_append.mp hq).elim (hw q) (fun z => by rw [List.mem_singleton.mp z]; exact Nw.of hf nx (by simp)), hf.transN (fm.mono (by simp) |>.trans (Fr.upd hb2 rfl (List.mem_singleton.mpr rfl))) fun b hb => .inr (by rw [List.mem_singleton.mp hb]; exact nb)⟩
    · rw [List.map_append]
      exact upd_same
    · rw [take_next hr, List.map_append]
      refine RowsAt.snoc (hR.mono fun q hq r hr => ?_) ?_
      · have hr2 := fm.i hr (by simp)
        exact (upd_ne (fun z => by rw [z] at hr2; rw [hb2] at hr2; cases hr2)).trans hr2
      · exact (upd_ne nxb).trans upd_same
  · rintro σ H1 ⟨x4, x5, pl, rfl, hb0, hR, hw, hf⟩
    rw [List.take_of_length_le (by rw [hlen]; exact Nat.le_refl _)] at hR
    refine ⟨_, rfl, fun x dx nx ndx hne => ?_⟩
    have fm : Fr (FL K) [] H1 (upd (upd H1 dx (.own x)) x (.ins (He.ga K "Ladder") dx [])) := Fr.make nx ndx hne
    have hbc : badL (L.rs.map cpy) = false := by
      unfold badL at gl ⊢
      have : (L.rs.map cpy).map RowS.name = L.rs.map RowS.name := by rw [List.map_map] <;> rfl
      rw [this]
      cases hL : L.rs with
      | nil => rw [hL] at hm2; exact absurd hm2 (Nat.not_lt_zero _)
      | cons a b =>
        rw [hL] at gl
        exact gl
    have hz : pl.length ≤ 64 := by
      have z := hR.1
      rw [List.length_map] at z
      have := h1.z
      have := h1.r.1
      omega
    refine ⟨_, _, rfl, x, dx, b0, pl, L.rs.map cpy, rfl, upd_same, rfl, fm.l hb0 (by simp), hR.mono fun q hq r hr => fm.i hr (by simp), hz, fun z => absurd z (by rw [hbc]; decide), fun _ H2 t hf2 hl2 => ⟨rfl, ?_⟩⟩
    have hf3 : Fr (FL K) [] H H2 := hf.trans (fm.transN hf2 fun b hb => .inr (by rw [List.mem_singleton.mp hb]; exact nx))
    refine ⟨1001, rfl, by decide, by decide, ?_⟩
    refine for_it walk_range (fun i σ H' => ∃ x4 x5 x7, σ = [some (.ref p.a), some (.int m), some (.int n), some (.ref b0), x4, x5, some (.ref x), x7] ∧ LadAt K H' ⟨x, dx, t, pl⟩ (hoursN (copyL L) i) ∧ Fr (FL K) [] H H' ∧ ∀ j, j < i → shortB L m n j = false) ⟨_, _, _, rfl, hl2, hf3, fun j hj => absurd hj (Nat.not_lt_zero _)⟩ (fun _ _ _ _ _ => trivial) ?_ ?_
    · rintro i y σ H3 H4 hi ⟨x4, x5, x7, rfl, hc, hf4, hs⟩ ⟨rfl, rfl⟩
      have hp := h1.fr hf4 (by simp) (by simp) (by simp)
      have hgc : GdL (copyL L) := fun r hr => by
        obtain ⟨r0, h0, rfl⟩ := List.mem_map.mp hr
        exact (g r0 h0).cpy.1
      have hgc2 := hoursN_gd hgc i
      have hmc : m < (hoursN (copyL L) i).rs.length := by
        rw [hoursN_len]
        show m < (L.rs.map cpy).length
        rw [List.length_map]
        exact hm2
      obtain ⟨qc, hqc⟩ : ∃ q, pl[m]? = some q := ⟨pl[m]'(by rw [hc.r.1]; exact hmc), List.getElem?_eq_getElem _⟩
      obtain ⟨rc, hrc, hac⟩ := hc.r.get hqc
      obtain ⟨q, hq⟩ : ∃ q, p.pl[m]? = some q := ⟨p.pl[m]'(by rw [h1.r.1]; exact hm2), List.getElem?_eq_getElem _⟩
      obtain ⟨r, hr, ha⟩ := hp.r.get hq
      have ec : (pl.map fun q => V.ref q.1)[m]? = some (V.ref qc.1) := by rw [List.getElem?_map, hqc] <;> rfl
      have ep : (p.pl.map fun q => V.ref q.1)[m]? = some (V.ref q.1) := by rw [List.getElem?_map, hq] <;> rfl
      have hco := hc.o
      have hct := hc.t
      have hpo := hp.o
      have hpt := hp.t
      have es : shortB L m n i = decide (rc.w - r.least < n) := by
        unfold shortB wAt lAt
        rw [hrc, hr] <;> rfl
      (refine ifs_p (test_p (fun _ k => ⟨_, rfl, _, _, _, _, _, rfl, (by walk_at "hf"), T.k_Ladder, T.n_Ladder_reaches, lk_Ladder_reaches _, _, rfl, _, _, _, _, rfl, rfl, (by walk_at "ht"), (by walk_at "at"), _, _, _, _, _, rfl, (by walk_at "hf"), T.k_Reach, T.n_Reach_water, lk_Reach_water _, _, rfl, _, _, _, _, _, rfl, (by walk_at "hf"), T.k_Ladder, T.n_Ladder_reaches, lk_Ladder_reaches _, _, rfl, _, _, _, _, rfl, rfl, (by walk_at "ht"), (by walk_at "at"), _, _, _, _, _, rfl, (by walk_at "hf"), T.k_Reach, T.n_Reach_least, lk_Reach_least _, _, _, rfl, rfl, _, rfl, _, _, rfl, rfl, k⟩)) (fun hd => ?_) (fun hd => ?_))
      · refine ⟨_, rfl, ?_⟩
        have : (.int ((0 : Int) + (i : Nat)) : V) = dueV (some i) := by
          show V.int _ = V.int _
          rw [Int.zero_add]
        have kk := k (by assumption) _ (some i) hf4 ⟨hi, es.trans (by assumption), hs⟩
        rw [← this] at kk
        exact kk
      · refine ⟨_, rfl, _, _, _, rfl, hco, nm_Ladder_hour _, _, rfl, ⟨x, dx, t, pl⟩, _, rfl, hc, hgc2, fun H5 hf5 hl5 => ?_⟩
        refine ⟨_, _, _, rfl, hl5, hf4.transW hf5 fun b hbb => .inr ?_, fun j hj => ?_⟩
        · rcases List.mem_cons.mp hbb with z | z
          · rw [z]
            exact Nw.of hf nx (by simp)
          · obtain ⟨q, hq, z⟩ := List.mem_map.mp z
            rw [← z]
            exact hw q hq
        · rcases Nat.lt_succ_iff_lt_or_eq.mp hj with z | z
          · exact hs j z
          · rw [z, es]
            assumption
    · rintro σ H3 ⟨x4, x5, x7, rfl, hc, hf4, hs⟩
      exact k (by assumption) _ none hf4 hs
end
end K1
namespace K1
open PySem PySem.Spec PyProof.Rows L2 Cn LamX
local macro_rules | `(tactic| walk_at "few") => `(tactic| exact Nat.le_of_ble_eq_true rfl)
local macro_rules | `(tactic| walk_at "ne") => `(tactic| first | assumption | (apply Ne.symm; assumption) | exact ne_of_none (by assumption) (by assumption) | exact (ne_of_none (by assumption) (by assumption)).symm)
local macro_rules | `(tactic| walk_at "hf") => `(tactic| first | assumption | exact upd_same | (refine Eq.trans (upd_ne (by walk_at "ne")) ?_; walk_at "hf"))
local macro_rules | `(tactic| walk_at "bk") => `(tactic| first | (dsimp only [blk_K, blk_w, blk_prog]; done) | exact rfl | (dsimp only [blk_K, blk_w, blk_prog]; exact rfl))
local macro_rules | `(tactic| walk_at "ht") => `(tactic| exact SqT.of (by walk_at "hf"))
local macro_rules | `(tactic| walk_at "at") => `(tactic| first | exact atI_nat (by assumption) | rfl)
local macro_rules | `(tactic| walk_at "nz") => `(tactic| first | omega | exact ⟨by omega, by omega⟩)
local macro_rules | `(tactic| walk_at "ix") => `(tactic| first | assumption | rfl)
local macro_rules | `(tactic| walk_at "sq") => `(tactic| first | exact .inl (SqL.of (by walk_at "hf")) | exact .inr (SqT.of (by walk_at "hf")))
/-! the dice of the law -/
abbrev DiceO (a b c : Int) : HO := .lst [.int a, .int b, .int c]
def spDice : Sp := Sp1 fun x H Q _ => ∃ c, x = .int c ∧ ∀ p a b d, H p = none → Q (.ref p) (upd H p (DiceO a b d))
section
variable {P : Program} {w : World} {K : PySem.W.Frag} {mg : Str → Option Value} {base : Heap}
theorem ok_law_dice (T : Txt K mg base) : Pr P w K mg base 1 (He.fAd K ("_law_dice", none)) ["cell"] spDice := by
  refine mk_pr T.d_law_dice rfl sc_law_dice (fun _ _ _ _ _ _ us hl => match us, hl with | [_], _ => rfl) len1 (fun cdv A outer s H vs Q E hr h => ?_)
  have nd := sc_law_dice.nd
  obtain ⟨x, rfl, c, rfl, k⟩ := h
  refine ⟨_, (pss_cons (ps_if (pt_chain op_lt op_lt (pe_op op_sub pe_int pe_int) (pv 0) pe_int)
        (pss_one (ps_ret (pe_lst (pa_cons (pe_callB call_abs (by rfl) T.f_abs (by decide +kernel) (pa_cons (pv 0) pa_nil)) (pa_cons pe_int (pa_cons pe_int pa_nil))))))
        pss_nil)
      (pss_one (ps_ret (pe_lst (pa_cons (pv 0) (pa_cons (pe_op op_add pe_int (pe_op op_mod (pe_callTy call_int1 (by rfl) T.f_int (by decide +kernel) (pa_cons (pv 0) pa_nil)) pe_int)) (pa_cons (pe_callTy call_int1 (by rfl) T.f_int (by decide +kernel) (pa_cons (pe_cmpR op_ge (pv 0) (pe_op op_pow pe_int pe_int) (nomark _)) pa_nil)) pa_nil))))))), ?_⟩
  refine ifs_p (test_p (chain_p (fun _ k => ⟨_, _, rfl, rfl, k⟩) (fun _ k => ⟨_, rfl, k⟩) rI_p (fun hg => fun _ k => k) (fun hg => rI_p))) (fun hd => ?_) (fun hd => ?_)
  · (refine ⟨_, rfl, _, rfl, (by walk_at "few"), fun pN np => ?_⟩)
    exact k pN _ _ _ np
  · (refine ⟨_, rfl, _, rfl, .inl ⟨_, rfl, _, _, rfl, rfl, (show (0 : Int) < 1009 by decide), _, _, rfl, rfl, _, rfl, _, _, rfl, rfl, ⟨by decide, by decide, by decide⟩, _, _, rfl, rfl, .inr ⟨_, rfl, (by walk_at "few"), fun pN np => ?_⟩⟩⟩)
    exact k pN _ _ _ np
end
def spRoll : Sp := Sp2 fun x y H Q _ => ∃ p a b d m, x = .ref p ∧ y = .int m ∧ H p = some (DiceO a b d) ∧ 1 ≤ m ∧ m ≤ 100000000 ∧ ∀ a' b' d' r, 0 ≤ r → r < m → Q (.int r) (upd H p (DiceO a' b' d'))
section
variable {P : Program} {w : World} {K : PySem.W.Frag} {mg : Str → Option Value} {base : Heap}
theorem ok_law_roll (T : Txt K mg base) : Pr P w K mg base 1 (He.fAd K ("_law_roll", none)) ["dice", "many"] spRoll := by
  refine mk_pr T.d_law_roll rfl sc_law_roll (fun _ _ _ _ _ _ us hl => match us, hl with | [_, _], _ => rfl) len2 (fun cdv A outer s H vs Q E hr h => ?_)
  have nd := sc_law_roll.nd
  obtain ⟨x, y, rfl, p, a, b, d, m, rfl, rfl, h1, m1, m2, k⟩ := h
  have e0 : atI [V.int a, .int b, .int d] 0 = some (.int a) := rfl
  have e1 : atI [V.int a, .int b, .int d] 1 = some (.int b) := rfl
  have e2 : atI [V.int a, .int b, .int d] 2 = some (.int d) := rfl
  refine ⟨_, (pss_cons (ps_if (PW.pt (pw_or (pt_cmpR op_eq (pe_ix ix_list (pv 0) pe_int (fun _ _ => rfl)) pe_int (nomark _)) (pw_or1 (PW.pt (pw_and (pt_cmpR op_eq (pe_ix ix_list (pv 0) pe_int (fun _ _ => rfl)) pe_int (nomark _)) (pw_and1 (pt_cmpR op_gt (pe_ix ix_list (pv 0) pe_int (fun _ _ => rfl)) pe_int (nomark _))))))))
        (pss_cons (ps_set (i := 2) nd rfl (Or.inl rfl) (pe_op op_modN (pe_callTy call_int1 (by rfl) T.f_int (by decide +kernel) (pa_cons (pe_ix ix_list (pv 0) pe_int (fun _ _ => rfl)) pa_nil)) (pv 1)))
        (pss_cons (ps_asg (pe_op op_fdivN (pe_ix ix_list (pv 0) pe_int (fun _ _ => rfl)) (pv 1)) (pg_sub (pv 0) pe_int set_list))
        (pss_one (ps_ret (pv 2)))))
        pss_nil)
      (pss_cons (ps_asg pe_int (pg_sub (pv 0) pe_int set_list))
      (pss_cons (ps_if (pt_cmpR op_gt (pv 1) pe_int (nomark _)) (pss_one ps_never) pss_nil)
      (pss_cons (ps_asg (pe_op op_mod (pe_callTy call_int1 (by rfl) T.f_int (by decide +kernel) (pa_cons (pe_op op_add (pe_op op_add (pe_op op_mul (pe_ix ix_list (pv 0) pe_int (fun _ _ => rfl)) pe_int) (pe_op op_mul (pe_ix ix_list (pv 0) pe_int (fun _ _ => rfl)) pe_int)) pe_int) pa_nil)) pe_int) (pg_sub (pv 0) pe_int set_list))
      (pss_cons (ps_asg (pe_op op_add (pe_ix ix_list (pv 0) pe_int (fun _ _ => rfl)) pe_int) (pg_sub (pv 0) pe_int set_list))
      (pss_one (ps_ret (pe_op op_modN (pe_callTy call_int1 (by rfl) T.f_int (by decide +kernel) (pa_cons (pe_op op_fdiv (pe_ix ix_list (pv 0) pe_int (fun _ _ => rfl)) pe_int) pa_nil)) (pv 1))))))))), ?_⟩
  (refine ifs_p (or_p (test_p (fun _ k => ⟨_, rfl, _, _, _, _, rfl, rfl, SqL.of (by walk_at "hf"), (by walk_at "at"), rfl, k⟩)) (fun hg => (and_p (test_p (fun _ k => ⟨_, rfl, _, _, _, _, rfl, rfl, SqL.of (by walk_at "hf"), (by walk_at "at"), rfl, k⟩)) (fun hg => (test_p (fun _ k => ⟨_, rfl, _, _, _, _, rfl, rfl, SqL.of (by walk_at "hf"), (by walk_at "at"), _, _, rfl, rfl, k⟩)))))) (fun hd => ?_) (fun hd => ?_))
  · (refine ⟨_, rfl, _, _, _, _, rfl, rfl, SqL.of (by walk_at "hf"), (by walk_at "at"), .inl ⟨_, rfl, _, rfl, _, _, rfl, rfl, (by walk_at "nz"), _, rfl, _, _, _, _, rfl, rfl, SqL.of (by walk_at "hf"), (by walk_at "at"), _, rfl, _, _, rfl, rfl, (by walk_at "nz"), _, rfl, _, _, _, _, rfl, rfl, (by walk_at "hf"), (by walk_at "ix"), _, rfl, ?_⟩⟩)
    exact k _ _ _ _ (Int.fmod_nonneg_of_pos _ (by omega)) (Int.fmod_lt_of_pos _ (by omega))
  · (refine ⟨_, rfl, _, _, _, _, rfl, rfl, (by walk_at "hf"), (by walk_at "ix"), ?_⟩)
    (refine nx_ap ?_; refine ifs_p (test_p (fun _ k => ⟨_, rfl, _, _, rfl, rfl, k⟩)) (fun hd => ?_) (fun hd => ?_))
    · exact absurd (of_decide_eq_true hd) (by omega)
    · (refine ⟨_, rfl, _, _, _, _, rfl, rfl, SqL.of (by walk_at "hf"), (by walk_at "at"), _, _, rfl, rfl, .inr ⟨by decide, by decide⟩, _, rfl, _, _, _, _, rfl, rfl, SqL.of (by walk_at "hf"), (by walk_at "at"), _, _, rfl, rfl, .inr ⟨by decide, by decide⟩, _, _, rfl, rfl, _, _, rfl, rfl, .inl ⟨_, rfl, _, _, rfl, rfl, (show (0 : Int) < 2147483647 by decide), _, rfl, _, _, _, _, rfl, rfl, (by walk_at "hf"), (by walk_at "ix"), _, rfl, _, _, _, _, rfl, rfl, SqL.of (by walk_at "hf"), (by walk_at "at"), _, _, rfl, rfl, _, rfl, _, _, _, _, rfl, rfl, (by walk_at "hf"), (by walk_at "ix"), _, rfl, _, _, _, _, rfl, rfl, SqL.of (by walk_at "hf"), (by walk_at "at"), _, _, rfl, rfl, ⟨by decide, by decide⟩, .inl ⟨_, rfl, _, rfl, _, _, rfl, rfl, (by walk_at "nz"), ?_⟩⟩⟩)
      rw [upd_upd, upd_upd]
      exact k _ _ _ _ (Int.fmod_nonneg_of_pos _ (by omega)) (Int.fmod_lt_of_pos _ (by omega))
end
/-! the rounds: one -/
theorem eqv_int (i j : Int) : PyData.eqv (.int i) (.int j) = decide (i = j) := by
  unfold PyData.eqv
  by_cases h : i = j
  · simp [h]
  · simp [h]
def spRounds (K : PySem.W.Frag) : Sp := Sp2 fun x y H Q _ => ∃ (a : Addr) (ns : List Int), x = .ref a ∧ y = .int 1 ∧ SqL K H a (ns.map V.int) ∧
  ∀ H' l p a b d, Fr (FL K) [] H H' → H' l = some (.lst [.ref p]) → H' p = some (DiceO a b d) → Q (.ref l) H'
section
variable {P : Program} {w : World} {K : PySem.W.Frag} {mg : Str → Option Value} {base : Heap}
theorem ok_law_rounds (T : Txt K mg base) : Pr P w K mg base 2 (He.fAd K ("_law_rounds", none)) ["script", "most"] (spRounds K) := by
  refine mk_pr T.d_law_rounds rfl sc_law_rounds (fun _ _ _ _ _ _ us hl => match us, hl with | [_, _], _ => rfl) len2 (fun cdv A outer s H vs Q E hr h => ?_)
  have nd := sc_law_rounds.nd
  obtain ⟨x, y, rfl, a, ns, rfl, rfl, h1, k⟩ := h
  refine ⟨_, (pss_cons (ps_set (i := 2) nd rfl (Or.inl rfl) (pe_slice sl_list (pv 0) po_none (po_some (pv 1))))
      (pss_cons (ps_if (pt_cmpR (op_eqD hr.units) (pv 2) (pe_lst pa_nil) (nomark _))
        (pss_one (ps_set (i := 2) nd rfl (Or.inl rfl) (pe_lst (pa_cons pe_int pa_nil))))
        pss_nil)
      (pss_one (ps_ret (pe_lc (own := [("cell", 3)]) (by rfl) nd (pi_list (pv 2)) (blkOk_by (own := [("cell", 3)]) (N := ["script", "most", "cells", "cell"]) (sc := defScope s_law_rounds) (by decide +kernel)) (fun _ _ _ _ _ => PG.at_ (pg_name (i := 3) nd rfl (.inl rfl)) (by walk_at "bk")) (fun _ _ _ _ _ => PTs.at_ (pts_nil) (by walk_at "bk")) (fun _ _ _ _ _ => PE.at_ (pe_fn (ok_law_dice T) hr (by decide) passL T.g_law_dice (pa_cons (pv 3) pa_nil)) (by walk_at "bk"))))))), ?_⟩
  refine ⟨_, rfl, _, rfl, _, rfl, _, _, rfl, h1, fun c nc => ?_⟩
  have hcut : cutV (ns.map V.int) none (some 1) = (ns.take 1).map V.int := by
    unfold cutV
    rw [HT.sIx_none, List.drop_zero, Nat.sub_zero, show (some (1 : Int)) = some ((1 : Nat) : Int) from rfl, HT.sIx_nat, List.map_take]
    exact List.take_eq_take_min.symm
  rw [hcut]
  have hc : upd H c (.lst ((ns.take 1).map V.int)) c = some (.lst ((ns.take 1).map V.int)) := upd_same
  have f1 : Fr (FL K) [] H (upd H c (.lst ((ns.take 1).map V.int))) := Fr.new nc
  generalize upd H c (.lst ((ns.take 1).map V.int)) = H1 at *
  refine nx_ap ?_
  refine seqJ (fun σ H' => ∃ c z, σ = [some (.ref a), some (.int 1), some (.ref c), none] ∧ H' c = some (.lst [.int z]) ∧ Fr (FL K) [] H H') (fun R hR => ?_) ?_
  · refine ⟨_, rfl, by walk_at "few", fun e ne => ?_⟩
    have hc2 := (upd_ne (o := .lst []) (ne_of_none hc ne)).trans hc
    have f2 := f1.trans (Fr.new ne (o := .lst []))
    cases ns with
    | nil =>
      refine ⟨_, _, .lst (SqL.of hc2) .nil, .lst (SqL.of upd_same) .nil, rfl, rfl, _, rfl, ?_⟩
      refine ite_tt ?_
      (refine ⟨(by walk_at "few"), fun pN np => ?_⟩)
      exact hR _ _ ⟨pN, 0, rfl, upd_same, f2.trans (Fr.new np)⟩
    | cons n r =>
      refine ⟨_, _, .lst (SqL.of hc2) (.cons (.int n) .nil), .lst (SqL.of upd_same) .nil, rfl, rfl, _, rfl, ?_⟩
      refine ite_ff ?_
      exact hR _ _ ⟨c, n, rfl, hc2, f2⟩
  · rintro σ H2 ⟨c, z, rfl, hc, f2⟩
    refine ⟨_, rfl, _, rfl, ⟨_, SqL.of hc⟩, fun D nD => ?_⟩
    refine lc_list (fun i H' => Fr (FL K) [] H H' ∧ H' c = some (.lst [.int z]) ∧ ((i = 0 ∧ H' D = some (.lst [])) ∨ (i = 1 ∧ ∃ p a b d, H' D = some (.lst [.ref p]) ∧ H' p = some (DiceO a b d)))) ⟨f2.trans (Fr.new nD), (upd_ne (ne_of_none hc nD)).trans hc, .inl ⟨rfl, upd_same⟩⟩ (fun i H' _ h => SqL.of h.2.1) ?_ ?_
    · rintro i x H3 hx ⟨f3, hc3, h4⟩
      have i0 : i = 0 := by
        obtain ⟨q, _⟩ := List.getElem?_eq_some_iff.mp hx
        have q' : i < 1 := q
        omega
      subst i0
      cases hx
      rcases h4 with ⟨_, hD⟩ | ⟨w, _⟩
      · refine ⟨rfl, yes_it ?_⟩
        refine ⟨_, rfl, _, rfl, z, rfl, fun p a' b' d' np => ?_⟩
        have hD2 := (upd_ne (o := DiceO a' b' d') (ne_of_none hD np)).trans hD
        have hp2 : upd H3 p (DiceO a' b' d') p = some (DiceO a' b' d') := upd_same
        have hc4 := (upd_ne (o := DiceO a' b' d') (ne_of_none hc3 np)).trans hc3
        have ncD : c ≠ D := fun e => by
          rw [e] at hc3
          rw [hc3] at hD
          cases hD
        have npD : p ≠ D := (ne_of_none hD np).symm
        refine ⟨[], hD2, by decide, ?_, (upd_ne ncD).trans hc4, .inr ⟨rfl, p, a', b', d', upd_same, (upd_ne npD).trans hp2⟩⟩
        exact f3.transW ((Fr.new np (S := [D])).trans (Fr.upd hD2 rfl (by simp))) fun b hb => .inr (by rw [List.mem_singleton.mp hb]; exact Nw.of f2 nD (by simp))
      · cases w
    · rintro H3 ⟨f3, _, h4⟩
      rcases h4 with ⟨w, _⟩ | ⟨_, p, a', b', d', hD, hp⟩
      · cases w
      · exact k _ D p a' b' d' f3 hD hp
end
end K1
namespace K1
open PySem PySem.Spec PyProof.Rows L2 Cn LamX
local macro_rules | `(tactic| walk_at "few") => `(tactic| exact Nat.le_of_ble_eq_true rfl)
local macro_rules | `(tactic| walk_at "ne") => `(tactic| first | assumption | (apply Ne.symm; assumption) | exact ne_of_none (by assumption) (by assumption) | exact (ne_of_none (by assumption) (by assumption)).symm)
local macro_rules | `(tactic| walk_at "hf") => `(tactic| first | assumption | exact upd_same | (refine Eq.trans (upd_ne (by walk_at "ne")) ?_; walk_at "hf"))
local macro_rules | `(tactic| walk_at "bk") => `(tactic| first | (dsimp only [blk_K, blk_w, blk_prog]; done) | exact rfl | (dsimp only [blk_K, blk_w, blk_prog]; exact rfl))
local macro_rules | `(tactic| walk_at "ht") => `(tactic| exact SqT.of (by walk_at "hf"))
local macro_rules | `(tactic| walk_at "at") => `(tactic| first | exact atI_nat (by assumption) | rfl)
local macro_rules | `(tactic| walk_at "nz") => `(tactic| first | omega | exact ⟨by omega, by omega⟩)
local macro_rules | `(tactic| walk_at "ix") => `(tactic| first | assumption | rfl)
local macro_rules | `(tactic| walk_at "sq") => `(tactic| first | exact .inl (SqL.of (by walk_at "hf")) | exact .inr (SqT.of (by walk_at "hf")))
def rowV (r : RowS) : List V := [.int r.w, .int r.least, .int r.most, .int r.comes, .int r.leaks, .int r.minutes]
def spLReach : Sp := Sp1 fun x H Q _ => ∃ p a b d, x = .ref p ∧ H p = some (DiceO a b d) ∧ ∀ a' b' d' (r : RowS) l, Gd r ∧ r.least ≤ r.w → upd H p (DiceO a' b' d') l = none → Q (.ref l) (upd (upd H p (DiceO a' b' d')) l (.lst (rowV r)))
section
variable {P : Program} {w : World} {K : PySem.W.Frag} {mg : Str → Option Value} {base : Heap}
theorem ok_law_reach (T : Txt K mg base) : Pr P w K mg base 2 (He.fAd K ("_law_reach", none)) ["dice"] spLReach := by
  refine mk_pr T.d_law_reach rfl sc_law_reach (fun _ _ _ _ _ _ us hl => match us, hl with | [_], _ => rfl) len1 (fun cdv A outer s H vs Q E hr h => ?_)
  have nd := sc_law_reach.nd
  obtain ⟨x, rfl, p, a, b, d, rfl, h1, k⟩ := h
  refine ⟨_, (pss_cons (ps_set (i := 1) nd rfl (Or.inl rfl) (pe_fn (ok_law_roll T) hr (by decide) lets T.g_law_roll (pa_cons (pv 0) (pa_cons pe_int pa_nil))))
      (pss_cons (ps_set (i := 2) nd rfl (Or.inl rfl) (pe_op op_add (pv 1) (pe_fn (ok_law_roll T) hr (by decide) lets T.g_law_roll (pa_cons (pv 0) (pa_cons pe_int pa_nil)))))
      (pss_one (ps_ret (pe_lst (pa_cons (pv 2) (pa_cons (pv 1) (pa_cons (pe_op op_add (pv 2) (pe_fn (ok_law_roll T) hr (by decide) lets T.g_law_roll (pa_cons (pv 0) (pa_cons pe_int pa_nil)))) (pa_cons (pe_fn (ok_law_roll T) hr (by decide) lets T.g_law_roll (pa_cons (pv 0) (pa_cons pe_int pa_nil))) (pa_cons (pe_fn (ok_law_roll T) hr (by decide) lets T.g_law_roll (pa_cons (pv 0) (pa_cons pe_int pa_nil))) (pa_cons (pe_op op_add pe_int (pe_fn (ok_law_roll T) hr (by decide) lets T.g_law_roll (pa_cons (pv 0) (pa_cons pe_int pa_nil)))) pa_nil))))))))))), ?_⟩
  (refine ⟨_, rfl, ?_⟩)
  refine ⟨_, _, rfl, p, a, b, d, 50, rfl, rfl, h1, by decide, by decide, fun a1 b1 d1 r1 l1 u1 => ?_⟩
  (refine ⟨_, rfl, _, rfl, ?_⟩)
  refine ⟨_, _, rfl, p, _, _, _, 80, rfl, rfl, upd_same, by decide, by decide, fun a2 b2 d2 r2 l2 u2 => ⟨_, _, rfl, rfl, ?_⟩⟩
  rw [upd_upd]
  refine ⟨_, rfl, _, rfl, _, rfl, _, rfl, ?_⟩
  refine ⟨_, _, rfl, p, _, _, _, 60, rfl, rfl, upd_same, by decide, by decide, fun a3 b3 d3 r3 l3 u3 => ⟨_, _, rfl, rfl, ?_⟩⟩
  rw [upd_upd]
  refine ⟨_, rfl, ?_⟩
  refine ⟨_, _, rfl, p, _, _, _, 12, rfl, rfl, upd_same, by decide, by decide, fun a4 b4 d4 r4 l4 u4 => ?_⟩
  rw [upd_upd]
  refine ⟨_, rfl, ?_⟩
  refine ⟨_, _, rfl, p, _, _, _, 6, rfl, rfl, upd_same, by decide, by decide, fun a5 b5 d5 r5 l5 u5 => ?_⟩
  rw [upd_upd]
  refine ⟨_, rfl, ?_⟩
  refine ⟨_, _, rfl, p, _, _, _, 12, rfl, rfl, upd_same, by decide, by decide, fun a6 b6 d6 r6 l6 u6 => ⟨_, _, rfl, rfl, ?_⟩⟩
  rw [upd_upd]
  refine ⟨by walk_at "few", fun l nl => ?_⟩
  exact k a6 b6 d6 ⟨"", r1 + r2, r1, r1 + r2 + r3, r4, r5, 1 + r6⟩ l ⟨⟨by simp only; omega, by simp only; omega, by simp only; omega, by simp only; omega, by simp only; omega, by simp only; omega, by simp only; omega⟩, by simp only; omega⟩ nl
end
/-! reaches are made of the rows -/
def nameK (k : Nat) : Str := ("r" : Str) ++ (toString ((k : Nat) : Int) : Str)
theorem nameK_ok {k : Nat} (h : k < 5) : ((k : Nat) : Int).natAbs.log2 < 1920 ∧ ("r" : Str).length + (toString ((k : Nat) : Int) : Str).length ≤ sizeLine := by
  match k, h with
  | 0, _ => decide +kernel
  | 1, _ => decide +kernel
  | 2, _ => decide +kernel
  | 3, _ => decide +kernel
  | 4, _ => decide +kernel
  | n + 5, h => exact absurd h (by omega)
def RowLs (H : Hp) (as : List Addr) (rs : List RowS) : Prop := as.length = rs.length ∧ ∀ (i : Nat) (a : Addr) (r : RowS), as[i]? = some a → rs[i]? = some r → H a = some (.lst (rowV r))
def named (rs : List RowS) : List RowS := rs.zipIdx.map fun p => { p.1 with name := nameK p.2 }
theorem named_len {rs : List RowS} : (named rs).length = rs.length := by
  unfold named
  rw [List.length_map, List.length_zipIdx]
theorem named_get {rs : List RowS} {i : Nat} {r : RowS} (h : rs[i]? = some r) : (named rs)[i]? = some { r with name := nameK i } := by
  unfold named
  rw [List.getElem?_map, List.getElem?_zipIdx, h, Nat.zero_add] <;> rfl
theorem RowLs.get {H : Hp} {as : List Addr} {rs : List RowS} {i : Nat} {a : Addr} (h : RowLs H as rs) (ha : as[i]? = some a) : ∃ r, rs[i]? = some r ∧ H a = some (.lst (rowV r)) := by
  have hl : i < rs.length := by
    obtain ⟨z, _⟩ := List.getElem?_eq_some_iff.mp ha
    exact h.1 ▸ z
  exact ⟨rs[i], by simp [hl], h.2 i a _ ha (by simp [hl])⟩
theorem Gd.ok {r : RowS} (g : Gd r) (h : r.least ≤ r.w) : badR r = false := by
  obtain ⟨h1, h2, h3, h4, h5, h6, h7⟩ := g
  have m2 := min0_le r.comes r.leaks
  have b : ¬ min0 r.comes r.leaks < 0 := by omega
  unfold badR
  rw [decide_eq_true h1, decide_eq_true h, decide_eq_true h3, decide_eq_true h4, decide_eq_false b, decide_eq_false (by omega : ¬ r.minutes < 1)] <;> rfl
def spMade (K : PySem.W.Frag) : Sp := Sp1 fun x H Q _ => ∃ b as rs, x = .ref b ∧ H b = some (.lst (as.map V.ref)) ∧ RowLs H as rs ∧ (∀ r ∈ rs, Gd r ∧ r.least ≤ r.w) ∧ as.length ≤ 5 ∧
  ∀ H' l pl, Fr (FL K) [] H H' → H' l = some (.lst (pl.map fun q => V.ref q.1)) → RowsAt K H' pl (named rs) → (∀ q ∈ pl, Nw H q.1) → Nw H l → Q (.ref l) H'
section
variable {P : Program} {w : World} {K : PySem.W.Frag} {mg : Str → Option Value} {base : Heap}
theorem ok_law_made (T : Txt K mg base) : Pr P w K mg base 3 (He.fAd K ("_law_made", none)) ["rows"] ((spMade K)) := by
  refine mk_pr T.d_law_made rfl sc_law_made (fun _ _ _ _ _ _ us hl => match us, hl with | [_], _ => rfl) len1 (fun cdv A outer s H vs Q E hr h => ?_)
  have nd := sc_law_made.nd
  obtain ⟨x, rfl, b, as, rs, rfl, hb, hR, g, hz, k⟩ := h
  refine ⟨_, (pss_one (ps_ret (pe_lc (own := [("k", 1), ("row", 2)]) (by rfl) nd (pi_enum (by rfl) T.f_enumerate (pa_cons (pv 0) pa_nil)) (blkOk_by (own := [("k", 1), ("row", 2)]) (N := ["rows", "k", "row"]) (sc := defScope s_law_made) (by decide +kernel)) (fun _ _ _ _ _ => PG.at_ (pg_tup (n := 2) rfl (pgs_cons (pg_name (i := 1) nd rfl (.inl rfl)) (pgs_cons (pg_name (i := 2) nd rfl (.inl rfl)) pgs_nil))) (by walk_at "bk")) (fun _ _ _ _ _ => PTs.at_ (pts_nil) (by walk_at "bk")) (fun _ _ _ _ _ => PE.at_ (pe_mk T.m_Reach (ok_Reach_init T) hr (by decide) passL T.g_Reach (pa_cons (pe_op op_add_str pe_str (pe_callTy call_str_int (by rfl) T.f_str (by decide +kernel) (pa_cons (pv 1) pa_nil))) (pa_cons (pe_ix ix_list (pv 2) pe_int (fun _ _ => rfl)) (pa_cons (pe_ix ix_list (pv 2) pe_int (fun _ _ => rfl)) (pa_cons (pe_ix ix_list (pv 2) pe_int (fun _ _ => rfl)) (pa_cons (pe_ix ix_list (pv 2) pe_int (fun _ _ => rfl)) (pa_cons (pe_ix ix_list (pv 2) pe_int (fun _ _ => rfl)) (pa_cons (pe_ix ix_list (pv 2) pe_int (fun _ _ => rfl)) pa_nil)))))))) (by walk_at "bk"))))), ?_⟩
  refine ⟨_, rfl, _, _, rfl, SqL.of hb, fun D nD => ?_⟩
  refine lc_it (walk_enum (xs := as.map V.ref)) (fun i H' => ∃ pl, H' D = some (.lst (pl.map fun q => V.ref q.1)) ∧ RowsAt K H' pl ((named rs).take i) ∧ (∀ q ∈ pl, Nw H q.1) ∧ Fr (FL K) [] H H') ⟨[], upd_same, ⟨rfl, fun i q r a => by simp at a⟩, fun q hq => by simp at hq, Fr.new nD⟩ (fun i H' _ ⟨_, _, _, _, f⟩ => SqL.of (f.l hb (by simp))) ?_ ?_
  · rintro i x H3 H4 hi ⟨pl, hD, hRA, hw, f⟩ ⟨T0, y0, z0, rfl, nT, rfl, e1, e2⟩
    cases e1
    obtain ⟨a, ha, rfl⟩ := map_get e2
    obtain ⟨r, hr, hl⟩ := hR.get ha
    have i5 : i < 5 := by
      rw [List.length_map] at hi
      omega
    have gr := g r (List.mem_of_getElem? hr)
    have hl2 : upd H3 T0 (.tup [.int (i : Nat), .ref a]) a = some (.lst [.int r.w, .int r.least, .int r.most, .int r.comes, .int r.leaks, .int r.minutes]) := (upd_ne (ne_of_none (f.l hl (by simp)) nT)).trans (f.l hl (by simp))
    have f2 : Fr (FL K) [] H (upd H3 T0 (.tup [.int (i : Nat), .ref a])) := f.trans (Fr.new nT)
    have hD2 := (upd_ne (o := .tup [.int (i : Nat), .ref a]) (ne_of_none hD nT)).trans hD
    have hRA2 : RowsAt K (upd H3 T0 (.tup [.int (i : Nat), .ref a])) pl ((named rs).take i) := hRA.mono fun q hq r hr => (upd_ne (ne_of_none hr nT)).trans hr
    refine ⟨_, _, rfl, SqT.of upd_same, rfl, _, _, rfl, _, _, rfl, rfl, rfl, yes_it ?_⟩
    generalize upd H3 T0 (.tup [.int (i : Nat), .ref a]) = H5 at *
    refine ⟨_, rfl, _, rfl, (nameK_ok i5).1, _, _, rfl, rfl, (nameK_ok i5).2, _, rfl, _, _, _, _, rfl, rfl, SqL.of hl2, rfl, _, rfl, _, _, _, _, rfl, rfl, SqL.of hl2, rfl, _, rfl, _, _, _, _, rfl, rfl, SqL.of hl2, rfl, _, rfl, _, _, _, _, rfl, rfl, SqL.of hl2, rfl, _, rfl, _, _, _, _, rfl, rfl, SqL.of hl2, rfl, _, rfl, _, _, _, _, rfl, rfl, SqL.of hl2, rfl, fun x dx nx ndx hne => ?_⟩
    have gb : badR { r with name := nameK i } = false := Gd.ok (r := { r with name := nameK i }) gr.1 gr.2
    refine ⟨_, _, _, _, _, _, _, _, rfl, x, dx, { r with name := nameK i }, rfl, upd_same, rfl, rfl, rfl, rfl, rfl, rfl, rfl, fun z => absurd z (by rw [gb]; decide), fun _ => ⟨rfl, ?_⟩⟩
    rw [upd_upd]
    have fm : Fr (FL K) [] H5 (upd (upd H5 dx (.own x)) x (RchO K dx { r with name := nameK i })) := Fr.make nx ndx hne
    have hD3 := fm.l hD2 (by simp)
    have nxD : x ≠ D := (ne_of_none hD2 nx).symm
    have hlt : (pl.map fun q => V.ref q.1).length < sizeLine := by
      have z := hRA2.1
      rw [List.length_take, named_len] at z
      rw [List.length_map, z]
      have := hR.1
      exact Nat.lt_of_le_of_lt (Nat.le_trans (Nat.min_le_right _ _) (by omega : rs.length ≤ 5)) (by decide)
    refine ⟨_, hD3, hlt, pl ++ [(x, dx)], ?_, ?_, fun q hq => (List.mem_append.mp hq).elim (hw q) (fun z => by rw [List.mem_singleton.mp z]; exact Nw.of f2 nx (by simp)), f2.transW (fm.mono (by simp) |>.trans (Fr.upd hD3 rfl (List.mem_singleton.mpr rfl))) fun b hbb => .inr (by rw [List.mem_singleton.mp hbb]; exact Nw.none nD)⟩
    · rw [List.map_append]
      exact upd_same
    · rw [take_next (named_get hr)]
      refine RowsAt.snoc (hRA2.mono fun q hq r hr => ?_) ((upd_ne nxD).trans upd_same)
      have hr2 := fm.i hr (by simp)
      exact (upd_ne (fun z => by rw [z] at hr2; rw [hD3] at hr2; cases hr2)).trans hr2
  · rintro H3 ⟨pl, hD, hRA, hw, f⟩
    have e : (as.map V.ref).length = (named rs).length := by rw [List.length_map, named_len, hR.1]
    rw [e, List.take_of_length_le (Nat.le_refl _)] at hRA
    exact k _ D pl f hD hRA hw (Nw.none nD)
end
end K1
namespace K1
open PySem PySem.Spec PyProof.Rows L2 Cn LamX
local macro_rules | `(tactic| walk_at "few") => `(tactic| exact Nat.le_of_ble_eq_true rfl)
local macro_rules | `(tactic| walk_at "ne") => `(tactic| first | assumption | (apply Ne.symm; assumption) | exact ne_of_none (by assumption) (by assumption) | exact (ne_of_none (by assumption) (by assumption)).symm)
local macro_rules | `(tactic| walk_at "hf") => `(tactic| first | assumption | exact upd_same | (refine Eq.trans (upd_ne (by walk_at "ne")) ?_; walk_at "hf"))
local macro_rules | `(tactic| walk_at "bk") => `(tactic| first | (dsimp only [blk_K, blk_w, blk_prog]; done) | exact rfl | (dsimp only [blk_K, blk_w, blk_prog]; exact rfl))
local macro_rules | `(tactic| walk_at "ht") => `(tactic| exact SqT.of (by walk_at "hf"))
local macro_rules | `(tactic| walk_at "at") => `(tactic| first | exact atI_nat (by assumption) | rfl)
local macro_rules | `(tactic| walk_at "nz") => `(tactic| first | omega | exact ⟨by omega, by omega⟩)
local macro_rules | `(tactic| walk_at "ix") => `(tactic| first | assumption | rfl)
local macro_rules | `(tactic| walk_at "sq") => `(tactic| first | exact .inl (SqL.of (by walk_at "hf")) | exact .inr (SqT.of (by walk_at "hf")))
/-! the law's own rows -/
structure OwnP where
  o : Addr
  b : Addr
  as : List Addr
def ownD (b : Addr) (L : LadS) : List (Key × V) := [(.inr "rows", .ref b), (.inr "spilled", .int L.sp), (.inr "leaked", .int L.lk), (.inr "came", .int L.cm)]
structure OwnAt (H : Hp) (p : OwnP) (L : LadS) : Prop where
  o : H p.o = some (.dK (ownD p.b L))
  b : H p.b = some (.lst (p.as.map V.ref))
  r : RowLs H p.as L.rs
  n : p.as.Nodup
  z : p.as.length ≤ 5
def ofoot (p : OwnP) : List Addr := p.o :: p.as
theorem get_rows {b : Addr} {L : LadS} : valV (ownD b L) (.inr "rows") = some (.ref b) := by kernel_rfl
theorem get_spilled {b : Addr} {L : LadS} : valV (ownD b L) (.inr "spilled") = some (.int L.sp) := by kernel_rfl
theorem get_leaked {b : Addr} {L : LadS} : valV (ownD b L) (.inr "leaked") = some (.int L.lk) := by kernel_rfl
theorem get_came {b : Addr} {L : LadS} : valV (ownD b L) (.inr "came") = some (.int L.cm) := by kernel_rfl
theorem put_spilled {b : Addr} {L : LadS} {v : Int} : putK (ownD b L) (.inr "spilled") (.int v) = ownD b { L with sp := v } := by kernel_rfl
theorem put_leaked {b : Addr} {L : LadS} {v : Int} : putK (ownD b L) (.inr "leaked") (.int v) = ownD b { L with lk := v } := by kernel_rfl
theorem put_came {b : Addr} {L : LadS} {v : Int} : putK (ownD b L) (.inr "came") (.int v) = ownD b { L with cm := v } := by kernel_rfl
section
variable {H : Hp} {p : OwnP} {L : LadS} {i : Nat} {a : Addr} {r r' : RowS}
theorem rowV_ne {as : List Addr} {r : RowS} : as.map V.ref ≠ rowV r := fun e => by
  cases as with
  | nil => cases e
  | cons a t =>
    injection e with e
    cases e
theorem OwnAt.bne (h : OwnAt H p L) (ha : p.as[i]? = some a) : p.b ≠ a := fun e => by
  obtain ⟨r, _, hr⟩ := h.r.get ha
  rw [← e, h.b] at hr
  injection hr with hr
  injection hr with hr
  exact rowV_ne hr
theorem OwnAt.one (h : OwnAt H p L) (ha : p.as[i]? = some a) : p.o ≠ a := fun e => by
  obtain ⟨r, _, hr⟩ := h.r.get ha
  rw [← e, h.o] at hr
  cases hr
theorem OwnAt.ob (h : OwnAt H p L) : p.o ≠ p.b := fun e => by
  have := h.b
  rw [← e, h.o] at this
  cases this
theorem OwnAt.row (h : OwnAt H p L) (ha : p.as[i]? = some a) : OwnAt (upd H a (.lst (rowV r'))) p { L with rs := L.rs.set i r' } := by
  refine ⟨(upd_ne (h.one ha)).trans h.o, (upd_ne (h.bne ha)).trans h.b, ⟨by rw [List.length_set]; exact h.r.1, fun j c r2 hc b => ?_⟩, h.n, h.z⟩
  by_cases e : i = j
  · subst e
    rw [ha] at hc
    cases hc
    have hl : i < L.rs.length := by
      obtain ⟨z, _⟩ := List.getElem?_eq_some_iff.mp ha
      exact h.r.1 ▸ z
    rw [List.getElem?_set_self hl] at b
    cases b
    exact upd_same
  · rw [List.getElem?_set_ne e] at b
    have ne : c ≠ a := fun z => e (by
      obtain ⟨l1, e1⟩ := List.getElem?_eq_some_iff.mp ha
      obtain ⟨l2, e2⟩ := List.getElem?_eq_some_iff.mp hc
      exact (List.getElem_inj h.n).mp (e1.trans (z.symm.trans e2.symm)))
    exact (upd_ne ne).trans (h.r.2 j c r2 hc b)
theorem OwnAt.put (h : OwnAt H p L) {l s c : Int} : OwnAt (upd H p.o (.dK (ownD p.b { L with lk := l, sp := s, cm := c }))) p { L with lk := l, sp := s, cm := c } :=
  ⟨upd_same, (upd_ne (Ne.symm h.ob)).trans h.b, ⟨h.r.1, fun i a r ha hr => (upd_ne (Ne.symm (h.one ha))).trans (h.r.2 i a r ha hr)⟩, h.n, h.z⟩
theorem OwnAt.new (h : OwnAt H p L) {b : Addr} {o : HO} (n : H b = none) : OwnAt (upd H b o) p L :=
  ⟨(upd_ne (ne_of_none h.o n)).trans h.o, (upd_ne (ne_of_none h.b n)).trans h.b, ⟨h.r.1, fun i a r ha hr => (upd_ne (ne_of_none (h.r.2 i a r ha hr) n)).trans (h.r.2 i a r ha hr)⟩, h.n, h.z⟩
theorem OwnAt.fr {H' : Hp} {T : List (Addr × Str)} {S : List Addr} (h : OwnAt H p L) (f : Fr T S H H') (ho : p.o ∉ S) (hb : p.b ∉ S) (ha : ∀ a ∈ p.as, a ∉ S) : OwnAt H' p L :=
  ⟨f.d h.o ho, f.l h.b hb, ⟨h.r.1, fun i a r h1 hr => f.l (h.r.2 i a r h1 hr) (ha a (List.mem_of_getElem? h1))⟩, h.n, h.z⟩
theorem ofoot_ne (ha : p.as[i]? = some a) : a ∈ ofoot p := List.mem_cons_of_mem _ (List.mem_of_getElem? ha)
end
theorem hab_eq (ab : Int) (r : RowS) : hab ab r = max0 0 (r.w - leakS r + r.comes + ab - r.most) := by
  show max0 0 (r.w - leakS r + (r.comes + ab) - r.most) = _
  rw [Int.add_assoc (r.w - leakS r)]
theorem hrow_eq (ab : Int) (r : RowS) : hrow ab r = { r with w := r.w - leakS r + r.comes + ab - hab ab r } := by
  show ({ r with w := r.w - leakS r + (r.comes + ab - hab ab r) } : RowS) = _
  congr 1
  omega
section
variable {H : Hp} {p : OwnP} {L : LadS} {v : Int}
theorem own_rows (h : OwnAt H p L) : DGet H p.o (.str "rows") (some (.ref p.b)) := .inl ⟨_, .inr "rows", .inl h.o, rfl, get_rows.symm⟩
theorem own_sp (h : OwnAt H p L) : DGet H p.o (.str "spilled") (some (.int L.sp)) := .inl ⟨_, .inr "spilled", .inl h.o, rfl, get_spilled.symm⟩
theorem own_lk (h : OwnAt H p L) : DGet H p.o (.str "leaked") (some (.int L.lk)) := .inl ⟨_, .inr "leaked", .inl h.o, rfl, get_leaked.symm⟩
theorem own_cm (h : OwnAt H p L) : DGet H p.o (.str "came") (some (.int L.cm)) := .inl ⟨_, .inr "came", .inl h.o, rfl, get_came.symm⟩
theorem own_psp (h : OwnAt H p L) : DPut H p.o (.str "spilled") (.int v) (upd H p.o (.dK (ownD p.b { L with sp := v }))) := .inl ⟨_, .inr "spilled", h.o, rfl, by show 4 < sizeLine; decide, by rw [put_spilled]⟩
theorem own_plk (h : OwnAt H p L) : DPut H p.o (.str "leaked") (.int v) (upd H p.o (.dK (ownD p.b { L with lk := v }))) := .inl ⟨_, .inr "leaked", h.o, rfl, by show 4 < sizeLine; decide, by rw [put_leaked]⟩
theorem own_pcm (h : OwnAt H p L) : DPut H p.o (.str "came") (.int v) (upd H p.o (.dK (ownD p.b { L with cm := v }))) := .inl ⟨_, .inr "came", h.o, rfl, by show 4 < sizeLine; decide, by rw [put_came]⟩
end
local macro_rules | `(tactic| walk_at "dg") => `(tactic| first | exact own_rows (by assumption) | exact own_sp (by assumption) | exact own_lk (by assumption) | exact own_cm (by assumption))
local macro_rules | `(tactic| walk_at "dp") => `(tactic| first | exact own_psp (by assumption) | exact own_plk (by assumption) | exact own_pcm (by assumption))
def spOHour (K : PySem.W.Frag) : Sp := Sp1 fun x H Q _ => ∃ p L, x = .ref p.o ∧ OwnAt H p L ∧ ∀ H', Fr (FL K) (ofoot p) H H' → OwnAt H' p (hourS L) → Q .non H'
section
variable {P : Program} {w : World} {K : PySem.W.Frag} {mg : Str → Option Value} {base : Heap}
theorem ok_law_hour (T : Txt K mg base) : Pr P w K mg base 1 (He.fAd K ("_law_hour", none)) ["own"] (spOHour K) := by
  refine mk_pr T.d_law_hour rfl sc_law_hour (fun _ _ _ _ _ _ us hl => match us, hl with | [_], _ => rfl) len1 (fun cdv A outer s H vs Q E hr h => ?_)
  have nd := sc_law_hour.nd
  obtain ⟨x, rfl, p, L, rfl, h1, k⟩ := h
  refine ⟨_, (pss_cons (ps_set (i := 1) nd rfl (Or.inl rfl) pe_int)
      (pss_cons (ps_for owns rfl (pi_list (pe_dget (ru1 hr) (pv 0) pe_str (fun _ _ => rfl))) (pg_name (i := 2) nd rfl (.inl rfl))
        (pss_cons (ps_set (i := 3) nd rfl (Or.inl rfl) (pe_callB (call_min2 rfl) (by rfl) T.f_min (by decide +kernel) (pa_cons (pe_ix ix_list (pv 2) pe_int (fun _ _ => rfl)) (pa_cons (pe_ix ix_list (pv 2) pe_int (fun _ _ => rfl)) pa_nil))))
        (pss_cons (ps_asg (pe_op op_add (pe_op op_add (pe_op op_sub (pe_ix ix_list (pv 2) pe_int (fun _ _ => rfl)) (pv 3)) (pe_ix ix_list (pv 2) pe_int (fun _ _ => rfl))) (pv 1)) (pg_sub (pv 2) pe_int set_list))
        (pss_cons (ps_set (i := 1) nd rfl (Or.inl rfl) (pe_callB (call_max2 rfl) (by rfl) T.f_max (by decide +kernel) (pa_cons pe_int (pa_cons (pe_op op_sub (pe_ix ix_list (pv 2) pe_int (fun _ _ => rfl)) (pe_ix ix_list (pv 2) pe_int (fun _ _ => rfl))) pa_nil))))
        (pss_cons (ps_asg (pe_op op_sub (pe_ix ix_list (pv 2) pe_int (fun _ _ => rfl)) (pv 1)) (pg_sub (pv 2) pe_int set_list))
        (pss_one (ps_asg (pe_tup (pa_cons (pe_op op_add (pe_dget (ru1 hr) (pv 0) pe_str (fun _ _ => rfl)) (pv 3)) (pa_cons (pe_op op_add (pe_dget (ru1 hr) (pv 0) pe_str (fun _ _ => rfl)) (pe_ix ix_list (pv 2) pe_int (fun _ _ => rfl))) pa_nil))) (pg_tup (n := 2) rfl (pgs_cons (pg_sub (pv 0) pe_str (set_dict (ru1 hr))) (pgs_cons (pg_sub (pv 0) pe_str (set_dict (ru1 hr))) pgs_nil))))))))))
      (pss_one (ps_dput (ru1 hr) (pv 0) pe_str (pe_op op_add (pe_dget (ru1 hr) (pv 0) pe_str (fun _ _ => rfl)) (pv 1)) rfl)))), ?_⟩
  refine ⟨_, rfl, _, _, rfl, own_rows h1, ⟨_, rfl, ⟨_, SqL.of h1.b⟩, ?_⟩⟩
  refine for_it walk_list (fun i σ H' => ∃ x2 x3, σ = [some (.ref p.o), some (.int (itN hstep i ⟨L, 0⟩).ab), x2, x3] ∧ OwnAt H' p (itN hstep i ⟨L, 0⟩).L ∧ Fr (FL K) (ofoot p) H H') ⟨none, none, rfl, h1, Fr.refl⟩ (fun i σ H' _ ⟨_, _, _, l, _⟩ => SqL.of l.b) ?_ ?_
  · rintro i x σ H1 H2 hi ⟨x2, x3, rfl, hl, hf⟩ ⟨rfl, hx⟩
    obtain ⟨a, ha, rfl⟩ := map_get hx
    obtain ⟨r, hr, hro⟩ := hl.r.get ha
    have hrow1 : H2 a = some (.lst [.int r.w, .int r.least, .int r.most, .int r.comes, .int r.leaks, .int r.minutes]) := hro
    have e' : itN hstep (i + 1) ⟨L, 0⟩ = hstep i (itN hstep i ⟨L, 0⟩) := rfl
    rw [e']
    generalize itN hstep i ⟨L, 0⟩ = S at *
    clear e'
    rw [hstep_get hr]
    (refine ⟨_, rfl, _, _, _, _, rfl, rfl, SqL.of (by walk_at "hf"), (by walk_at "at"), _, rfl, _, _, _, _, rfl, rfl, SqL.of (by walk_at "hf"), (by walk_at "at"), _, _, rfl, _, rfl, _, _, _, _, rfl, rfl, SqL.of (by walk_at "hf"), (by walk_at "at"), _, rfl, _, _, rfl, rfl, _, rfl, _, _, _, _, rfl, rfl, SqL.of (by walk_at "hf"), (by walk_at "at"), _, _, rfl, rfl, _, rfl, _, _, rfl, rfl, _, rfl, _, _, _, _, rfl, rfl, (by walk_at "hf"), (by walk_at "ix"), ?_⟩)
    refine nx_ap ?_
    (refine ⟨_, rfl, _, _, _, _, rfl, rfl, SqL.of (by walk_at "hf"), (by walk_at "at"), _, rfl, _, _, _, _, rfl, rfl, SqL.of (by walk_at "hf"), (by walk_at "at"), _, _, rfl, rfl, _, _, rfl, _, rfl, _, _, _, _, rfl, rfl, SqL.of (by walk_at "hf"), (by walk_at "at"), _, rfl, _, _, rfl, rfl, _, rfl, _, _, _, _, rfl, rfl, (by walk_at "hf"), (by walk_at "ix"), ?_⟩)
    rw [upd_upd]
    have hl2 := hl.row ha (r' := hrow S.ab r)
    have f2 : Fr (FL K) (ofoot p) H2 (upd H2 a (.lst (rowV (hrow S.ab r)))) := Fr.upd hro rfl (ofoot_ne ha)
    have hr2 : upd H2 a (.lst (rowV (hrow S.ab r))) a = some (.lst (rowV (hrow S.ab r))) := upd_same
    have hlk : rowV (hrow S.ab r) = [.int (hrow S.ab r).w, .int r.least, .int r.most, .int r.comes, .int r.leaks, .int r.minutes] := rfl
    rw [hlk, hrow_eq, hab_eq] at hr2
    rw [hrow_eq, hab_eq] at hl2 f2
    refine nx_ap ?_
    refine ⟨_, rfl, _, _, rfl, own_lk hl2, _, rfl, _, _, rfl, rfl, _, rfl, _, _, rfl, own_cm hl2, _, rfl, _, _, _, _, rfl, rfl, SqL.of hr2, rfl, _, _, rfl, rfl, by walk_at "few", fun p0 np => ?_⟩
    have hl3 := (hl2.new np (o := .tup [.int (S.L.lk + leakS r), .int (S.L.cm + r.comes)]))
    have hl4 := hl3.put (l := S.L.lk + leakS r) (s := S.L.sp) (c := S.L.cm)
    refine ⟨_, _, rfl, SqT.of upd_same, rfl, _, _, rfl, _, rfl, _, _, rfl, own_plk hl3, _, _, rfl, _, rfl, _, _, rfl, own_pcm hl4, rfl, ?_⟩
    refine ⟨some (.ref a), some (.int (leakS r)), ?_, ?_, hf.trans (f2.trans ((Fr.new np).trans ((Fr.upd hl3.o rfl (List.mem_cons_self ..)).trans (Fr.upd hl4.o rfl (List.mem_cons_self ..)))))⟩
    · rw [show (hrun S i r).ab = hab S.ab r from rfl, hab_eq]
      rfl
    · have hl5 := hl4.put (l := S.L.lk + leakS r) (s := S.L.sp) (c := S.L.cm + r.comes)
      show OwnAt _ p { S.L with rs := S.L.rs.set i (hrow S.ab r), lk := S.L.lk + leakS r, cm := S.L.cm + r.comes }
      rw [hrow_eq, hab_eq]
      exact hl5
  · rintro σ H1 ⟨x2, x3, rfl, hl, hf⟩
    (refine ⟨_, rfl, _, _, rfl, (by walk_at "dg"), _, rfl, _, _, rfl, rfl, _, rfl, _, _, rfl, (by walk_at "dp"), ?_⟩)
    refine k _ (hf.trans (Fr.upd hl.o rfl (List.mem_cons_self ..))) ?_
    have hlen : (p.as.map V.ref).length = L.rs.length := by rw [List.length_map]; exact h1.r.1
    rw [hlen]
    rw [hlen] at hl
    exact hl.put
end
theorem over_eq (n : Int) (r : RowS) : overS r n = max0 0 (r.w + n - r.most) := rfl
theorem give_eq (n : Int) (r : RowS) : giveS r n = { r with w := r.w + n - overS r n } := by
  show ({ r with w := r.w + (n - overS r n) } : RowS) = _
  congr 1
  omega
def spPour (K : PySem.W.Frag) : Sp := Sp3 fun x y z H Q _ => ∃ p L, ∃ (i : Nat) (n : Int), x = .ref p.o ∧ y = .int i ∧ z = .int n ∧ OwnAt H p L ∧ i < L.rs.length ∧ ∀ H', Fr (FL K) (ofoot p) H H' → OwnAt H' p (giveL i n L) → Q .non H'
local macro_rules | `(tactic| walk_at "at") => `(tactic| first | assumption | rfl)
section
variable {P : Program} {w : World} {K : PySem.W.Frag} {mg : Str → Option Value} {base : Heap}
theorem ok_law_pour (T : Txt K mg base) : Pr P w K mg base 1 (He.fAd K ("_law_pour", none)) ["own", "place", "amount"] (spPour K) := by
  refine mk_pr T.d_law_pour rfl sc_law_pour (fun _ _ _ _ _ _ us hl => match us, hl with | [_, _, _], _ => rfl) len3 (fun cdv A outer s H vs Q E hr h => ?_)
  have nd := sc_law_pour.nd
  obtain ⟨x, y, z, rfl, p, L, i, n, rfl, rfl, rfl, h1, hi, k⟩ := h
  have hlen : (p.as.map V.ref).length = L.rs.length := by rw [List.length_map]; exact h1.r.1
  have hz := h1.z
  have hr1 := h1.r.1
  refine ⟨_, (pss_cons (ps_for owns rfl (pi_range2 (by rfl) T.f_range (pa_cons (pv 1) (pa_cons (pe_callB call_len_seq (by rfl) T.f_len (by decide +kernel) (pa_cons (pe_dget (ru1 hr) (pv 0) pe_str (fun _ _ => rfl)) pa_nil)) pa_nil))) (pg_name (i := 3) nd rfl (.inl rfl))
        (pss_cons (ps_set (i := 4) nd rfl (Or.inl rfl) (pe_callB (call_max2 rfl) (by rfl) T.f_max (by decide +kernel) (pa_cons pe_int (pa_cons (pe_op op_sub (pe_op op_add (pe_ix ix_list (pe_ix ix_list (pe_dget (ru1 hr) (pv 0) pe_str (fun _ _ => rfl)) (pv 3) (fun _ _ => rfl)) pe_int (fun _ _ => rfl)) (pv 2)) (pe_ix ix_list (pe_ix ix_list (pe_dget (ru1 hr) (pv 0) pe_str (fun _ _ => rfl)) (pv 3) (fun _ _ => rfl)) pe_int (fun _ _ => rfl))) pa_nil))))
        (pss_one (ps_asg (pe_tup (pa_cons (pe_op op_sub (pe_op op_add (pe_ix ix_list (pe_ix ix_list (pe_dget (ru1 hr) (pv 0) pe_str (fun _ _ => rfl)) (pv 3) (fun _ _ => rfl)) pe_int (fun _ _ => rfl)) (pv 2)) (pv 4)) (pa_cons (pv 4) pa_nil))) (pg_tup (n := 2) rfl (pgs_cons (pg_sub (pe_ix ix_list (pe_dget (ru1 hr) (pv 0) pe_str (fun _ _ => rfl)) (pv 3) (fun _ _ => rfl)) pe_int set_list) (pgs_cons (pg_name (i := 2) nd rfl (.inl rfl)) pgs_nil)))))))
      (pss_one (ps_dput (ru1 hr) (pv 0) pe_str (pe_op op_add (pe_dget (ru1 hr) (pv 0) pe_str (fun _ _ => rfl)) (pv 2)) rfl))), ?_⟩
  refine ⟨_, rfl, _, rfl, _, _, rfl, own_rows h1, _, _, rfl, .inl (SqL.of h1.b), _, _, rfl, ⟨by omega, by omega, by omega, by omega⟩, ?_⟩
  refine for_it walk_range (fun j σ H' => ∃ x3 x4, σ = [some (.ref p.o), some (.int i), some (.int (itN (gstep i) j ⟨L, n⟩).ab), x3, x4] ∧ OwnAt H' p (itN (gstep i) j ⟨L, n⟩).L ∧ Fr (FL K) (ofoot p) H H') ⟨none, none, rfl, h1, Fr.refl⟩ (fun _ _ _ _ _ => trivial) ?_ ?_
  · rintro j y σ H1 H2 hj ⟨x3, x4, rfl, hl, hf⟩ ⟨rfl, rfl⟩
    have hj' : i + j < p.as.length := by
      rw [hlen] at hj
      omega
    obtain ⟨a, ha⟩ : ∃ a, p.as[i + j]? = some a := ⟨_, List.getElem?_eq_getElem hj'⟩
    have ea : atI (p.as.map V.ref) ((i : Int) + (j : Int)) = some (.ref a) := by
      rw [← Int.natCast_add]
      exact atI_nat (by rw [List.getElem?_map, ha] <;> rfl)
    obtain ⟨r, hr, hro⟩ := hl.r.get ha
    have hrow1 : H2 a = some (.lst [.int r.w, .int r.least, .int r.most, .int r.comes, .int r.leaks, .int r.minutes]) := hro
    have hb := hl.b
    have e' : itN (gstep i) (j + 1) ⟨L, n⟩ = gstep i j (itN (gstep i) j ⟨L, n⟩) := rfl
    rw [e']
    generalize itN (gstep i) j ⟨L, n⟩ = S at *
    clear e'
    rw [gstep_get hr]
    (refine ⟨_, rfl, _, _, rfl, (by walk_at "dg"), _, rfl, _, _, _, _, rfl, rfl, SqL.of (by walk_at "hf"), (by walk_at "at"), _, _, _, _, rfl, rfl, SqL.of (by walk_at "hf"), (by walk_at "at"), _, rfl, _, _, rfl, rfl, _, rfl, _, _, rfl, (by walk_at "dg"), _, rfl, _, _, _, _, rfl, rfl, SqL.of (by walk_at "hf"), (by walk_at "at"), _, _, _, _, rfl, rfl, SqL.of (by walk_at "hf"), (by walk_at "at"), _, _, rfl, rfl, _, _, rfl, ?_⟩)
    (refine ⟨_, rfl, _, _, rfl, (by walk_at "dg"), _, rfl, _, _, _, _, rfl, rfl, SqL.of (by walk_at "hf"), (by walk_at "at"), _, _, _, _, rfl, rfl, SqL.of (by walk_at "hf"), (by walk_at "at"), _, rfl, _, _, rfl, rfl, _, rfl, _, _, rfl, rfl, _, rfl, (by walk_at "few"), fun pN np => ?_⟩)
    have hl2 := hl.new np (o := .tup [.int (r.w + S.ab - overS r S.ab), .int (overS r S.ab)])
    have hro2 := (upd_ne (o := .tup [.int (r.w + S.ab - overS r S.ab), .int (overS r S.ab)]) (ne_of_none hro np)).trans hro
    have hb2 := hl2.b
    refine ⟨_, _, rfl, SqT.of upd_same, rfl, _, _, rfl, _, rfl, _, _, rfl, own_rows hl2, _, rfl, _, _, _, _, rfl, rfl, SqL.of hb2, ea, _, _, _, _, rfl, rfl, hro2, rfl, _, _, rfl, rfl, ?_⟩
    have hl3 := hl2.row ha (r' := giveS r S.ab)
    refine ⟨_, _, rfl, ?_, hf.trans ((Fr.new np).trans (Fr.upd hro2 rfl (ofoot_ne ha)))⟩
    show OwnAt _ p { S.L with rs := S.L.rs.set (i + j) (giveS r S.ab) }
    rw [give_eq] at hl3 ⊢
    exact hl3
  · rintro σ H1 ⟨x3, x4, rfl, hl, hf⟩
    (refine ⟨_, rfl, _, _, rfl, (by walk_at "dg"), _, rfl, _, _, rfl, rfl, _, rfl, _, _, rfl, (by walk_at "dp"), ?_⟩)
    refine k _ (hf.trans (Fr.upd hl.o rfl (List.mem_cons_self ..))) ?_
    have e : ((p.as.map V.ref).length - (i : Int) : Int).toNat = L.rs.length - i := by
      rw [hlen]
      omega
    rw [e]
    rw [e] at hl
    exact hl.put
end
end K1
namespace K1
open PySem PySem.Spec PyProof.Rows L2 Cn LamX
/-! the plain law: what the hours keep -/
def sumW : List RowS → Int
  | [] => 0
  | r :: t => r.w + sumW t
theorem sumW_append (a b : List RowS) : sumW (a ++ b) = sumW a + sumW b := by
  induction a with
  | nil => simp [sumW]
  | cons r t ih => simp [sumW, ih]; omega
theorem sumW_set {r r' : RowS} : ∀ {rs : List RowS} {i : Nat}, rs[i]? = some r → sumW (rs.set i r') = sumW rs - r.w + r'.w
  | [], _, h => by simp at h
  | x :: t, 0, h => by
    simp at h
    subst h
    simp [sumW]
    omega
  | x :: t, i + 1, h => by
    simp at h
    simp only [List.set_cons_succ, sumW]
    rw [sumW_set h]
    omega
theorem map_set_eq {α : Type} {f : RowS → α} {r r' : RowS} (e : f r' = f r) : ∀ {rs : List RowS} {i : Nat}, rs[i]? = some r → (rs.set i r').map f = rs.map f
  | [], _, h => by simp at h
  | x :: t, 0, h => by
    simp at h
    subst h
    simp [e]
  | x :: t, i + 1, h => by
    simp at h
    simp [map_set_eq e h]
theorem preSum_congr {f g : Nat → Int} : ∀ n, (∀ i, i < n → f i = g i) → preSum f n = preSum g n
  | 0, _ => rfl
  | n + 1, h => by
    show preSum f n + f n = preSum g n + g n
    rw [preSum_congr n fun i hi => h i (by omega), h n (by omega)]
theorem preSum_sumW (rs : List RowS) : preSum (fun i => ((rs[i]?).map RowS.w).getD 0) rs.length = sumW rs := by
  have key : ∀ n, n ≤ rs.length → preSum (fun i => ((rs[i]?).map RowS.w).getD 0) n = sumW (rs.take n) := fun n => by
    induction n with
    | zero => intro _; simp [preSum, sumW]
    | succ n ih =>
      intro h
      have hn : rs[n]? = some rs[n] := List.getElem?_eq_getElem (by omega)
      show preSum _ n + ((rs[n]?).map RowS.w).getD 0 = _
      rw [ih (by omega), take_next hn, sumW_append, hn]
      simp [sumW]
  rw [key _ (Nat.le_refl _), List.take_length]
/-! an hour -/
def qI (s : HSt) : Int := sumW s.L.rs + s.L.lk + s.L.sp + s.ab - s.L.cm
theorem hstep_q {s : HSt} {i : Nat} : qI (hstep i s) = qI s := by
  unfold hstep
  split
  · rename_i r e
    have h := sumW_set (r' := hrow s.ab r) e
    show sumW (s.L.rs.set i (hrow s.ab r)) + (s.L.lk + leakS r) + s.L.sp + hab s.ab r - (s.L.cm + r.comes) = _
    rw [h]
    have hw : (hrow s.ab r).w = r.w - leakS r + (r.comes + s.ab - hab s.ab r) := rfl
    rw [hw]
    show _ = sumW s.L.rs + s.L.lk + s.L.sp + s.ab - s.L.cm
    omega
  · rfl
theorem itN_q {s : HSt} : ∀ n, qI (itN hstep n s) = qI s
  | 0 => rfl
  | n + 1 => hstep_q.trans (itN_q n)
def qL (L : LadS) : Int := sumW L.rs + L.lk + L.sp - L.cm
theorem hourS_q {L : LadS} : qL (hourS L) = qL L := by
  have h := itN_q (s := ⟨L, 0⟩) L.rs.length
  have e1 : qL (hourS L) = qI (itN hstep L.rs.length ⟨L, 0⟩) := by
    show sumW (itN hstep L.rs.length ⟨L, 0⟩).L.rs + (itN hstep L.rs.length ⟨L, 0⟩).L.lk + ((itN hstep L.rs.length ⟨L, 0⟩).L.sp + (itN hstep L.rs.length ⟨L, 0⟩).ab) - (itN hstep L.rs.length ⟨L, 0⟩).L.cm = sumW (itN hstep L.rs.length ⟨L, 0⟩).L.rs + (itN hstep L.rs.length ⟨L, 0⟩).L.lk + (itN hstep L.rs.length ⟨L, 0⟩).L.sp + (itN hstep L.rs.length ⟨L, 0⟩).ab - (itN hstep L.rs.length ⟨L, 0⟩).L.cm
    omega
  rw [e1, h]
  show sumW L.rs + L.lk + L.sp + 0 - L.cm = sumW L.rs + L.lk + L.sp - L.cm
  omega
theorem hstep_map {α : Type} {f : RowS → α} (hf : ∀ (r : RowS) (v : Int), f { r with w := v } = f r) {s : HSt} {i : Nat} : (hstep i s).L.rs.map f = s.L.rs.map f := by
  unfold hstep
  split
  · rename_i r e
    exact map_set_eq (hf _ _ |>.trans (hf _ _)) e
  · rfl
theorem hourS_map {α : Type} {f : RowS → α} (hf : ∀ (r : RowS) (v : Int), f { r with w := v } = f r) {L : LadS} : (hourS L).rs.map f = L.rs.map f := by
  have key : ∀ n, (itN hstep n ⟨L, 0⟩).L.rs.map f = L.rs.map f := fun n => by
    induction n with
    | zero => rfl
    | succ n ih => exact (hstep_map hf).trans ih
  exact key _
/-! giving -/
def gI (s : HSt) : Int := sumW s.L.rs + s.L.sp + s.ab
theorem gstep_q {s : HSt} {i j : Nat} : gI (gstep i j s) = gI s ∧ (gstep i j s).L.lk = s.L.lk ∧ (gstep i j s).L.cm = s.L.cm := by
  unfold gstep
  split
  · rename_i r e
    have h := sumW_set (r' := giveS r s.ab) e
    refine ⟨?_, rfl, rfl⟩
    show sumW (s.L.rs.set (i + j) (giveS r s.ab)) + s.L.sp + overS r s.ab = _
    rw [h]
    have hw : (giveS r s.ab).w = r.w + (s.ab - overS r s.ab) := rfl
    rw [hw]
    show _ = sumW s.L.rs + s.L.sp + s.ab
    omega
  · exact ⟨rfl, rfl, rfl⟩
theorem gitN_q {s : HSt} {i : Nat} : ∀ n, gI (itN (gstep i) n s) = gI s ∧ (itN (gstep i) n s).L.lk = s.L.lk ∧ (itN (gstep i) n s).L.cm = s.L.cm
  | 0 => ⟨rfl, rfl, rfl⟩
  | n + 1 => let a := gitN_q (s := s) (i := i) n; let b := gstep_q (s := itN (gstep i) n s) (i := i) (j := n); ⟨b.1.trans a.1, b.2.1.trans a.2.1, b.2.2.trans a.2.2⟩
theorem giveL_q {L : LadS} {i : Nat} {n : Int} : qL (giveL i n L) = qL L + n := by
  have h := gitN_q (s := ⟨L, n⟩) (i := i) (L.rs.length - i)
  have h1 : sumW (itN (gstep i) (L.rs.length - i) ⟨L, n⟩).L.rs + (itN (gstep i) (L.rs.length - i) ⟨L, n⟩).L.sp + (itN (gstep i) (L.rs.length - i) ⟨L, n⟩).ab = sumW L.rs + L.sp + n := h.1
  show sumW (itN (gstep i) (L.rs.length - i) ⟨L, n⟩).L.rs + (itN (gstep i) (L.rs.length - i) ⟨L, n⟩).L.lk + ((itN (gstep i) (L.rs.length - i) ⟨L, n⟩).L.sp + (itN (gstep i) (L.rs.length - i) ⟨L, n⟩).ab) - (itN (gstep i) (L.rs.length - i) ⟨L, n⟩).L.cm = sumW L.rs + L.lk + L.sp - L.cm + n
  rw [h.2.1, h.2.2]
  show _ + L.lk + _ - L.cm = _
  omega
theorem gstep_map {α : Type} {f : RowS → α} (hf : ∀ (r : RowS) (v : Int), f { r with w := v } = f r) {s : HSt} {i j : Nat} : (gstep i j s).L.rs.map f = s.L.rs.map f := by
  unfold gstep
  split
  · rename_i r e
    exact map_set_eq (hf _ _) e
  · rfl
theorem giveL_map {α : Type} {f : RowS → α} (hf : ∀ (r : RowS) (v : Int), f { r with w := v } = f r) {L : LadS} {i : Nat} {n : Int} : (giveL i n L).rs.map f = L.rs.map f := by
  have key : ∀ m, (itN (gstep i) m ⟨L, n⟩).L.rs.map f = L.rs.map f := fun m => by
    induction m with
    | zero => rfl
    | succ m ih => exact (gstep_map hf).trans ih
  exact key _
/-! taking -/
def takeL (i : Nat) (n : Int) (r : RowS) (L : LadS) : LadS := { L with rs := L.rs.set i { r with w := r.w - n } }
theorem takeL_q {L : LadS} {i : Nat} {n : Int} {r : RowS} (h : L.rs[i]? = some r) : qL (takeL i n r L) = qL L - n := by
  have e := sumW_set (r' := { r with w := r.w - n }) h
  show sumW (L.rs.set i { r with w := r.w - n }) + L.lk + L.sp - L.cm = sumW L.rs + L.lk + L.sp - L.cm - n
  rw [e]
  show sumW L.rs - r.w + (r.w - n) + L.lk + L.sp - L.cm = _
  omega
theorem takeL_map {α : Type} {f : RowS → α} (hf : ∀ (r : RowS) (v : Int), f { r with w := v } = f r) {L : LadS} {i : Nat} {n : Int} {r : RowS} (h : L.rs[i]? = some r) : (takeL i n r L).rs.map f = L.rs.map f := map_set_eq (hf _ _) h
theorem takeL_gd {L : LadS} {i : Nat} {n : Int} {r : RowS} (h : L.rs[i]? = some r) (g : GdL L) (h0 : 0 ≤ n) (hn : n ≤ freeS r) : GdL (takeL i n r L) := fun r2 m => by
  rcases List.mem_or_eq_of_mem_set m with z | z
  · exact g r2 z
  · have gr := g r (List.mem_of_getElem? h)
    obtain ⟨h1, h2, h3, h4, h5, h6, h7⟩ := gr
    have m := max0_le 0 (r.w - r.least)
    have hf : n ≤ max0 0 (r.w - r.least) := hn
    rw [z]
    refine ⟨h1, ?_, ?_, h4, h5, h6, h7⟩
    · show 0 ≤ r.w - n
      omega
    · show r.w - n ≤ r.most
      omega
/-! names -/
def Nm (L : LadS) (n : Nat) : Prop := L.rs.map RowS.name = (List.range n).map nameK
theorem Nm.len {L : LadS} {n : Nat} (h : Nm L n) : L.rs.length = n := by
  have := congrArg List.length h
  rw [List.length_map, List.length_map, List.length_range] at this
  exact this
theorem Nm.ok {L : LadS} {n : Nat} (h : Nm L n) (h1 : 1 ≤ n) (h5 : n ≤ 5) : badL L.rs = false := by
  have e : L.rs.isEmpty = false := by
    have := h.len
    cases hr : L.rs with
    | nil => rw [hr] at this; simp at this; omega
    | cons _ _ => rfl
  have d : (L.rs.map RowS.name).Nodup := by
    rw [h]
    match n, h1, h5 with
    | 1, _, _ => decide +kernel
    | 2, _, _ => decide +kernel
    | 3, _, _ => decide +kernel
    | 4, _, _ => decide +kernel
    | 5, _, _ => decide +kernel
    | n + 6, _, h5 => exact absurd h5 (by omega)
  unfold badL
  rw [e, decide_eq_true d] <;> rfl
theorem Nm.get {L : LadS} {n i : Nat} {r : RowS} (h : Nm L n) (hr : L.rs[i]? = some r) : r.name = nameK i := by
  have e : (L.rs.map RowS.name)[i]? = some r.name := by rw [List.getElem?_map, hr] <;> rfl
  have hi : i < n := by
    rw [← h.len]
    exact (List.getElem?_eq_some_iff.mp hr).1
  rw [h, List.getElem?_map, List.getElem?_range hi] at e
  exact (Option.some.inj e).symm
theorem named_nm (rs : List RowS) : (named rs).map RowS.name = (List.range rs.length).map nameK := by
  apply List.ext_getElem?
  intro i
  rw [List.getElem?_map, List.getElem?_map]
  by_cases h : i < rs.length
  · have hr : rs[i]? = some rs[i] := List.getElem?_eq_getElem h
    rw [named_get hr, List.getElem?_range h] <;> rfl
  · rw [List.getElem?_eq_none (by rw [named_len]; omega), List.getElem?_eq_none (by rw [List.length_range]; omega)] <;> rfl
theorem nameK_ne {i j : Nat} (h : i < j) (hj : j < 5) : nameK i ≠ nameK j := by
  have key : ∀ (j i : Fin 5), i.1 < j.1 → nameK i.1 ≠ nameK j.1 := by decide +kernel
  exact key ⟨j, hj⟩ ⟨i, by omega⟩ h
theorem sumW_named (rs : List RowS) : sumW (named rs) = sumW rs := by
  have key : ∀ (l : List RowS) (k : Nat), sumW ((l.zipIdx k).map fun p => { p.1 with name := nameK p.2 }) = sumW l := fun l => by
    induction l with
    | nil => intro k; rfl
    | cons r t ih =>
      intro k
      rw [List.zipIdx_cons, List.map_cons]
      show r.w + sumW _ = r.w + sumW t
      rw [ih]
  exact key rs 0
/-! the hours of a copy do not look at the least -/
def nol (r : RowS) : RowS := { r with least := 0 }
def nolL (L : LadS) : LadS := { L with rs := L.rs.map nol }
theorem hstep_nol {s : HSt} {i : Nat} : (⟨nolL (hstep i s).L, (hstep i s).ab⟩ : HSt) = hstep i ⟨nolL s.L, s.ab⟩ := by
  unfold hstep
  have e : (nolL s.L).rs[i]? = (s.L.rs[i]?).map nol := List.getElem?_map ..
  cases h : s.L.rs[i]? with
  | none =>
    simp only [e, h, Option.map_none]
  | some r =>
    simp only [e, h, Option.map_some]
    show (⟨{ s.L with rs := (s.L.rs.set i (hrow s.ab r)).map nol, lk := s.L.lk + leakS r, cm := s.L.cm + r.comes }, hab s.ab r⟩ : HSt) = _
    rw [List.map_set] <;> rfl
theorem itN_nol {L : LadS} : ∀ n, (⟨nolL (itN hstep n ⟨L, 0⟩).L, (itN hstep n ⟨L, 0⟩).ab⟩ : HSt) = itN hstep n ⟨nolL L, 0⟩
  | 0 => rfl
  | n + 1 => hstep_nol.trans (congrArg (hstep n) (itN_nol n))
theorem hourS_nol {L : LadS} : nolL (hourS L) = hourS (nolL L) := by
  have h := itN_nol (L := L) L.rs.length
  have el : (nolL L).rs.length = L.rs.length := List.length_map ..
  unfold hourS
  rw [el, ← h] <;> rfl
theorem hoursN_nol {L : LadS} : ∀ n, nolL (hoursN L n) = hoursN (nolL L) n
  | 0 => rfl
  | n + 1 => by
    show nolL (hourS (hoursN L n)) = hourS (hoursN (nolL L) n)
    rw [hourS_nol, hoursN_nol n]
theorem wAt_nol {L : LadS} {i : Nat} : wAt (nolL L) i = wAt L i := by
  unfold wAt
  show (((L.rs.map nol)[i]?).map RowS.w).getD 0 = _
  rw [List.getElem?_map]
  cases L.rs[i]? <;> rfl
theorem wAt_copy {L : LadS} {i h : Nat} : wAt (hoursN (copyL L) h) i = wAt (hoursN ⟨L.rs, 0, 0, 0⟩ h) i := by
  rw [← wAt_nol, hoursN_nol, ← wAt_nol (L := hoursN ⟨L.rs, 0, 0, 0⟩ h), hoursN_nol]
  have e : nolL (copyL L) = nolL ⟨L.rs, 0, 0, 0⟩ := by
    show (⟨(L.rs.map cpy).map nol, 0, 0, 0⟩ : LadS) = ⟨L.rs.map nol, 0, 0, 0⟩
    rw [List.map_map] <;> rfl
  rw [e]
theorem DueS_one {L : LadS} {i : Nat} {n : Int} {d e : Option Nat} (h : DueS L i n d) (k : DueS L i n e) : d = e := by
  cases d with
  | none =>
    cases e with
    | none => rfl
    | some b =>
      have := h b k.1
      rw [k.2.1] at this
      cases this
  | some a =>
    cases e with
    | none =>
      have := k a h.1
      rw [h.2.1] at this
      cases this
    | some b =>
      rcases Nat.lt_trichotomy a b with z | z | z
      · have := k.2.2 a z
        rw [h.2.1] at this
        cases this
      · rw [z]
      · have := h.2.2 b z
        rw [k.2.1] at this
        cases this
end K1
namespace K1
open PySem PySem.Spec PyProof.Rows L2 Cn LamX
/-! what stands while the law runs -/
structure St1 (K : PySem.W.Frag) (H : Hp) (l pd b0 : Addr) (n : Nat) (pL : LadP) (pO : OwnP) (LL LO : LadS) : Prop where
  lad : LadAt K H pL LL
  own : OwnAt H pO LO
  gd : GdL LL
  nm : Nm LL n
  n1 : 1 ≤ n
  n5 : n ≤ 5
  nO : LO.rs.length = n
  dice : ∃ a b d, H pd = some (DiceO a b d)
  rows : ∃ as : List Addr, H b0 = some (.lst (as.map V.ref)) ∧ as.length = n
  lst : H l = some (.lst [.ref pd])
  tabs : Tabs (FL K) H
section
variable {K : PySem.W.Frag} {H H' : Hp} {l pd b0 b : Addr} {n : Nat} {pL : LadP} {pO : OwnP} {LL LO L' : LadS} {o : HO} {T : List (Addr × Str)}
theorem LadAt.nf (h : LadAt K H pL LL) (hb : H b = some o) (no : ∀ C dx fs, o ≠ .ins C dx fs) : b ∉ foot pL := fun m => by
  rcases List.mem_cons.mp m with e | m
  · rw [e, h.o] at hb
    cases hb
    exact no _ _ _ rfl
  · obtain ⟨q, hq, e⟩ := List.mem_map.mp m
    obtain ⟨i, hi⟩ := List.getElem?_of_mem hq
    obtain ⟨r, _, hr⟩ := h.r.get hi
    rw [← e, hr] at hb
    cases hb
    exact no _ _ _ rfl
theorem OwnAt.nf (h : OwnAt H pO LO) (hb : H b = some o) (n1 : ∀ kvs, o ≠ .dK kvs) (n2 : ∀ r, o ≠ .lst (rowV r)) : b ∉ ofoot pO := fun m => by
  rcases List.mem_cons.mp m with e | m
  · rw [e, h.o] at hb
    cases hb
    exact n1 _ rfl
  · obtain ⟨i, hi⟩ := List.getElem?_of_mem m
    obtain ⟨r, _, hr⟩ := h.r.get hi
    rw [hr] at hb
    cases hb
    exact n2 _ rfl
theorem dice_row {a b d : Int} {r : RowS} : DiceO a b d ≠ .lst (rowV r) := fun e => by
  injection e with e
  exact absurd (congrArg List.length e) (by show ¬ (3 = 6); decide)
theorem refs_row {as : List Addr} {r : RowS} : (.lst (as.map V.ref) : HO) ≠ .lst (rowV r) := fun e => by
  injection e with e
  exact rowV_ne e
theorem refs_dice {as : List Addr} {a b d : Int} : (.lst (as.map V.ref) : HO) ≠ DiceO a b d := fun e => by
  injection e with e
  cases as with
  | nil => cases e
  | cons x t =>
    injection e with e
    cases e
theorem LadAt.nO (h : LadAt K H pL LL) (ho : OwnAt H pO LO) : pL.a ∉ ofoot pO ∧ pL.t ∉ ofoot pO ∧ ∀ q ∈ pL.pl, q.1 ∉ ofoot pO :=
  ⟨ho.nf h.o (fun _ z => by cases z) (fun _ z => by cases z), ho.nf h.t (fun _ z => by cases z) (fun _ z => by cases z), fun q hq => by
    obtain ⟨i, hi⟩ := List.getElem?_of_mem hq
    obtain ⟨r, _, hr⟩ := h.r.get hi
    exact ho.nf hr (fun _ z => by cases z) (fun _ z => by cases z)⟩
theorem OwnAt.nL (ho : OwnAt H pO LO) (h : LadAt K H pL LL) : pO.o ∉ foot pL ∧ pO.b ∉ foot pL ∧ ∀ a ∈ pO.as, a ∉ foot pL :=
  ⟨h.nf ho.o (fun _ _ _ z => by cases z), h.nf ho.b (fun _ _ _ z => by cases z), fun a ha => by
    obtain ⟨i, hi⟩ := List.getElem?_of_mem ha
    obtain ⟨r, _, hr⟩ := ho.r.get hi
    exact h.nf hr (fun _ _ _ z => by cases z)⟩
theorem St1.fr0 (s : St1 K H l pd b0 n pL pO LL LO) (f : Fr (FL K) [] H H') : St1 K H' l pd b0 n pL pO LL LO := by
  obtain ⟨a, b, d, hd⟩ := s.dice
  obtain ⟨as, hr, hl⟩ := s.rows
  exact ⟨s.lad.fr f (by simp) (by simp) (by simp), s.own.fr f (by simp) (by simp) (by simp), s.gd, s.nm, s.n1, s.n5, s.nO, ⟨a, b, d, f.l hd (by simp)⟩, ⟨as, f.l hr (by simp), hl⟩, f.l s.lst (by simp), f.tab s.tabs⟩
theorem St1.frL (s : St1 K H l pd b0 n pL pO LL LO) (f : Fr (FL K) (foot pL) H H') (h : LadAt K H' pL L') (g : GdL L') (m : Nm L' n) : St1 K H' l pd b0 n pL pO L' LO := by
  obtain ⟨a, b, d, hd⟩ := s.dice
  obtain ⟨as, hr, hl⟩ := s.rows
  obtain ⟨z1, z2, z3⟩ := s.own.nL s.lad
  exact ⟨h, s.own.fr f z1 z2 z3, g, m, s.n1, s.n5, s.nO, ⟨a, b, d, f.l hd (s.lad.nf hd fun _ _ _ z => by cases z)⟩, ⟨as, f.l hr (s.lad.nf hr fun _ _ _ z => by cases z), hl⟩, f.l s.lst (s.lad.nf s.lst fun _ _ _ z => by cases z), f.tab s.tabs⟩
theorem St1.frO (s : St1 K H l pd b0 n pL pO LL LO) (f : Fr (FL K) (ofoot pO) H H') (h : OwnAt H' pO L') (m : L'.rs.length = n) : St1 K H' l pd b0 n pL pO LL L' := by
  obtain ⟨a, b, d, hd⟩ := s.dice
  obtain ⟨as, hr, hl⟩ := s.rows
  obtain ⟨z1, z2, z3⟩ := s.lad.nO s.own
  exact ⟨s.lad.fr f z1 z2 z3, h, s.gd, s.nm, s.n1, s.n5, m, ⟨a, b, d, f.l hd (s.own.nf hd (fun _ z => by cases z) fun _ => dice_row)⟩, ⟨as, f.l hr (s.own.nf hr (fun _ z => by cases z) fun _ => refs_row), hl⟩, f.l s.lst (s.own.nf s.lst (fun _ z => by cases z) fun _ => refs_row (as := [pd])), f.tab s.tabs⟩
theorem St1.roll (s : St1 K H l pd b0 n pL pO LL LO) {a' b' d' : Int} : St1 K (upd H pd (DiceO a' b' d')) l pd b0 n pL pO LL LO := by
  obtain ⟨a, b, d, hd⟩ := s.dice
  obtain ⟨as, hr, hl⟩ := s.rows
  have f : Fr (FL K) [pd] H (upd H pd (DiceO a' b' d')) := Fr.upd hd rfl (List.mem_singleton.mpr rfl)
  have key : ∀ c o, H c = some o → (∀ a b d, o ≠ DiceO a b d) → c ∉ [pd] := fun c o hc no z => by
    rw [List.mem_singleton.mp z, hd] at hc
    cases hc
    exact no _ _ _ rfl
  refine ⟨s.lad.fr f (key _ _ s.lad.o fun _ _ _ z => by cases z) (key _ _ s.lad.t fun _ _ _ z => by cases z) (fun q hq => ?_), s.own.fr f (key _ _ s.own.o fun _ _ _ z => by cases z) (key _ _ s.own.b fun _ _ _ => refs_dice) (fun a ha => ?_), s.gd, s.nm, s.n1, s.n5, s.nO, ⟨_, _, _, upd_same⟩, ⟨as, f.l hr (key _ _ hr fun _ _ _ => refs_dice), hl⟩, f.l s.lst (key _ _ s.lst fun _ _ _ => refs_dice (as := [pd])), f.tab s.tabs⟩
  · obtain ⟨i, hi⟩ := List.getElem?_of_mem hq
    obtain ⟨r, _, hr⟩ := s.lad.r.get hi
    exact key _ _ hr fun _ _ _ z => by cases z
  · obtain ⟨i, hi⟩ := List.getElem?_of_mem ha
    obtain ⟨r, _, hr⟩ := s.own.r.get hi
    exact key _ _ hr fun _ _ _ z => dice_row z.symm
theorem St1.lenL (s : St1 K H l pd b0 n pL pO LL LO) : LL.rs.length = n := s.nm.len
theorem Nm.hour (h : Nm L' n) : Nm (hourS L') n := by
  unfold Nm
  rw [hourS_map fun _ _ => rfl]
  exact h
theorem Nm.give (h : Nm L' n) {i : Nat} {v : Int} : Nm (giveL i v L') n := by
  unfold Nm
  rw [giveL_map fun _ _ => rfl]
  exact h
theorem Nm.take (h : Nm L' n) {i : Nat} {v : Int} {r : RowS} (hr : L'.rs[i]? = some r) : Nm (takeL i v r L') n := by
  unfold Nm
  rw [takeL_map (fun _ _ => rfl) hr]
  exact h
end
end K1
namespace K1
open PySem PySem.Spec PyProof.Rows L2 Cn LamX
local macro_rules | `(tactic| walk_at "few") => `(tactic| exact Nat.le_of_ble_eq_true rfl)
local macro_rules | `(tactic| walk_at "ne") => `(tactic| first | assumption | (apply Ne.symm; assumption) | exact ne_of_none (by assumption) (by assumption) | exact (ne_of_none (by assumption) (by assumption)).symm)
local macro_rules | `(tactic| walk_at "hf") => `(tactic| first | assumption | exact upd_same | (refine Eq.trans (upd_ne (by walk_at "ne")) ?_; walk_at "hf"))
local macro_rules | `(tactic| walk_at "bk") => `(tactic| first | (dsimp only [blk_K, blk_w, blk_prog]; done) | exact rfl | (dsimp only [blk_K, blk_w, blk_prog]; exact rfl))
local macro_rules | `(tactic| walk_at "ht") => `(tactic| exact SqT.of (by walk_at "hf"))
local macro_rules | `(tactic| walk_at "at") => `(tactic| first | exact atI_nat (by assumption) | rfl)
local macro_rules | `(tactic| walk_at "nz") => `(tactic| first | omega | exact ⟨by omega, by omega⟩)
local macro_rules | `(tactic| walk_at "ix") => `(tactic| first | assumption | rfl)
local macro_rules | `(tactic| walk_at "sq") => `(tactic| first | exact .inl (SqL.of (by walk_at "hf")) | exact .inr (SqT.of (by walk_at "hf")))
def da0 : Arguments := defArgs s_law_plain
def ds0 : Scope := defScope s_law_plain
def lamE (i : Nat) : Expr := (listEs ((defBody s_law_plain).getD 1 (.Pass ⟨0, 0, 0, 0⟩))).getD i (.Name "x" ⟨0, 0, 0, 0⟩)
def r0 : RowS := ⟨"a", 5, 2, 9, 1, 1, 3⟩
theorem gd0 : GdL ⟨[r0], 0, 0, 0⟩ := fun r hr => by
  rw [List.mem_singleton.mp hr]
  exact ⟨by decide, by decide, by decide, by decide, by decide, by decide, by decide⟩
theorem not_b {i : Nat} {r : RowS} (h : [r0][i]? = some r) : ¬ r.name = "b" := by
  have : r = r0 := List.mem_singleton.mp (List.mem_of_getElem? h)
  rw [this]
  decide +kernel
section
variable {K : PySem.W.Frag} {H : Hp} {one dxo : Addr}
theorem rows_0 {r : RowS} (h : ReachAt K H one dxo r) : RowsAt K H [] [] := ⟨rfl, fun _ _ _ z => by simp at z⟩
theorem rows_1 {r : RowS} (h : ReachAt K H one dxo r) : RowsAt K H [(one, dxo)] [r] := (rows_0 h).snoc h
theorem rows_2 {r : RowS} (h : ReachAt K H one dxo r) : RowsAt K H [(one, dxo), (one, dxo)] [r, r] := (rows_1 h).snoc h
section
variable {b x dx : Addr} {vs : List V} {pl : List (Addr × Addr)} {rs : List RowS} {o : HO} (nb : H b = none) (nx : upd H b (.lst vs) x = none) (ndx : upd H b (.lst vs) dx = none) (hne : dx ≠ x)
include nb nx ndx hne
theorem lad_b : upd (upd (upd H b (.lst vs)) dx (.own x)) x o b = some (.lst vs) := (Fr.make (T := []) (S := []) nx ndx hne).l upd_same (by simp)
theorem lad_rows (hR : RowsAt K H pl rs) : RowsAt K (upd (upd (upd H b (.lst vs)) dx (.own x)) x o) pl rs := hR.mono fun q hq r hr => (Fr.make (T := FL K) (S := []) nx ndx hne).i ((Fr.new (T := FL K) (S := []) nb).i hr (by simp)) (by simp)
theorem lad_fx {H' : Hp} (f : Fr (FL K) [x] (upd (upd (upd H b (.lst vs)) dx (.own x)) x o) H') : Fr (FL K) [] H H' := ((Fr.new nb).trans (Fr.make nx ndx hne)).transW f fun c hc => .inr (by rw [List.mem_singleton.mp hc]; exact Nw.of (Fr.new (T := FL K) (S := []) nb) nx (by simp))
end
end
/-- what each of the lambdas does: it raises, nothing is changed -/
def tPl (K : PySem.W.Frag) (E : XK) : TE := fun σ H _ => ∃ one dxo, σ[0]? = some (some (.ref one)) ∧ ReachAt K H one dxo r0 ∧ ∀ H', Fr (FL K) [] H H' → E (RErr K) none H'
def spPlain (K : PySem.W.Frag) : Sp := Sp0 fun H Q _ => Tabs (FL K) H ∧ ∀ H', Fr (FL K) [] H H' → Q (.bl true) H'
section
variable {P : Program} {w : World} {K : PySem.W.Frag} {mg : Str → Option Value} {base : Heap}
theorem plain_body (T : Txt K mg base) (A : Around) (outer : List Env) (s : Shared) (H : Hp) (E : XK) : ∀ (i : Fin 17) (A' : Around) (outer' : List Env) (s' : Shared) (H' : Hp) (E' : XK) (f c' : Addr), Room 4 (A'.deeper (lamEnv (cxOf (L2.CX P w) P w K mg base ["one", "bad", "f"] d_law_plain.qual d_law_plain.scope (He.fAd K d_law_plain.at_) (.ref (He.cT K d_law_plain.at_).1) A outer s H E) (lamSc ds0 (lamE i.1)) s'.heap.objs.size f c')) →
      PE (lamCx (cxOf (L2.CX P w) P w K mg base ["one", "bad", "f"] d_law_plain.qual d_law_plain.scope (He.fAd K d_law_plain.at_) (.ref (He.cT K d_law_plain.at_).1) A outer s H E) A' outer' s' H' E' (lamSc ds0 (lamE i.1)) f c') (lamBd (lamE i.1)) (tPl K E') := by
    rintro ⟨i, hi⟩ A' outer' s' H' E' f c' hr
    match i, hi with
    | 0, _ => exact PE.weak (pe_mk T.m_Reach (ok_Reach_init T) hr (by decide) letsL T.g_Reach (pa_cons pe_str (pa_cons pe_int (pa_cons pe_int (pa_cons pe_int (pa_cons pe_int (pa_cons pe_int (pa_cons pe_int pa_nil)))))))) (fun σ H Q ⟨one, dxo, h0, ha, hE⟩ => fun x dx nx ndx hne => ⟨_, _, _, _, _, _, _, _, rfl, x, dx, ⟨"a", 1, 2, 9, 0, 0, 1⟩, rfl, upd_same, rfl, rfl, rfl, rfl, rfl, rfl, rfl, fun _ => hE _ (Fr.make nx ndx hne), fun z => absurd z (by decide)⟩)
    | 1, _ => exact PE.weak (pe_mk T.m_Reach (ok_Reach_init T) hr (by decide) letsL T.g_Reach (pa_cons pe_str (pa_cons pe_int (pa_cons pe_int (pa_cons pe_int (pa_cons pe_int (pa_cons pe_int (pa_cons pe_int pa_nil)))))))) (fun σ H Q ⟨one, dxo, h0, ha, hE⟩ => fun x dx nx ndx hne => ⟨_, _, _, _, _, _, _, _, rfl, x, dx, ⟨"a", 9, 2, 5, 0, 0, 1⟩, rfl, upd_same, rfl, rfl, rfl, rfl, rfl, rfl, rfl, fun _ => hE _ (Fr.make nx ndx hne), fun z => absurd z (by decide)⟩)
    | 2, _ => exact PE.weak (pe_mk T.m_Reach (ok_Reach_init T) hr (by decide) letsL T.g_Reach (pa_cons pe_str (pa_cons pe_int (pa_cons (pe_un un_neg pe_int) (pa_cons pe_int (pa_cons pe_int (pa_cons pe_int (pa_cons pe_int pa_nil)))))))) (fun σ H Q ⟨one, dxo, h0, ha, hE⟩ => ⟨_, rfl, fun x dx nx ndx hne => ⟨_, _, _, _, _, _, _, _, rfl, x, dx, ⟨"a", 5, (-1), 9, 0, 0, 1⟩, rfl, upd_same, rfl, rfl, rfl, rfl, rfl, rfl, rfl, fun _ => hE _ (Fr.make nx ndx hne), fun z => absurd z (by decide)⟩⟩)
    | 3, _ => exact PE.weak (pe_mk T.m_Reach (ok_Reach_init T) hr (by decide) letsL T.g_Reach (pa_cons pe_str (pa_cons pe_int (pa_cons pe_int (pa_cons pe_int (pa_cons pe_int (pa_cons pe_int (pa_cons pe_int pa_nil)))))))) (fun σ H Q ⟨one, dxo, h0, ha, hE⟩ => fun x dx nx ndx hne => ⟨_, _, _, _, _, _, _, _, rfl, x, dx, ⟨"a", 5, 2, 1000001, 0, 0, 1⟩, rfl, upd_same, rfl, rfl, rfl, rfl, rfl, rfl, rfl, fun _ => hE _ (Fr.make nx ndx hne), fun z => absurd z (by decide)⟩)
    | 4, _ => exact PE.weak (pe_mk T.m_Reach (ok_Reach_init T) hr (by decide) letsL T.g_Reach (pa_cons pe_str (pa_cons pe_int (pa_cons pe_int (pa_cons pe_int (pa_cons (pe_un un_neg pe_int) (pa_cons pe_int (pa_cons pe_int pa_nil)))))))) (fun σ H Q ⟨one, dxo, h0, ha, hE⟩ => ⟨_, rfl, fun x dx nx ndx hne => ⟨_, _, _, _, _, _, _, _, rfl, x, dx, ⟨"a", 5, 2, 9, (-1), 0, 1⟩, rfl, upd_same, rfl, rfl, rfl, rfl, rfl, rfl, rfl, fun _ => hE _ (Fr.make nx ndx hne), fun z => absurd z (by decide)⟩⟩)
    | 5, _ => exact PE.weak (pe_mk T.m_Reach (ok_Reach_init T) hr (by decide) letsL T.g_Reach (pa_cons pe_str (pa_cons pe_int (pa_cons pe_int (pa_cons pe_int (pa_cons pe_int (pa_cons (pe_un un_neg pe_int) (pa_cons pe_int pa_nil)))))))) (fun σ H Q ⟨one, dxo, h0, ha, hE⟩ => ⟨_, rfl, fun x dx nx ndx hne => ⟨_, _, _, _, _, _, _, _, rfl, x, dx, ⟨"a", 5, 2, 9, 0, (-1), 1⟩, rfl, upd_same, rfl, rfl, rfl, rfl, rfl, rfl, rfl, fun _ => hE _ (Fr.make nx ndx hne), fun z => absurd z (by decide)⟩⟩)
    | 6, _ => exact PE.weak (pe_mk T.m_Reach (ok_Reach_init T) hr (by decide) letsL T.g_Reach (pa_cons pe_str (pa_cons pe_int (pa_cons pe_int (pa_cons pe_int (pa_cons pe_int (pa_cons pe_int (pa_cons pe_int pa_nil)))))))) (fun σ H Q ⟨one, dxo, h0, ha, hE⟩ => fun x dx nx ndx hne => ⟨_, _, _, _, _, _, _, _, rfl, x, dx, ⟨"a", 5, 2, 9, 0, 0, 0⟩, rfl, upd_same, rfl, rfl, rfl, rfl, rfl, rfl, rfl, fun _ => hE _ (Fr.make nx ndx hne), fun z => absurd z (by decide)⟩)
    | 7, _ => exact PE.weak (pe_mt (pv 0) T.k_Reach T.me_Reach_take (ok_Reach_take T) hr (by decide) letsL (pa_cons pe_int pa_nil)) (fun σ H Q ⟨one, dxo, h0, ha, hE⟩ => ⟨_, h0, _, _, _, rfl, ha, nm_Reach_take _, _, _, rfl, one, dxo, r0, 4, rfl, rfl, ha, fun _ => hE _ Fr.refl, fun z => absurd z (by decide)⟩)
    | 8, _ => exact PE.weak (pe_mt (pv 0) T.k_Reach T.me_Reach_take (ok_Reach_take T) hr (by decide) letsL (pa_cons (pe_un un_neg pe_int) pa_nil)) (fun σ H Q ⟨one, dxo, h0, ha, hE⟩ => ⟨_, h0, _, _, _, rfl, ha, nm_Reach_take _, _, rfl, _, _, rfl, one, dxo, r0, (-1), rfl, rfl, ha, fun _ => hE _ Fr.refl, fun z => absurd z (by decide)⟩)
    | 9, _ => exact PE.weak (pe_mt (pv 0) T.k_Reach T.me_Reach_give (ok_Reach_give T) hr (by decide) letsL (pa_cons (pe_un un_neg pe_int) pa_nil)) (fun σ H Q ⟨one, dxo, h0, ha, hE⟩ => ⟨_, h0, _, _, _, rfl, ha, nm_Reach_give _, _, rfl, _, _, rfl, one, dxo, r0, (-1), rfl, rfl, ha, fun _ => hE _ Fr.refl, fun z => absurd z (by decide)⟩)
    | 10, _ => exact PE.weak (pe_mk T.m_Ladder (ok_Ladder_init T) hr (by decide) letsL T.g_Ladder (pa_cons (pe_lst pa_nil) pa_nil)) (fun σ H Q ⟨one, dxo, h0, ha, hE⟩ => ⟨by walk_at "few", fun b nb x dx nx ndx hne => ⟨_, _, rfl, x, dx, b, [], [], rfl, upd_same, rfl, lad_b nb nx ndx hne, lad_rows nb nx ndx hne (rows_0 ha), by walk_at "few", fun _ H' f => hE _ (lad_fx nb nx ndx hne f), fun z => absurd z (by decide +kernel)⟩⟩)
    | 11, _ => exact PE.weak (pe_mk T.m_Ladder (ok_Ladder_init T) hr (by decide) letsL T.g_Ladder (pa_cons (pe_lst (pa_cons (pv 0) (pa_cons (pv 0) pa_nil))) pa_nil)) (fun σ H Q ⟨one, dxo, h0, ha, hE⟩ => ⟨_, h0, _, h0, by walk_at "few", fun b nb x dx nx ndx hne => ⟨_, _, rfl, x, dx, b, [(one, dxo), (one, dxo)], [r0, r0], rfl, upd_same, rfl, lad_b nb nx ndx hne, lad_rows nb nx ndx hne (rows_2 ha), by walk_at "few", fun _ H' f => hE _ (lad_fx nb nx ndx hne f), fun z => absurd z (by decide +kernel)⟩⟩)
    | 12, _ => exact PE.weak (pe_mt (pe_mk T.m_Ladder (ok_Ladder_init T) hr (by decide) letsL T.g_Ladder (pa_cons (pe_lst (pa_cons (pv 0) pa_nil)) pa_nil)) T.k_Ladder T.me_Ladder_give (ok_Ladder_give T) hr (by decide) letsL (pa_cons pe_int (pa_cons pe_int pa_nil))) (fun σ H Q ⟨one, dxo, h0, ha, hE⟩ => ⟨_, h0, by walk_at "few", fun b nb x dx nx ndx hne => ⟨_, _, rfl, x, dx, b, [(one, dxo)], [r0], rfl, upd_same, rfl, lad_b nb nx ndx hne, lad_rows nb nx ndx hne (rows_1 ha), by walk_at "few", fun z => absurd z (by decide +kernel), fun _ H' t f hl => ⟨rfl, ⟨_, _, _, rfl, hl.o, nm_Ladder_give _, _, _, _, rfl, ⟨x, dx, t, [(one, dxo)]⟩, ⟨[r0], 0, 0, 0⟩, 1, 5, rfl, rfl, rfl, hl, gd0, fun _ => hE _ (lad_fx nb nx ndx hne f), fun z => absurd z (by decide), fun z => absurd z (by decide)⟩⟩⟩⟩)
    | 13, _ => exact PE.weak (pe_mt (pe_mk T.m_Ladder (ok_Ladder_init T) hr (by decide) letsL T.g_Ladder (pa_cons (pe_lst (pa_cons (pv 0) pa_nil)) pa_nil)) T.k_Ladder T.me_Ladder_give (ok_Ladder_give T) hr (by decide) letsL (pa_cons (pe_un un_neg pe_int) (pa_cons pe_int pa_nil))) (fun σ H Q ⟨one, dxo, h0, ha, hE⟩ => ⟨_, h0, by walk_at "few", fun b nb x dx nx ndx hne => ⟨_, _, rfl, x, dx, b, [(one, dxo)], [r0], rfl, upd_same, rfl, lad_b nb nx ndx hne, lad_rows nb nx ndx hne (rows_1 ha), by walk_at "few", fun z => absurd z (by decide +kernel), fun _ H' t f hl => ⟨rfl, ⟨_, _, _, rfl, hl.o, nm_Ladder_give _, _, rfl, _, _, _, rfl, ⟨x, dx, t, [(one, dxo)]⟩, ⟨[r0], 0, 0, 0⟩, (-1), 5, rfl, rfl, rfl, hl, gd0, fun _ => hE _ (lad_fx nb nx ndx hne f), fun z => absurd z (by decide), fun z => absurd z (by decide)⟩⟩⟩⟩)
    | 14, _ => exact PE.weak (pe_mt (pe_mk T.m_Ladder (ok_Ladder_init T) hr (by decide) letsL T.g_Ladder (pa_cons (pe_lst (pa_cons (pv 0) pa_nil)) pa_nil)) T.k_Ladder T.me_Ladder_place_of (ok_Ladder_place_of T) hr (by decide) letsL (pa_cons pe_str pa_nil)) (fun σ H Q ⟨one, dxo, h0, ha, hE⟩ => ⟨_, h0, by walk_at "few", fun b nb x dx nx ndx hne => ⟨_, _, rfl, x, dx, b, [(one, dxo)], [r0], rfl, upd_same, rfl, lad_b nb nx ndx hne, lad_rows nb nx ndx hne (rows_1 ha), by walk_at "few", fun z => absurd z (by decide +kernel), fun _ H' t f hl => ⟨rfl, ⟨_, _, _, rfl, hl.o, nm_Ladder_place_of _, _, _, rfl, ⟨x, dx, t, [(one, dxo)]⟩, ⟨[r0], 0, 0, 0⟩, "b", rfl, rfl, hl, fun i r hr hn => absurd hn (not_b hr), fun _ H2 f2 => hE _ ((lad_fx nb nx ndx hne f).trans f2)⟩⟩⟩⟩)
    | 15, _ => exact PE.weak (pe_mt (pe_mk T.m_Ladder (ok_Ladder_init T) hr (by decide) letsL T.g_Ladder (pa_cons (pe_lst (pa_cons (pv 0) pa_nil)) pa_nil)) T.k_Ladder T.me_Ladder_hours_until_short (ok_Ladder_hours_until_short T) hr (by decide) letsL (pa_cons pe_int (pa_cons pe_int pa_nil))) (fun σ H Q ⟨one, dxo, h0, ha, hE⟩ => ⟨_, h0, by walk_at "few", fun b nb x dx nx ndx hne => ⟨_, _, rfl, x, dx, b, [(one, dxo)], [r0], rfl, upd_same, rfl, lad_b nb nx ndx hne, lad_rows nb nx ndx hne (rows_1 ha), by walk_at "few", fun z => absurd z (by decide +kernel), fun _ H' t f hl => ⟨rfl, ⟨_, _, _, rfl, hl.o, nm_Ladder_hours_until_short _, _, _, _, rfl, ⟨x, dx, t, [(one, dxo)]⟩, ⟨[r0], 0, 0, 0⟩, 1, 0, rfl, rfl, rfl, hl, gd0, by decide +kernel, fun _ => hE _ (lad_fx nb nx ndx hne f), fun z => absurd z (by decide)⟩⟩⟩⟩)
    | 16, _ => exact PE.weak (pe_mt (pe_mk T.m_Ladder (ok_Ladder_init T) hr (by decide) letsL T.g_Ladder (pa_cons (pe_lst (pa_cons (pv 0) pa_nil)) pa_nil)) T.k_Ladder T.me_Ladder_hours_until_short (ok_Ladder_hours_until_short T) hr (by decide) letsL (pa_cons pe_int (pa_cons (pe_un un_neg pe_int) pa_nil))) (fun σ H Q ⟨one, dxo, h0, ha, hE⟩ => ⟨_, h0, by walk_at "few", fun b nb x dx nx ndx hne => ⟨_, _, rfl, x, dx, b, [(one, dxo)], [r0], rfl, upd_same, rfl, lad_b nb nx ndx hne, lad_rows nb nx ndx hne (rows_1 ha), by walk_at "few", fun z => absurd z (by decide +kernel), fun _ H' t f hl => ⟨rfl, ⟨_, _, _, rfl, hl.o, nm_Ladder_hours_until_short _, _, rfl, _, _, _, rfl, ⟨x, dx, t, [(one, dxo)]⟩, ⟨[r0], 0, 0, 0⟩, 0, (-1), rfl, rfl, rfl, hl, gd0, by decide +kernel, fun _ => hE _ (lad_fx nb nx ndx hne f), fun z => absurd z (by decide)⟩⟩⟩⟩)
    | n + 17, h => exact absurd h (by omega)
theorem plain_L : ∀ i : Fin 17, lamSB d_law_plain.scope (lamSc ds0 (lamE i.1)) = true := by decide +kernel
theorem plain_bind : ∀ (i : Fin 17) (q : Str) (cl : List (Str × Addr)) (pm cv ctv : Value), bindArgs (PySem.W.kla_fn "<lambda>" q (lamPr da0 (lamE i.1)) (lamBd (lamE i.1)) (lamSc ds0 (lamE i.1)) cl pm cv ctv) ⟨[], []⟩ = pure [] := by
    rintro ⟨i, hi⟩ q cl pm cv ctv
    match i, hi with
    | 0, _ => rfl
    | 1, _ => rfl
    | 2, _ => rfl
    | 3, _ => rfl
    | 4, _ => rfl
    | 5, _ => rfl
    | 6, _ => rfl
    | 7, _ => rfl
    | 8, _ => rfl
    | 9, _ => rfl
    | 10, _ => rfl
    | 11, _ => rfl
    | 12, _ => rfl
    | 13, _ => rfl
    | 14, _ => rfl
    | 15, _ => rfl
    | 16, _ => rfl
    | n + 17, h => exact absurd h (by omega)
end
end K1
namespace K1
open PySem PySem.Spec PyProof.Rows L2 Cn LamX
local macro_rules | `(tactic| walk_at "few") => `(tactic| exact Nat.le_of_ble_eq_true rfl)
local macro_rules | `(tactic| walk_at "ne") => `(tactic| first | assumption | (apply Ne.symm; assumption) | exact ne_of_none (by assumption) (by assumption) | exact (ne_of_none (by assumption) (by assumption)).symm)
local macro_rules | `(tactic| walk_at "hf") => `(tactic| first | assumption | exact upd_same | (refine Eq.trans (upd_ne (by walk_at "ne")) ?_; walk_at "hf"))
local macro_rules | `(tactic| walk_at "bk") => `(tactic| first | (dsimp only [blk_K, blk_w, blk_prog]; done) | exact rfl | (dsimp only [blk_K, blk_w, blk_prog]; exact rfl))
local macro_rules | `(tactic| walk_at "ht") => `(tactic| exact SqT.of (by walk_at "hf"))
local macro_rules | `(tactic| walk_at "at") => `(tactic| first | exact atI_nat (by assumption) | rfl)
local macro_rules | `(tactic| walk_at "nz") => `(tactic| first | omega | exact ⟨by omega, by omega⟩)
local macro_rules | `(tactic| walk_at "ix") => `(tactic| first | assumption | rfl)
local macro_rules | `(tactic| walk_at "sq") => `(tactic| first | exact .inl (SqL.of (by walk_at "hf")) | exact .inr (SqT.of (by walk_at "hf")))
def r1 : RowS := ⟨"a", 5, 2, 9, 0, 1, 3⟩
theorem gd1 : GdL ⟨[r1], 0, 0, 0⟩ := fun r hr => by
  rw [List.mem_singleton.mp hr]
  exact ⟨by decide, by decide, by decide, by decide, by decide, by decide, by decide⟩
theorem hours0 : ∀ h, (hoursN (copyL ⟨[r0], 0, 0, 0⟩) h).rs = [cpy r0]
  | 0 => rfl
  | h + 1 => by
    show (hourS (hoursN (copyL ⟨[r0], 0, 0, 0⟩) h)).rs = _
    have e := hours0 h
    generalize hoursN (copyL ⟨[r0], 0, 0, 0⟩) h = L at e ⊢
    obtain ⟨rs, lk, sp, cm⟩ := L
    have e' : rs = [cpy r0] := e
    subst e'
    rfl
theorem due0 : DueS ⟨[r0], 0, 0, 0⟩ 0 3 none := fun h _ => by
  unfold shortB wAt
  rw [hours0]
  rfl
theorem due1 : DueS ⟨[r1], 0, 0, 0⟩ 0 2 (some 2) := ⟨by decide, by decide +kernel, fun j hj => by
  match j, hj with
  | 0, _ => decide +kernel
  | 1, _ => decide +kernel
  | n + 2, h => exact absurd h (by omega)⟩
section
variable {P : Program} {w : World} {K : PySem.W.Frag} {mg : Str → Option Value} {base : Heap}
theorem ok_law_plain (T : Txt K mg base) : Pr P w K mg base 8 (He.fAd K ("_law_plain", none)) [] (spPlain K) := by
  refine mk_prT T.d_law_plain rfl sc_law_plain (fun _ _ _ _ _ _ us hl => match us, hl with | [], _ => rfl) len0 (fun A outer s H vs Q E hr h => ?_)
  have nd := sc_law_plain.nd
  have hbody := plain_body T A outer s H E (P := P) (w := w)
  obtain ⟨rfl, ht, k⟩ := h
  refine ⟨_, (pss_cons (ps_set (i := 0) nd rfl (Or.inr rfl) (pe_mk T.m_Reach (ok_Reach_init T) hr (by decide) lets T.g_Reach (pa_cons pe_str (pa_cons pe_int (pa_cons pe_int (pa_cons pe_int (pa_cons pe_int (pa_cons pe_int (pa_cons pe_int pa_nil)))))))))
      (pss_cons (ps_set (i := 1) nd rfl (Or.inl rfl) (pe_lst (pa_cons (pe_lam (T.tb _ tm_law_plain) rfl tl_law_plain (tab_uniq T.nt tl_law_plain) (by rfl) rfl) (pa_cons (pe_lam (T.tb _ tm_law_plain) rfl tl_law_plain (tab_uniq T.nt tl_law_plain) (by rfl) rfl) (pa_cons (pe_lam (T.tb _ tm_law_plain) rfl tl_law_plain (tab_uniq T.nt tl_law_plain) (by rfl) rfl) (pa_cons (pe_lam (T.tb _ tm_law_plain) rfl tl_law_plain (tab_uniq T.nt tl_law_plain) (by rfl) rfl) (pa_cons (pe_lam (T.tb _ tm_law_plain) rfl tl_law_plain (tab_uniq T.nt tl_law_plain) (by rfl) rfl) (pa_cons (pe_lam (T.tb _ tm_law_plain) rfl tl_law_plain (tab_uniq T.nt tl_law_plain) (by rfl) rfl) (pa_cons (pe_lam (T.tb _ tm_law_plain) rfl tl_law_plain (tab_uniq T.nt tl_law_plain) (by rfl) rfl) (pa_cons (pe_lam (T.tb _ tm_law_plain) rfl tl_law_plain (tab_uniq T.nt tl_law_plain) (by rfl) rfl) (pa_cons (pe_lam (T.tb _ tm_law_plain) rfl tl_law_plain (tab_uniq T.nt tl_law_plain) (by rfl) rfl) (pa_cons (pe_lam (T.tb _ tm_law_plain) rfl tl_law_plain (tab_uniq T.nt tl_law_plain) (by rfl) rfl) (pa_cons (pe_lam (T.tb _ tm_law_plain) rfl tl_law_plain (tab_uniq T.nt tl_law_plain) (by rfl) rfl) (pa_cons (pe_lam (T.tb _ tm_law_plain) rfl tl_law_plain (tab_uniq T.nt tl_law_plain) (by rfl) rfl) (pa_cons (pe_lam (T.tb _ tm_law_plain) rfl tl_law_plain (tab_uniq T.nt tl_law_plain) (by rfl) rfl) (pa_cons (pe_lam (T.tb _ tm_law_plain) rfl tl_law_plain (tab_uniq T.nt tl_law_plain) (by rfl) rfl) (pa_cons (pe_lam (T.tb _ tm_law_plain) rfl tl_law_plain (tab_uniq T.nt tl_law_plain) (by rfl) rfl) (pa_cons (pe_lam (T.tb _ tm_law_plain) rfl tl_law_plain (tab_uniq T.nt tl_law_plain) (by rfl) rfl) (pa_cons (pe_lam (T.tb _ tm_law_plain) rfl tl_law_plain (tab_uniq T.nt tl_law_plain) (by rfl) rfl) pa_nil)))))))))))))))))))
      (pss_cons (ps_if (PW.pt (pw_or (pt_cmpR (op_neD hr.units) (pe_lcS (own := [("f", 2)]) (g := gName 2) nd (pi_list (pv 1)) (blkOk_by (own := [("f", 2)]) (N := ["one", "bad", "f"]) (sc := defScope s_law_plain) (by decide +kernel)) (fun _ _ _ _ _ => pg_name (i := 2) nd rfl (.inl rfl)) (fun σ s H C cl fp B => pts_one (pt_cmpR op_ne (pe_toldB (ι := Fin 17) (k := 4) (params := fun i => lamPr da0 (lamE i.1)) (body := fun i => lamBd (lamE i.1)) (lsc := fun i => lamSc ds0 (lamE i.1)) (tb := fun _ E => tPl K E) B T.d_law_told rfl T.g_law_told rfl rfl (fun _ _ _ _ _ _ us hl => match us, hl with | [_], _ => rfl) sc_law_told rfl (fun _ => rfl) (.inl rfl) rfl rfl T.g_ReachError rfl hr (by decide) plain_L plain_bind hbody 0 (pv 2) rfl) pe_str (nomark _))) (fun _ _ _ _ _ _ _ => pe_int)) (pe_lst pa_nil) (nomark _)) (pw_or (pt_cmpR op_ne ((pe_gint T.c_MOST_WATER)) pe_int (nomark _)) (pw_or1 (pt_cmpR (op_neD hr.units) (pe_tup (pa_cons (pe_fld (pv 0) rfl) (pa_cons (pe_fld (pv 0) rfl) pa_nil))) (pe_tup (pa_cons pe_str (pa_cons pe_int pa_nil))) (nomark _))))))
        (pss_one (ps_ret pe_bl))
        pss_nil)
      (pss_one (ps_ret (pe_and (pe_cmpR op_eq (pe_mt (pv 0) T.k_Reach T.me_Reach_give (ok_Reach_give T) hr (by decide) lets (pa_cons pe_int pa_nil)) pe_int (nomark _)) (pe_and (pe_cmpR (op_eqD hr.units) (pe_mt (pv 0) T.k_Reach T.me_Reach_hour (ok_Reach_hour T) hr (by decide) lets (pa_cons pe_int pa_nil)) (pe_tup (pa_cons pe_int (pa_cons pe_int pa_nil))) (nomark _)) (pe_and (pe_cmpR op_eq (pe_fld (pv 0) rfl) pe_int (nomark _)) (pe_and (pe_cmpR op_isN (pe_mt (pe_mk T.m_Ladder (ok_Ladder_init T) hr (by decide) lets T.g_Ladder (pa_cons (pe_lst (pa_cons (pe_mk T.m_Reach (ok_Reach_init T) hr (by decide) lets T.g_Reach (pa_cons pe_str (pa_cons pe_int (pa_cons pe_int (pa_cons pe_int (pa_cons pe_int (pa_cons pe_int (pa_cons pe_int pa_nil)))))))) pa_nil)) pa_nil)) T.k_Ladder T.me_Ladder_hours_until_short (ok_Ladder_hours_until_short T) hr (by decide) lets (pa_cons pe_int (pa_cons pe_int pa_nil))) pe_non (nomark _)) (pe_one (pe_cmpR op_eq (pe_mt (pe_mk T.m_Ladder (ok_Ladder_init T) hr (by decide) lets T.g_Ladder (pa_cons (pe_lst (pa_cons (pe_mk T.m_Reach (ok_Reach_init T) hr (by decide) lets T.g_Reach (pa_cons pe_str (pa_cons pe_int (pa_cons pe_int (pa_cons pe_int (pa_cons pe_int (pa_cons pe_int (pa_cons pe_int pa_nil)))))))) pa_nil)) pa_nil)) T.k_Ladder T.me_Ladder_hours_until_short (ok_Ladder_hours_until_short T) hr (by decide) lets (pa_cons pe_int (pa_cons pe_int pa_nil))) pe_int (nomark _)))))))))))), ?_⟩
  intro x dx nx ndx hne
  refine ⟨_, _, _, _, _, _, _, _, rfl, x, dx, r0, rfl, upd_same, rfl, rfl, rfl, rfl, rfl, rfl, rfl, fun z => absurd z (by decide), fun _ => ⟨rfl, ?_⟩⟩
  rw [upd_upd]
  have fm : Fr (FL K) [] H (upd (upd H dx (.own x)) x (RchO K dx r0)) := Fr.make nx ndx hne
  have ha : ReachAt K (upd (upd H dx (.own x)) x (RchO K dx r0)) x dx r0 := upd_same
  have ht0 := fm.tab ht
  have Nx : Nw H x := Nw.none nx
  refine nx_ap2 (upd (upd H dx (.own x)) x (RchO K dx r0)) rfl ?_
  generalize upd (upd H dx (.own x)) x (RchO K dx r0) = H1 at *
  have f0 : Fr (FL K) [] H1 H1 := Fr.refl
  refine ⟨ht0, fun g0 c0 H0_ n0 e0 ht1 l0 k0 => ?_⟩
  have a1 := ((LamsAt.nil (H := H1)).snoc (da := da0) (ds := ds0) (E := lamE) e0 (f := g0) (c' := c0) l0 k0)
  have f1 := f0.trans (Fr.of_ext (T := FL K) (S := []) e0 fun _ => ht1)
  refine ⟨ht1, fun g1 c1 H1_ n1 e1 ht2 l1 k1 => ?_⟩
  have a2 := (a1.snoc (da := da0) (ds := ds0) (E := lamE) e1 (f := g1) (c' := c1) l1 k1)
  have f2 := f1.trans (Fr.of_ext (T := FL K) (S := []) e1 fun _ => ht2)
  refine ⟨ht2, fun g2 c2 H2_ n2 e2 ht3 l2 k2 => ?_⟩
  have a3 := (a2.snoc (da := da0) (ds := ds0) (E := lamE) e2 (f := g2) (c' := c2) l2 k2)
  have f3 := f2.trans (Fr.of_ext (T := FL K) (S := []) e2 fun _ => ht3)
  refine ⟨ht3, fun g3 c3 H3_ n3 e3 ht4 l3 k3 => ?_⟩
  have a4 := (a3.snoc (da := da0) (ds := ds0) (E := lamE) e3 (f := g3) (c' := c3) l3 k3)
  have f4 := f3.trans (Fr.of_ext (T := FL K) (S := []) e3 fun _ => ht4)
  refine ⟨ht4, fun g4 c4 H4_ n4 e4 ht5 l4 k4 => ?_⟩
  have a5 := (a4.snoc (da := da0) (ds := ds0) (E := lamE) e4 (f := g4) (c' := c4) l4 k4)
  have f5 := f4.trans (Fr.of_ext (T := FL K) (S := []) e4 fun _ => ht5)
  refine ⟨ht5, fun g5 c5 H5_ n5 e5 ht6 l5 k5 => ?_⟩
  have a6 := (a5.snoc (da := da0) (ds := ds0) (E := lamE) e5 (f := g5) (c' := c5) l5 k5)
  have f6 := f5.trans (Fr.of_ext (T := FL K) (S := []) e5 fun _ => ht6)
  refine ⟨ht6, fun g6 c6 H6_ n6 e6 ht7 l6 k6 => ?_⟩
  have a7 := (a6.snoc (da := da0) (ds := ds0) (E := lamE) e6 (f := g6) (c' := c6) l6 k6)
  have f7 := f6.trans (Fr.of_ext (T := FL K) (S := []) e6 fun _ => ht7)
  refine ⟨ht7, fun g7 c7 H7_ n7 e7 ht8 l7 k7 => ?_⟩
  have a8 := (a7.snoc (da := da0) (ds := ds0) (E := lamE) e7 (f := g7) (c' := c7) l7 k7)
  have f8 := f7.trans (Fr.of_ext (T := FL K) (S := []) e7 fun _ => ht8)
  refine ⟨ht8, fun g8 c8 H8_ n8 e8 ht9 l8 k8 => ?_⟩
  have a9 := (a8.snoc (da := da0) (ds := ds0) (E := lamE) e8 (f := g8) (c' := c8) l8 k8)
  have f9 := f8.trans (Fr.of_ext (T := FL K) (S := []) e8 fun _ => ht9)
  refine ⟨ht9, fun g9 c9 H9_ n9 e9 ht10 l9 k9 => ?_⟩
  have a10 := (a9.snoc (da := da0) (ds := ds0) (E := lamE) e9 (f := g9) (c' := c9) l9 k9)
  have f10 := f9.trans (Fr.of_ext (T := FL K) (S := []) e9 fun _ => ht10)
  refine ⟨ht10, fun g10 c10 H10_ n10 e10 ht11 l10 k10 => ?_⟩
  have a11 := (a10.snoc (da := da0) (ds := ds0) (E := lamE) e10 (f := g10) (c' := c10) l10 k10)
  have f11 := f10.trans (Fr.of_ext (T := FL K) (S := []) e10 fun _ => ht11)
  refine ⟨ht11, fun g11 c11 H11_ n11 e11 ht12 l11 k11 => ?_⟩
  have a12 := (a11.snoc (da := da0) (ds := ds0) (E := lamE) e11 (f := g11) (c' := c11) l11 k11)
  have f12 := f11.trans (Fr.of_ext (T := FL K) (S := []) e11 fun _ => ht12)
  refine ⟨ht12, fun g12 c12 H12_ n12 e12 ht13 l12 k12 => ?_⟩
  have a13 := (a12.snoc (da := da0) (ds := ds0) (E := lamE) e12 (f := g12) (c' := c12) l12 k12)
  have f13 := f12.trans (Fr.of_ext (T := FL K) (S := []) e12 fun _ => ht13)
  refine ⟨ht13, fun g13 c13 H13_ n13 e13 ht14 l13 k13 => ?_⟩
  have a14 := (a13.snoc (da := da0) (ds := ds0) (E := lamE) e13 (f := g13) (c' := c13) l13 k13)
  have f14 := f13.trans (Fr.of_ext (T := FL K) (S := []) e13 fun _ => ht14)
  refine ⟨ht14, fun g14 c14 H14_ n14 e14 ht15 l14 k14 => ?_⟩
  have a15 := (a14.snoc (da := da0) (ds := ds0) (E := lamE) e14 (f := g14) (c' := c14) l14 k14)
  have f15 := f14.trans (Fr.of_ext (T := FL K) (S := []) e14 fun _ => ht15)
  refine ⟨ht15, fun g15 c15 H15_ n15 e15 ht16 l15 k15 => ?_⟩
  have a16 := (a15.snoc (da := da0) (ds := ds0) (E := lamE) e15 (f := g15) (c' := c15) l15 k15)
  have f16 := f15.trans (Fr.of_ext (T := FL K) (S := []) e15 fun _ => ht16)
  refine ⟨ht16, fun g16 c16 H16_ n16 e16 ht17 l16 k16 => ?_⟩
  have a17 := (a16.snoc (da := da0) (ds := ds0) (E := lamE) e16 (f := g16) (c' := c16) l16 k16)
  have f17 := f16.trans (Fr.of_ext (T := FL K) (S := []) e16 fun _ => ht17)
  refine ⟨by walk_at "few", fun D nD => ?_⟩
  refine nx_ap ?_
  have hD : upd H16_ D (.lst [.ref g0, .ref g1, .ref g2, .ref g3, .ref g4, .ref g5, .ref g6, .ref g7, .ref g8, .ref g9, .ref g10, .ref g11, .ref g12, .ref g13, .ref g14, .ref g15, .ref g16]) D = some (.lst [.ref g0, .ref g1, .ref g2, .ref g3, .ref g4, .ref g5, .ref g6, .ref g7, .ref g8, .ref g9, .ref g10, .ref g11, .ref g12, .ref g13, .ref g14, .ref g15, .ref g16]) := upd_same
  have fD : Fr (FL K) [] H1 (upd H16_ D (.lst [.ref g0, .ref g1, .ref g2, .ref g3, .ref g4, .ref g5, .ref g6, .ref g7, .ref g8, .ref g9, .ref g10, .ref g11, .ref g12, .ref g13, .ref g14, .ref g15, .ref g16])) := f17.trans (Fr.new nD)
  have aD := a17.ext (H1 := upd H16_ D (.lst [.ref g0, .ref g1, .ref g2, .ref g3, .ref g4, .ref g5, .ref g6, .ref g7, .ref g8, .ref g9, .ref g10, .ref g11, .ref g12, .ref g13, .ref g14, .ref g15, .ref g16])) (fun b o h _ => (upd_ne (ne_of_none h nD)).trans h)
  have haD := fD.i ha (by simp)
  clear a17 f17
  generalize upd H16_ D (.lst [.ref g0, .ref g1, .ref g2, .ref g3, .ref g4, .ref g5, .ref g6, .ref g7, .ref g8, .ref g9, .ref g10, .ref g11, .ref g12, .ref g13, .ref g14, .ref g15, .ref g16]) = Hd at *
  refine ⟨_, rfl, _, rfl, ⟨_, SqL.of hD⟩, fun D2 nD2 => ?_⟩
  refine lc_list (fun i H' => Fr (FL K) [] Hd H' ∧ H' D2 = some (.lst [])) ⟨Fr.new nD2, upd_same⟩ (fun i H' _ h => SqL.of (h.1.l hD (by simp))) ?_ ?_
  · rintro i y H' hy ⟨f, hD2⟩
    obtain ⟨g, hg, rfl⟩ := map_get (f := V.ref) (l := [g0, g1, g2, g3, g4, g5, g6, g7, g8, g9, g10, g11, g12, g13, g14, g15, g16]) hy
    have hi : i < 17 := (List.getElem?_eq_some_iff.mp hg).1
    obtain ⟨c', hl, hc⟩ := aD i g hg
    refine ⟨rfl, ?_⟩
    refine ⟨_, rfl, ⟨i, hi⟩, g, c', rfl, f.keep g _ hl (fun ps => lamO_ne ps) (by simp), f.keep c' _ hc (fun ps z => by unfold CodeO at z; cases z) (by simp), x, dx, rfl, f.i haD (by simp), fun H3 f3 => ⟨true, T.x_ReachError_ReachError, fun _ => ⟨rfl, _, rfl, ite_no (ne_same _) ⟨f.trans f3, f3.l hD2 (by simp)⟩⟩, fun z => by cases z⟩⟩
  rintro H2 ⟨f2, hD2⟩
  have ha2 := f2.i haD (by simp)
  refine ⟨by walk_at "few", fun p np => ⟨.list [], .list [], .lst (SqL.of ((upd_ne (ne_of_none hD2 np)).trans hD2)) .nil, .lst (SqL.of upd_same) .nil, rfl, rfl, _, rfl, ite_no (not_eqv rfl) ?_⟩⟩
  have f3 := f2.trans (Fr.new np (o := .lst []))
  have ha3 := (upd_ne (o := .lst []) (ne_of_none ha2 np)).trans ha2
  generalize upd H2 p (.lst []) = H3 at *
  refine ⟨rfl, _, rfl, ite_no (ne_same _) ?_⟩
  refine ⟨_, rfl, _, _, _, _, _, rfl, ha3, T.k_Reach, T.n_Reach_name, lk_Reach_name _, _, rfl, _, _, _, _, _, rfl, ha3, T.k_Reach, T.n_Reach_minutes, lk_Reach_minutes _, by walk_at "few", fun pA nA => ⟨by walk_at "few", fun pB nB => ⟨.tuple [.str "a", .int 3], .tuple [.str "a", .int 3], .tup (SqT.of ((upd_ne (ne_of_none upd_same nB)).trans upd_same)) (.cons (.str _) (.cons (.int _) .nil)), .tup (SqT.of upd_same) (.cons (.str _) (.cons (.int _) .nil)), by decide +kernel, by decide +kernel, _, rfl, ite_no (not_eqv (by decide +kernel)) ?_⟩⟩⟩
  have f5 : Fr (FL K) [] H (upd (upd H3 pA (.tup [.str "a", .int 3])) pB (.tup [.str "a", .int 3])) := fm.trans (fD.trans (f3.trans ((Fr.new nA).trans (Fr.new nB))))
  have ha5 : ReachAt K (upd (upd H3 pA (.tup [.str "a", .int 3])) pB (.tup [.str "a", .int 3])) x dx r0 := ((Fr.new nA).trans (Fr.new nB) : Fr (FL K) [] H3 _).i ha3 (by simp)
  refine nx_ap2 (upd (upd H3 pA (.tup [.str "a", .int 3])) pB (.tup [.str "a", .int 3])) rfl ?_
  clear nA nB
  generalize upd (upd H3 pA (.tup [.str "a", .int 3])) pB (.tup [.str "a", .int 3]) = H5 at *
  refine ⟨_, rfl, _, _, _, rfl, ha5, nm_Reach_give _, _, _, rfl, x, dx, r0, 6, rfl, rfl, ha5, fun z => absurd z (by decide), fun _ => ⟨rfl, _, rfl, ite_yes (by decide +kernel) ?_⟩⟩
  refine ⟨_, rfl, _, _, _, rfl, upd_same, nm_Reach_hour _, _, _, rfl, x, dx, giveS r0 6, 0, rfl, rfl, upd_same, by decide +kernel, fun p1 np1 => ?_⟩
  refine ⟨by walk_at "few", fun p2 np2 => ⟨_, _, .tup (SqT.of ((upd_ne (ne_of_none upd_same np2)).trans upd_same)) (.cons (.int _) (.cons (.int _) .nil)), .tup (SqT.of upd_same) (.cons (.int _) (.cons (.int _) .nil)), by decide +kernel, by decide +kernel, _, rfl, ite_yes (by decide +kernel) ?_⟩⟩
  obtain ⟨r6, e6⟩ : ∃ r6, r6 = giveS (dryS (giveS r0 6)) ((giveS r0 6).comes + 0) := ⟨_, rfl⟩
  have g6 : Fr (FL K) [x] H5 (upd (upd (upd (upd H5 x (RchO K dx (giveS r0 6))) x (RchO K dx (giveS (dryS (giveS r0 6)) ((giveS r0 6).comes + 0)))) p1 (.tup [.int (overS (dryS (giveS r0 6)) ((giveS r0 6).comes + 0)), .int (leakS (giveS r0 6))])) p2 (.tup [.int 0, .int 1])) :=
    (Fr.upd ha5 rfl (List.mem_singleton.mpr rfl)).trans ((Fr.upd upd_same rfl (List.mem_singleton.mpr rfl)).trans ((Fr.new np1).trans (Fr.new np2)))
  have f7 := f5.transW g6 fun c hc => .inr (by rw [List.mem_singleton.mp hc]; exact Nx)
  have ha7 : ReachAt K (upd (upd (upd (upd H5 x (RchO K dx (giveS r0 6))) x (RchO K dx (giveS (dryS (giveS r0 6)) ((giveS r0 6).comes + 0)))) p1 (.tup [.int (overS (dryS (giveS r0 6)) ((giveS r0 6).comes + 0)), .int (leakS (giveS r0 6))])) p2 (.tup [.int 0, .int 1])) x dx (giveS (dryS (giveS r0 6)) ((giveS r0 6).comes + 0)) :=
    ((Fr.new np1).trans (Fr.new np2) : Fr (FL K) [] _ _).i upd_same (by simp)
  refine ⟨_, rfl, _, _, _, _, _, rfl, ha7, T.k_Reach, T.n_Reach_water, lk_Reach_water _, rfl, _, rfl, ite_yes (by decide +kernel) ?_⟩
  intro x2 dx2 nx2 ndx2 hne2
  refine ⟨_, _, _, _, _, _, _, _, rfl, x2, dx2, r0, rfl, upd_same, rfl, rfl, rfl, rfl, rfl, rfl, rfl, fun z => absurd z (by decide), fun _ => ⟨rfl, ?_⟩⟩
  rw [upd_upd]
  have f8 := f7.trans (Fr.make nx2 ndx2 hne2 (o := RchO K dx2 r0))
  refine ⟨by walk_at "few", fun b nb x3 dx3 nx3 ndx3 hne3 => ⟨_, _, rfl, x3, dx3, b, [(x2, dx2)], [r0], rfl, upd_same, rfl, lad_b nb nx3 ndx3 hne3, lad_rows nb nx3 ndx3 hne3 (rows_1 upd_same), by walk_at "few", fun z => absurd z (by decide +kernel), fun _ H9 t f9 hl => ⟨rfl, _, _, _, rfl, hl.o, nm_Ladder_hours_until_short _, _, _, _, rfl, ⟨x3, dx3, t, [(x2, dx2)]⟩, ⟨[r0], 0, 0, 0⟩, 0, 3, rfl, rfl, rfl, hl, gd0, by decide +kernel, fun z => absurd z (by decide), fun _ H10 d f10 hd => ?_⟩⟩⟩
  have f11 := (f8.trans (lad_fx nb nx3 ndx3 hne3 f9)).trans f10
  have ed := DueS_one hd due0
  subst ed
  clear f9 hl f10 f8 nb nx3 ndx3 nx2 ndx2
  refine ⟨rfl, _, rfl, ite_yes rfl ?_⟩
  intro x2 dx2 nx2 ndx2 hne2
  refine ⟨_, _, _, _, _, _, _, _, rfl, x2, dx2, r1, rfl, upd_same, rfl, rfl, rfl, rfl, rfl, rfl, rfl, fun z => absurd z (by decide), fun _ => ⟨rfl, ?_⟩⟩
  rw [upd_upd]
  have f8 := f11.trans (Fr.make nx2 ndx2 hne2 (o := RchO K dx2 r1))
  refine ⟨by walk_at "few", fun b nb x3 dx3 nx3 ndx3 hne3 => ⟨_, _, rfl, x3, dx3, b, [(x2, dx2)], [r1], rfl, upd_same, rfl, lad_b nb nx3 ndx3 hne3, lad_rows nb nx3 ndx3 hne3 (rows_1 upd_same), by walk_at "few", fun z => absurd z (by decide +kernel), fun _ H9 t f9 hl => ⟨rfl, _, _, _, rfl, hl.o, nm_Ladder_hours_until_short _, _, _, _, rfl, ⟨x3, dx3, t, [(x2, dx2)]⟩, ⟨[r1], 0, 0, 0⟩, 0, 2, rfl, rfl, rfl, hl, gd1, by decide +kernel, fun z => absurd z (by decide), fun _ H12 d f12 hd => ?_⟩⟩⟩
  have f13 := (f8.trans (lad_fx nb nx3 ndx3 hne3 f9)).trans f12
  have ed := DueS_one hd due1
  subst ed
  exact ⟨rfl, k _ f13⟩
end
end K1
namespace K1
open PySem PySem.Spec PyProof.Rows L2 Cn LamX
local macro_rules | `(tactic| walk_at "few") => `(tactic| exact Nat.le_of_ble_eq_true rfl)
local macro_rules | `(tactic| walk_at "ne") => `(tactic| first | assumption | (apply Ne.symm; assumption) | exact ne_of_none (by assumption) (by assumption) | exact (ne_of_none (by assumption) (by assumption)).symm)
local macro_rules | `(tactic| walk_at "hf") => `(tactic| first | assumption | exact upd_same | (refine Eq.trans (upd_ne (by walk_at "ne")) ?_; walk_at "hf"))
local macro_rules | `(tactic| walk_at "bk") => `(tactic| first | (dsimp only [blk_K, blk_w, blk_prog]; done) | exact rfl | (dsimp only [blk_K, blk_w, blk_prog]; exact rfl))
local macro_rules | `(tactic| walk_at "ht") => `(tactic| exact SqT.of (by walk_at "hf"))
local macro_rules | `(tactic| walk_at "at") => `(tactic| first | exact atI_nat (by assumption) | rfl)
local macro_rules | `(tactic| walk_at "nz") => `(tactic| first | omega | exact ⟨by omega, by omega⟩)
local macro_rules | `(tactic| walk_at "ix") => `(tactic| first | assumption | rfl)
local macro_rules | `(tactic| walk_at "sq") => `(tactic| first | exact .inl (SqL.of (by walk_at "hf")) | exact .inr (SqT.of (by walk_at "hf")))
local macro_rules | `(tactic| walk_at "dg") => `(tactic| first | exact own_rows (by assumption) | exact own_sp (by assumption) | exact own_lk (by assumption) | exact own_cm (by assumption))
local macro_rules | `(tactic| walk_at "dp") => `(tactic| first | exact own_psp (by assumption) | exact own_plk (by assumption) | exact own_pcm (by assumption))
theorem RowLs.snoc {H H' : Hp} {as : List Addr} {rs : List RowS} {l : Addr} {r : RowS} (h : RowLs H as rs) (k : ∀ a ∈ as, ∀ r, H a = some (.lst (rowV r)) → H' a = some (.lst (rowV r))) (hl : H' l = some (.lst (rowV r))) : RowLs H' (as ++ [l]) (rs ++ [r]) := by
  refine ⟨by rw [List.length_append, List.length_append, h.1] <;> rfl, fun i q r2 a b => ?_⟩
  by_cases e : i < as.length
  · rw [List.getElem?_append_left e] at a
    rw [List.getElem?_append_left (h.1 ▸ e)] at b
    exact k q (List.mem_of_getElem? a) r2 (h.2 i q r2 a b)
  · rw [List.getElem?_append_right (Nat.le_of_not_lt e)] at a
    rw [List.getElem?_append_right (h.1 ▸ Nat.le_of_not_lt e)] at b
    have e0 : i - as.length = 0 := by
      obtain ⟨z, _⟩ := List.getElem?_eq_some_iff.mp a
      have z' : i - as.length < 1 := z
      omega
    rw [e0] at a
    rw [← h.1, e0] at b
    cases a
    cases b
    exact hl
theorem merge_own {b : Addr} {L : LadS} (h1 : L.sp = 0) (h2 : L.lk = 0) (h3 : L.cm = 0) : mergeK [] [((.inr "rows" : Key), V.ref b), (.inr "spilled", .int 0), (.inr "leaked", .int 0), (.inr "came", .int 0)] = ownD b L := by
  obtain ⟨rs, lk, sp, cm⟩ := L
  cases h1
  cases h2
  cases h3
  kernel_rfl
theorem range_w {rs : List RowS} : (List.range rs.length).map (fun i => V.int (((rs[i]?).map RowS.w).getD 0)) = (rs.map RowS.w).map V.int := by
  apply List.ext_getElem?
  intro i
  rw [List.getElem?_map, List.getElem?_map, List.getElem?_map]
  by_cases h : i < rs.length
  · rw [List.getElem?_range h, List.getElem?_eq_getElem h]
    show some (V.int ((Option.map RowS.w rs[i]?).getD 0)) = _
    rw [List.getElem?_eq_getElem h] <;> rfl
  · rw [List.getElem?_eq_none (by rw [List.length_range]; omega), List.getElem?_eq_none (by omega)] <;> rfl
theorem sum_w {rs : List RowS} : (rs.map RowS.w).sum = sumW rs := by
  induction rs with
  | nil => rfl
  | cons r t ih =>
    rw [List.map_cons, List.sum_cons, ih] <;> rfl
/-- what stands at each turn of the law's hours -/
def JL (K : PySem.W.Frag) (a l pd D : Addr) (n : Nat) (pL : LadP) (pO : OwnP) (F : Int) (σ : L2.St) (H : Hp) : Prop := ∃ (L : LadS) (tk gv : Int) (x3 x6 x10 x11 x12 x13 x14 x15 x16 x19 : Option V),
  σ = [some (.ref a), some (.ref pd), some (.ref D), x3, some (.ref pL.a), some (.ref pO.o), x6, some (.int tk), some (.int F), some (.int gv), x10, x11, x12, x13, x14, x15, x16, none, none, x19] ∧ St1 K H l pd D n pL pO L L ∧ F + gv = qL L + tk
/-- what is known of the due hour behind i turns -/
def DuI (L : LadS) (m : Nat) (n : Int) (i : Nat) : Option Nat → Prop
  | some h => h < i ∧ shortB L m n h = true ∧ ∀ j, j < h → shortB L m n j = false
  | none => ∀ j, j < i → shortB L m n j = false
theorem DuI.due {L : LadS} {m : Nat} {n : Int} {d : Option Nat} (h : DuI L m n (Int.toNat 1001) d) : DueS L m n d := by
  cases d with
  | none => exact h
  | some a => exact h
theorem hoursN_map {α : Type} {f : RowS → α} (hf : ∀ (r : RowS) (v : Int), f { r with w := v } = f r) {L : LadS} : ∀ n, (hoursN L n).rs.map f = L.rs.map f
  | 0 => rfl
  | n + 1 => (hourS_map hf).trans (hoursN_map hf n)
def spLaw (K : PySem.W.Frag) : Sp := Sp1 fun x H Q _ => ∃ (a : Addr) (ns : List Int), x = .ref a ∧ SqL K H a (ns.map V.int) ∧ Tabs (FL K) H ∧ ∀ H', Q (.bl true) H'
section
variable {P : Program} {w : World} {K : PySem.W.Frag} {mg : Str → Option Value} {base : Heap}
theorem ok_law (T : Txt K mg base) : ∀ fd, FunD K d_law.name d_law.qual d_law.params d_law.body d_law.scope (d_law.dvs K) (d_law.kws K) (He.fAd K d_law.at_) fd → FnOk P w K mg base (L2.CX P w) 12 (He.fAd K d_law.at_) fd ["script"] (spLaw K) := by
  refine mk_fnT rfl sc_law len1 (fun A outer s H vs Q E hr h => ?_)
  have nd := sc_law.nd
  obtain ⟨x, rfl, a, ns, rfl, h1, ht, k⟩ := h
  refine ⟨_, (pss_cons (ps_for owns rfl (pi_list (pe_fn (ok_law_rounds T) hr (by decide) lets T.g_law_rounds (pa_cons (pv 0) (pa_cons pe_int pa_nil)))) (pg_name (i := 1) nd rfl (.inr rfl))
        (pss_cons (ps_setLc (i := 2) (own := [("k", 3)]) (by rfl) nd rfl rfl (sw_true rfl rfl rfl (by decide +kernel)) (pi_range1 (by rfl) T.f_range (pa_cons (pe_op op_add pe_int (pe_fn (ok_law_roll T) hr (by decide) lets T.g_law_roll (pa_cons (pv 1) (pa_cons pe_int pa_nil)))) pa_nil)) (blkOk_by (own := [("k", 3)]) (N := ["script", "dice", "rows", "k", "ladder", "own", "row", "taken", "first", "given", "step", "sort", "place", "amount", "good", "free", "reach", "copy", "due", "hours"]) (sc := defScope s_law) (by decide +kernel)) (fun _ _ _ _ _ => PG.at_ (pg_name (i := 3) nd rfl (.inl rfl)) (by walk_at "bk")) (fun _ _ _ _ _ => PTs.at_ (pts_nil) (by walk_at "bk")) (fun _ _ _ _ _ => PE.at_ (pe_fn (ok_law_reach T) hr (by decide) passL T.g_law_reach (pa_cons (pv 1) pa_nil)) (by walk_at "bk")))
        (pss_cons (ps_asg (pe_tup (pa_cons (pe_mk T.m_Ladder (ok_Ladder_init T) hr (by decide) lets T.g_Ladder (pa_cons (pe_fn (ok_law_made T) hr (by decide) lets T.g_law_made (pa_cons (pv 2) pa_nil)) pa_nil)) (pa_cons (pe_disp (pps_cons pe_str (pe_lc (own := [("row", 6)]) (by rfl) nd (pi_list (pv 2)) (blkOk_by (own := [("row", 6)]) (N := ["script", "dice", "rows", "k", "ladder", "own", "row", "taken", "first", "given", "step", "sort", "place", "amount", "good", "free", "reach", "copy", "due", "hours"]) (sc := defScope s_law) (by decide +kernel)) (fun _ _ _ _ _ => PG.at_ (pg_name (i := 6) nd rfl (.inl rfl)) (by walk_at "bk")) (fun _ _ _ _ _ => PTs.at_ (pts_nil) (by walk_at "bk")) (fun _ _ _ _ _ => PE.at_ (pe_callTy call_list_of (by rfl) T.f_list (by decide +kernel) (pa_cons (pv 6) pa_nil)) (by walk_at "bk"))) (pps_cons pe_str pe_int (pps_cons pe_str pe_int (pps_cons pe_str pe_int pps_nil)))) (by rfl) (by rfl) (fun z => by cases z) (by decide)) pa_nil))) (pg_tup (n := 2) rfl (pgs_cons (pg_name (i := 4) nd rfl (.inr rfl)) (pgs_cons (pg_name (i := 5) nd rfl (.inl rfl)) pgs_nil))))
        (pss_cons (ps_par3 (i := 7) (j := 8) (l := 9) rfl nd rfl rfl rfl (by decide) (by decide) (by decide) rfl rfl rfl (pa_cons pe_int (pa_cons (pe_callB (cr_sum rfl) (by rfl) T.f_sum (by decide +kernel) (pa_cons (pe_lc (own := [("row", 6)]) (by rfl) nd (pi_list (pv 2)) (blkOk_by (own := [("row", 6)]) (N := ["script", "dice", "rows", "k", "ladder", "own", "row", "taken", "first", "given", "step", "sort", "place", "amount", "good", "free", "reach", "copy", "due", "hours"]) (sc := defScope s_law) (by decide +kernel)) (fun _ _ _ _ _ => PG.at_ (pg_name (i := 6) nd rfl (.inl rfl)) (by walk_at "bk")) (fun _ _ _ _ _ => PTs.at_ (pts_nil) (by walk_at "bk")) (fun _ _ _ _ _ => PE.at_ (pe_ix ix_list (pv 6) pe_int (fun _ _ => rfl)) (by walk_at "bk"))) pa_nil)) (pa_cons pe_int pa_nil))) (by rfl))
        (pss_cons (ps_for owns rfl (pi_range1 (by rfl) T.f_range (pa_cons (pe_fn (ok_law_roll T) hr (by decide) lets T.g_law_roll (pa_cons (pv 1) (pa_cons pe_int pa_nil))) pa_nil)) (pg_name (i := 10) nd rfl (.inl rfl))
          (pss_cons (ps_asg (pe_tup (pa_cons (pe_fn (ok_law_roll T) hr (by decide) lets T.g_law_roll (pa_cons (pv 1) (pa_cons pe_int pa_nil))) (pa_cons (pe_fn (ok_law_roll T) hr (by decide) lets T.g_law_roll (pa_cons (pv 1) (pa_cons (pe_op op_add (pe_callB call_len_seq (by rfl) T.f_len (by decide +kernel) (pa_cons (pv 2) pa_nil)) pe_int) pa_nil))) (pa_cons (pe_fn (ok_law_roll T) hr (by decide) lets T.g_law_roll (pa_cons (pv 1) (pa_cons pe_int pa_nil))) pa_nil)))) (pg_tup (n := 3) rfl (pgs_cons (pg_name (i := 11) nd rfl (.inl rfl)) (pgs_cons (pg_name (i := 12) nd rfl (.inr rfl)) (pgs_cons (pg_name (i := 13) nd rfl (.inr rfl)) pgs_nil)))))
          (pss_cons (ps_if (pt_cmpR op_eq (pv 11) pe_int (nomark _))
            (pss_cons (ps_expr (pe_fn (ok_law_hour T) hr (by decide) lets T.g_law_hour (pa_cons (pv 5) pa_nil)))
            (pss_one (ps_expr (pe_mt0 (pv 4) T.k_Ladder T.me_Ladder_hour (ok_Ladder_hour T) hr (by decide) lets))))
            (pss_one (ps_if (pt_cmpR op_eq (pv 11) pe_int (nomark _))
              (pss_cons (ps_set (i := 14) nd rfl (Or.inl rfl) (pe_cmpR op_lt (pv 12) (pe_callB call_len_seq (by rfl) T.f_len (by decide +kernel) (pa_cons (pv 2) pa_nil)) (nomark _)))
              (pss_cons (ps_if (pt_cmpR op_eq (pe_cmpR op_eq (pe_toldL (k := 2) T.d_law_told rfl T.g_law_told rfl rfl (fun _ _ _ _ _ _ us hl => match us, hl with | [_], _ => rfl) sc_law_told rfl (fun _ => rfl) (.inl rfl) rfl rfl T.g_ReachError rfl (T.tb _ tm_law) rfl tl_law (tab_uniq T.nt tl_law) hr (by decide) (by rfl) rfl (fun _ _ _ _ _ => rfl) (fun A outer s H E f c' hr => pe_mt (pv 4) T.k_Ladder T.me_Ladder_give (ok_Ladder_give T) hr (by decide) letsL (pa_cons (pv 12) (pa_cons (pv 13) pa_nil)))) pe_str (nomark _)) (pv 14) (nomark _))
                (pss_one (ps_ret pe_bl))
                pss_nil)
              (pss_one (ps_if (pt_val (pv 14))
                (pss_cons (ps_set (i := 9) nd rfl (Or.inl rfl) (pe_op op_add (pv 9) (pv 13)))
                (pss_one (ps_expr (pe_fn (ok_law_pour T) hr (by decide) lets T.g_law_pour (pa_cons (pv 5) (pa_cons (pv 12) (pa_cons (pv 13) pa_nil)))))))
                pss_nil))))
              (pss_cons (ps_set (i := 6) nd rfl (Or.inl rfl) (pe_ix ix_list (pe_dget (ru1 hr) (pv 5) pe_str (fun _ _ => rfl)) (pe_op op_modN (pv 12) (pe_callB call_len_seq (by rfl) T.f_len (by decide +kernel) (pa_cons (pv 2) pa_nil))) (fun _ _ => rfl)))
              (pss_cons (ps_set (i := 15) nd rfl (Or.inl rfl) (pe_callB (call_max2 rfl) (by rfl) T.f_max (by decide +kernel) (pa_cons pe_int (pa_cons (pe_op op_sub (pe_ix ix_list (pv 6) pe_int (fun _ _ => rfl)) (pe_ix ix_list (pv 6) pe_int (fun _ _ => rfl))) pa_nil))))
              (pss_cons (ps_set (i := 16) nd rfl (Or.inr rfl) (pe_ix ix_tup (pe_fld (pv 4) rfl) (pe_op op_modN (pv 12) (pe_callB call_len_seq (by rfl) T.f_len (by decide +kernel) (pa_cons (pv 2) pa_nil))) (fun _ _ => rfl)))
              (pss_cons (ps_if (PW.pt (pw_or (pt_cmpR op_ne (pe_mt0 (pv 16) T.k_Reach T.me_Reach_free (ok_Reach_free T) hr (by decide) lets) (pv 15) (nomark _)) (pw_or1 (pt_cmpR op_ne (pe_cmpR op_eq (pe_toldL (k := 2) T.d_law_told rfl T.g_law_told rfl rfl (fun _ _ _ _ _ _ us hl => match us, hl with | [_], _ => rfl) sc_law_told rfl (fun _ => rfl) (.inl rfl) rfl rfl T.g_ReachError rfl (T.tb _ tm_law) rfl tl_law (tab_uniq T.nt tl_law) hr (by decide) (by rfl) rfl (fun _ _ _ _ _ => rfl) (fun A outer s H E f c' hr => pe_mt (pv 16) T.k_Reach T.me_Reach_take (ok_Reach_take T) hr (by decide) letsL (pa_cons (pv 13) pa_nil))) pe_str (nomark _)) (pe_cmpR op_gt (pv 13) (pv 15) (nomark _)) (nomark _)))))
                (pss_one (ps_ret pe_bl))
                pss_nil)
              (pss_one (ps_if (pt_cmpR op_le (pv 13) (pv 15) (nomark _))
                (pss_one (ps_asg (pe_tup (pa_cons (pe_op op_sub (pe_ix ix_list (pv 6) pe_int (fun _ _ => rfl)) (pv 13)) (pa_cons (pe_op op_add (pv 7) (pv 13)) pa_nil))) (pg_tup (n := 2) rfl (pgs_cons (pg_sub (pv 6) pe_int set_list) (pgs_cons (pg_name (i := 7) nd rfl (.inl rfl)) pgs_nil)))))
                pss_nil)))))))))
          (pss_cons (ps_if (PW.pt (pw_or (pt_cmpR (op_neD hr.units) (pe_lc (own := [("reach", 16)]) (by rfl) nd (pi_tup (pe_fld (pv 4) rfl)) (blkOk_by (own := [("reach", 16)]) (N := ["script", "dice", "rows", "k", "ladder", "own", "row", "taken", "first", "given", "step", "sort", "place", "amount", "good", "free", "reach", "copy", "due", "hours"]) (sc := defScope s_law) (by decide +kernel)) (fun _ _ _ _ _ => PG.at_ (pg_name (i := 16) nd rfl (.inl rfl)) (by walk_at "bk")) (fun _ _ _ _ _ => PTs.at_ (pts_nil) (by walk_at "bk")) (fun _ _ _ _ _ => PE.at_ (pe_fld (pv 16) rfl) (by walk_at "bk"))) (pe_lc (own := [("row", 6)]) (by rfl) nd (pi_list (pe_dget (ru1 hr) (pv 5) pe_str (fun _ _ => rfl))) (blkOk_by (own := [("row", 6)]) (N := ["script", "dice", "rows", "k", "ladder", "own", "row", "taken", "first", "given", "step", "sort", "place", "amount", "good", "free", "reach", "copy", "due", "hours"]) (sc := defScope s_law) (by decide +kernel)) (fun _ _ _ _ _ => PG.at_ (pg_name (i := 6) nd rfl (.inl rfl)) (by walk_at "bk")) (fun _ _ _ _ _ => PTs.at_ (pts_nil) (by walk_at "bk")) (fun _ _ _ _ _ => PE.at_ (pe_ix ix_list (pv 6) pe_int (fun _ _ => rfl)) (by walk_at "bk"))) (nomark _)) (pw_or1 (pt_cmpR (op_neD hr.units) (pe_tup (pa_cons (pe_fld (pv 4) rfl) (pa_cons (pe_fld (pv 4) rfl) (pa_cons (pe_fld (pv 4) rfl) pa_nil)))) (pe_tup (pa_cons (pe_dget (ru1 hr) (pv 5) pe_str (fun _ _ => rfl)) (pa_cons (pe_dget (ru1 hr) (pv 5) pe_str (fun _ _ => rfl)) (pa_cons (pe_dget (ru1 hr) (pv 5) pe_str (fun _ _ => rfl)) pa_nil)))) (nomark _)))))
            (pss_one (ps_ret pe_bl))
            pss_nil)
          (pss_one (ps_if (pt_cmpR op_ne (pe_op op_add (pe_op op_add (pv 8) (pe_dget (ru1 hr) (pv 5) pe_str (fun _ _ => rfl))) (pv 9)) (pe_op op_add (pe_op op_add (pe_op op_add (pe_mt0 (pv 4) T.k_Ladder T.me_Ladder_whole (ok_Ladder_whole T) hr (by decide) lets) (pe_fld (pv 4) rfl)) (pe_fld (pv 4) rfl)) (pv 7)) (nomark _))
            (pss_one (ps_ret pe_bl))
            pss_nil))))))
        (pss_cons (ps_asg (pe_tup (pa_cons (pe_fn (ok_law_roll T) hr (by decide) lets T.g_law_roll (pa_cons (pv 1) (pa_cons (pe_callB call_len_seq (by rfl) T.f_len (by decide +kernel) (pa_cons (pv 2) pa_nil)) pa_nil))) (pa_cons (pe_fn (ok_law_roll T) hr (by decide) lets T.g_law_roll (pa_cons (pv 1) (pa_cons pe_int pa_nil))) pa_nil))) (pg_tup (n := 2) rfl (pgs_cons (pg_name (i := 12) nd rfl (.inr rfl)) (pgs_cons (pg_name (i := 13) nd rfl (.inr rfl)) pgs_nil))))
        (pss_cons (ps_par (i := 17) (j := 18) rfl nd rfl rfl (by decide) rfl rfl (pa_cons (pe_disp (pps_cons pe_str (pe_lc (own := [("row", 6)]) (by rfl) nd (pi_list (pe_dget (ru1 hr) (pv 5) pe_str (fun _ _ => rfl))) (blkOk_by (own := [("row", 6)]) (N := ["script", "dice", "rows", "k", "ladder", "own", "row", "taken", "first", "given", "step", "sort", "place", "amount", "good", "free", "reach", "copy", "due", "hours"]) (sc := defScope s_law) (by decide +kernel)) (fun _ _ _ _ _ => PG.at_ (pg_name (i := 6) nd rfl (.inl rfl)) (by walk_at "bk")) (fun _ _ _ _ _ => PTs.at_ (pts_nil) (by walk_at "bk")) (fun _ _ _ _ _ => PE.at_ (pe_callTy call_list_of (by rfl) T.f_list (by decide +kernel) (pa_cons (pv 6) pa_nil)) (by walk_at "bk"))) (pps_cons pe_str pe_int (pps_cons pe_str pe_int (pps_cons pe_str pe_int pps_nil)))) (by rfl) (by rfl) (fun z => by cases z) (by decide)) (pa_cons pe_non pa_nil)) (by rfl))
        (pss_cons (ps_for owns rfl (pi_range1 (by rfl) T.f_range (pa_cons pe_int pa_nil)) (pg_name (i := 19) nd rfl (.inl rfl))
          (pss_cons (ps_if (PW.pt (pw_and (pt_cmpR op_isN (pv 18) pe_non (nomark _)) (pw_and1 (pt_cmpR op_lt (pe_op op_sub (pe_ix ix_list (pe_ix ix_list (pe_dget (ru1 hr) (pv 17) pe_str (fun _ _ => rfl)) (pv 12) (fun _ _ => rfl)) pe_int (fun _ _ => rfl)) (pe_ix ix_list (pe_ix ix_list (pe_dget (ru1 hr) (pv 17) pe_str (fun _ _ => rfl)) (pv 12) (fun _ _ => rfl)) pe_int (fun _ _ => rfl))) (pv 13) (nomark _)))))
            (pss_one (ps_set (i := 18) nd rfl (Or.inl rfl) (pv 19)))
            pss_nil)
          (pss_one (ps_if (pt_cmpR op_isN (pv 18) pe_non (nomark _))
            (pss_one (ps_expr (pe_fn (ok_law_hour T) hr (by decide) lets T.g_law_hour (pa_cons (pv 17) pa_nil))))
            pss_nil))))
        (pss_one (ps_if (PW.pt (pw_or (pt_cmpR op_ne (pe_mt (pv 4) T.k_Ladder T.me_Ladder_hours_until_short (ok_Ladder_hours_until_short T) hr (by decide) lets (pa_cons (pv 12) (pa_cons (pv 13) pa_nil))) (pv 18) (nomark _)) (pw_or (pt_cmpR (op_neD hr.units) (pe_lc (own := [("reach", 16)]) (by rfl) nd (pi_tup (pe_fld (pv 4) rfl)) (blkOk_by (own := [("reach", 16)]) (N := ["script", "dice", "rows", "k", "ladder", "own", "row", "taken", "first", "given", "step", "sort", "place", "amount", "good", "free", "reach", "copy", "due", "hours"]) (sc := defScope s_law) (by decide +kernel)) (fun _ _ _ _ _ => PG.at_ (pg_name (i := 16) nd rfl (.inl rfl)) (by walk_at "bk")) (fun _ _ _ _ _ => PTs.at_ (pts_nil) (by walk_at "bk")) (fun _ _ _ _ _ => PE.at_ (pe_fld (pv 16) rfl) (by walk_at "bk"))) (pe_lc (own := [("row", 6)]) (by rfl) nd (pi_list (pe_dget (ru1 hr) (pv 5) pe_str (fun _ _ => rfl))) (blkOk_by (own := [("row", 6)]) (N := ["script", "dice", "rows", "k", "ladder", "own", "row", "taken", "first", "given", "step", "sort", "place", "amount", "good", "free", "reach", "copy", "due", "hours"]) (sc := defScope s_law) (by decide +kernel)) (fun _ _ _ _ _ => PG.at_ (pg_name (i := 6) nd rfl (.inl rfl)) (by walk_at "bk")) (fun _ _ _ _ _ => PTs.at_ (pts_nil) (by walk_at "bk")) (fun _ _ _ _ _ => PE.at_ (pe_ix ix_list (pv 6) pe_int (fun _ _ => rfl)) (by walk_at "bk"))) (nomark _)) (pw_or1 (pt_cmpR op_ne (pe_mt (pv 4) T.k_Ladder T.me_Ladder_place_of (ok_Ladder_place_of T) hr (by decide) lets (pa_cons (pe_op op_add_str pe_str (pe_callTy call_str_int (by rfl) T.f_str (by decide +kernel) (pa_cons (pv 12) pa_nil))) pa_nil)) (pv 12) (nomark _))))))
          (pss_one (ps_ret pe_bl))
          pss_nil))))))))))
      (pss_one (ps_ret (pe_fn0 (ok_law_plain T) hr (by decide) lets T.g_law_plain)))), ?_⟩
  refine ⟨_, rfl, ?_⟩
  refine ⟨_, _, rfl, a, ns, rfl, rfl, h1, fun H1 l pd a0 b0' d0 f0 hl hpd => ⟨_, rfl, ⟨_, SqL.of hl⟩, ?_⟩⟩
  refine for_it walk_list (fun i σ H' => (i = 0 ∧ σ = L2.start ["script", "dice", "rows", "k", "ladder", "own", "row", "taken", "first", "given", "step", "sort", "place", "amount", "good", "free", "reach", "copy", "due", "hours"] [.ref a] ∧ H' = H1) ∨ (i = 1 ∧ Tabs (FL K) H' ∧ H' l = some (.lst [.ref pd]))) (.inl ⟨rfl, rfl, rfl⟩) (fun i σ H' _ h => SqL.of (h.elim (fun z => by rw [z.2.2]; exact hl) fun z => z.2.2)) ?_ ?_
  rotate_left
  · rintro σ H2 (⟨z, _⟩ | ⟨_, ht2, _⟩)
    · cases z
    · exact ⟨rfl, ht2, fun H' _ => k H'⟩
  rintro i x σ H2 H3 hi (⟨rfl, rfl, rfl⟩ | ⟨rfl, _⟩) ⟨rfl, hx⟩
  rotate_left
  · cases hx
  cases hx
  have ht1 : Tabs (FL K) H3 := f0.tab ht
  -- the rows are drawn
  refine ⟨_, rfl, ?_⟩
  refine ⟨_, _, rfl, pd, _, _, _, 5, rfl, rfl, hpd, by decide, by decide, fun a1 b1 d1 r1 l1 u1 => ⟨_, _, rfl, rfl, _, rfl, by omega, by omega, fun D nD => ?_⟩⟩
  have f1 : Fr (FL K) [pd] H3 (upd (upd H3 pd (DiceO a1 b1 d1)) D (.lst [])) := (Fr.upd hpd rfl (List.mem_singleton.mpr rfl)).trans (Fr.new nD)
  have npD : pd ≠ D := ne_of_none upd_same nD
  have nlp : l ∉ [pd] := fun z => by
    rw [List.mem_singleton.mp z, hpd] at hl
    cases hl
  have fl1 := f1.l hl nlp
  have nlD : l ≠ D := ne_of_none ((upd_ne (o := DiceO a1 b1 d1) (fun z => nlp (by rw [z]; exact List.mem_singleton.mpr rfl))).trans hl) nD
  refine lc_it walk_range (fun i H' => ∃ as rs, H' D = some (.lst (as.map V.ref)) ∧ RowLs H' as rs ∧ rs.length = i ∧ (∀ r ∈ rs, Gd r ∧ r.least ≤ r.w) ∧ (∃ a b d, H' pd = some (DiceO a b d)) ∧ H' l = some (.lst [.ref pd]) ∧ Tabs (FL K) H') ⟨[], [], upd_same, ⟨rfl, fun _ _ _ z => by simp at z⟩, rfl, fun _ z => by simp at z, ⟨_, _, _, (upd_ne npD).trans upd_same⟩, fl1, f1.tab ht1⟩ (fun _ _ _ _ => trivial) ?_ ?_
  · rintro i x H4 H5 hi ⟨as, rs, hD, hR, hlen, hg, ⟨a2, b2, d2, hp2⟩, hl2, ht2⟩ ⟨rfl, rfl⟩
    refine ⟨rfl, yes_it ?_⟩
    refine ⟨_, rfl, _, rfl, pd, a2, b2, d2, rfl, hp2, fun a3 b3 d3 r l3 gr n3 => ?_⟩
    have f2 : Fr (FL K) [pd] H5 (upd (upd H5 pd (DiceO a3 b3 d3)) l3 (.lst (rowV r))) := (Fr.upd hp2 rfl (List.mem_singleton.mpr rfl)).trans (Fr.new n3)
    have hDp : D ∉ [pd] := fun z => by
      rw [List.mem_singleton.mp z, hp2] at hD
      injection hD with hD
      exact refs_dice hD.symm
    have hD2 := f2.l hD hDp
    have n5 : H5 l3 = none := by
      cases q : H5 l3 with
      | none => rfl
      | some o =>
        by_cases z : l3 = pd
        · rw [z, upd_same] at n3
          cases n3
        · rw [upd_ne z, q] at n3
          cases n3
    have nl3 : l3 ≠ D := (ne_of_none hD n5).symm
    have hsz : as.length = i := hR.1.trans hlen
    refine ⟨_, hD2, ?_, as ++ [l3], rs ++ [r], ?_, ?_, by simp [hlen], ?_, ⟨a3, b3, d3, ?_⟩, ?_, ?_⟩
    · rw [List.length_map, hsz]
      exact Nat.lt_of_lt_of_le hi (by have : (1 + r1).toNat ≤ 5 := by omega
                                      exact Nat.le_trans this (by decide))
    · rw [List.map_append]
      exact upd_same
    · refine RowLs.snoc hR (fun q hq r' hr' => ?_) ?_
      · have hq1 := f2.l hr' (fun z => by
          rw [List.mem_singleton.mp z, hp2] at hr'
          injection hr' with hr'
          exact dice_row hr')
        exact (upd_ne (fun z => by
          rw [z, hD2] at hq1
          injection hq1 with hq1
          exact refs_row hq1)).trans hq1
      · exact (upd_ne nl3).trans upd_same
    · intro r' hr'
      rcases List.mem_append.mp hr' with z | z
      · exact hg r' z
      · rw [List.mem_singleton.mp z]
        exact gr
    · exact (upd_ne npD).trans ((upd_ne (ne_of_none hp2 n5)).trans upd_same)
    · have hl3 := f2.l hl2 (fun z => by
        rw [List.mem_singleton.mp z, hp2] at hl2
        cases hl2)
      exact (upd_ne nlD).trans hl3
    · exact (Fr.upd (S := [D]) hD2 rfl (List.mem_singleton.mpr rfl)).tab (f2.tab ht2)
  rintro H4 ⟨as, rs, hD, hR, hlen, hg, ⟨a2, b2, d2, hp2⟩, hl2, ht2⟩
  refine nx_ap ?_
  have hn5 : rs.length ≤ 5 := by omega
  have hn1 : 1 ≤ rs.length := by omega
  have nmk : Nm ⟨named rs, 0, 0, 0⟩ rs.length := named_nm rs
  have gnd : GdL ⟨named rs, 0, 0, 0⟩ := fun r hr => by
    obtain ⟨i, hi⟩ := List.getElem?_of_mem hr
    have hi2 : i < rs.length := by
      rw [← named_len (rs := rs)]
      exact (List.getElem?_eq_some_iff.mp hi).1
    have e := named_get (rs := rs) (i := i) (List.getElem?_eq_getElem hi2)
    have hi' : (named rs)[i]? = some r := hi
    rw [e] at hi'
    cases hi'
    exact (hg rs[i] (List.getElem_mem hi2)).1
  refine ⟨_, rfl, _, rfl, D, as, rs, rfl, hD, hR, hg, by have := hR.1; omega, fun H5 l2 pl f5 hl5 hRA hw hnl x dx nx ndx hne => ?_⟩
  have fm : Fr (FL K) [] H5 (upd (upd H5 dx (.own x)) x (.ins (He.ga K "Ladder") dx [])) := Fr.make nx ndx hne
  refine ⟨_, _, rfl, x, dx, l2, pl, named rs, rfl, upd_same, rfl, fm.l hl5 (by simp), hRA.mono fun q hq r hr => fm.i hr (by simp), by have := hRA.1; rw [named_len] at this; omega, fun z => absurd z (by rw [nmk.ok hn1 hn5]; decide), fun _ H6 t f6 hlad => ⟨rfl, ?_⟩⟩
  have f6' : Fr (FL K) [] H4 H6 := f5.trans (fm.transN f6 fun b hb => .inr (by rw [List.mem_singleton.mp hb]; exact nx))
  have hD6 : H6 D = some (.lst (as.map V.ref)) := f6'.l hD (by simp)
  have hR6 : ∀ (i : Nat) (c : Addr), as[i]? = some c → H6 c = some (.lst (((rs[i]?).map rowV).getD [])) := fun i c hc => by
    obtain ⟨r, hr, h⟩ := hR.get hc
    rw [hr]
    exact f6'.l h (by simp)
  have hasl := hR.1
  intro po npo
  have hD6' := (upd_ne (o := .dK []) (ne_of_none hD6 npo)).trans hD6
  refine ⟨_, rfl, _, rfl, ⟨_, SqL.of hD6'⟩, fun D2 nD2 => ?_⟩
  refine lcCopy (T := FL K) (rv := fun i => ((rs[i]?).map rowV).getD []) (by show 6 < 20; decide) hD6' (fun i c hc => (upd_ne (ne_of_none (hR6 i c hc) npo)).trans (hR6 i c hc)) (Nat.le_trans (by omega : as.length ≤ 5) (by decide)) nD2 (fun H7 as2 hD7 hlen7 hR7 hn7 hw7 f7 => ?_)
  have hpo7 : H7 po = some (.dK []) := f7.d upd_same (by simp)
  refine ⟨hpo7, [(.inr "rows", .ref D2), (.inr "spilled", .int 0), (.inr "leaked", .int 0), (.inr "came", .int 0)], rfl, by walk_at "few", ?_⟩
  rw [merge_own (L := ⟨named rs, 0, 0, 0⟩) rfl rfl rfl]
  refine ⟨by walk_at "few", fun pt npt => ⟨_, _, rfl, SqT.of upd_same, rfl, _, _, rfl, _, _, rfl, rfl, ?_⟩⟩
  have nD2po : D2 ≠ po := fun z => by
    rw [z, hpo7] at hD7
    cases hD7
  have f8 : Fr (FL K) [] H6 (upd (upd H7 po (.dK (ownD D2 ⟨named rs, 0, 0, 0⟩))) pt (.tup [.ref x, .ref po])) :=
    (((Fr.new npo).trans f7).transW (Fr.upd (S := [po]) hpo7 rfl (List.mem_singleton.mpr rfl)) fun c hc => .inr (by rw [List.mem_singleton.mp hc]; exact Nw.none npo)).trans (Fr.new npt)
  have hown : OwnAt (upd (upd H7 po (.dK (ownD D2 ⟨named rs, 0, 0, 0⟩))) pt (.tup [.ref x, .ref po])) ⟨po, D2, as2⟩ ⟨named rs, 0, 0, 0⟩ := by
    refine OwnAt.new (p := ⟨po, D2, as2⟩) ⟨upd_same, (upd_ne nD2po).trans hD7, ⟨?_, fun i c r hc hr => ?_⟩, hn7, ?_⟩ npt
    · rw [named_len, ← hasl]
      exact hlen7
    · have hi : i < rs.length := by
        rw [← named_len (rs := rs)]
        exact (List.getElem?_eq_some_iff.mp hr).1
      have e := named_get (rs := rs) (List.getElem?_eq_getElem hi)
      have hr' : (named rs)[i]? = some r := hr
      rw [e] at hr'
      cases hr'
      have h7 := hR7 i c hc
      rw [List.getElem?_eq_getElem hi] at h7
      exact (upd_ne (fun z => by
        rw [z, hpo7] at h7
        cases h7)).trans h7
    · have : as2.length = as.length := hlen7
      show as2.length ≤ 5
      omega
  have st : St1 K (upd (upd H7 po (.dK (ownD D2 ⟨named rs, 0, 0, 0⟩))) pt (.tup [.ref x, .ref po])) l pd D rs.length ⟨x, dx, t, pl⟩ ⟨po, D2, as2⟩ ⟨named rs, 0, 0, 0⟩ ⟨named rs, 0, 0, 0⟩ :=
    ⟨LadAt.fr hlad f8 (by simp) (by simp) (by simp), hown, gnd, nmk, hn1, hn5, named_len, ⟨a2, b2, d2, f8.l (f6'.l hp2 (by simp)) (by simp)⟩, ⟨as, f8.l hD6 (by simp), hasl⟩, f8.l (f6'.l hl2 (by simp)) (by simp), f8.tab (f6'.tab ht2)⟩
  have hD8 := f8.l hD6 (by simp)
  have hR8 : ∀ (i : Nat) (c : Addr), as[i]? = some c → upd (upd H7 po (.dK (ownD D2 ⟨named rs, 0, 0, 0⟩))) pt (.tup [.ref x, .ref po]) c = some (.lst (((rs[i]?).map rowV).getD [])) := fun i c hc => f8.l (hR6 i c hc) (by simp)
  generalize upd (upd H7 po (.dK (ownD D2 ⟨named rs, 0, 0, 0⟩))) pt (.tup [.ref x, .ref po]) = H8 at *
  refine nx_ap ?_
  obtain ⟨pL, eL⟩ : ∃ pL : LadP, pL = ⟨x, dx, t, pl⟩ := ⟨_, rfl⟩
  obtain ⟨pO, eO⟩ : ∃ pO : OwnP, pO = ⟨po, D2, as2⟩ := ⟨_, rfl⟩
  obtain ⟨L0, e0⟩ : ∃ L0 : LadS, L0 = ⟨named rs, 0, 0, 0⟩ := ⟨_, rfl⟩
  have ex : x = pL.a := by rw [eL]
  have eo : po = pO.o := by rw [eO]
  have eq0 : qL L0 = sumW rs := by
    rw [e0, ← sumW_named]
    show sumW (named rs) + 0 + 0 - 0 = _
    omega
  rw [← eL, ← eO, ← e0] at st
  clear hown hlad f8 f7 f6 fm hw hw7 hR7 hnl hRA hl5
  subst ex eo
  refine seqJ (fun σ H' => σ = [some (.ref a), some (.ref pd), some (.ref D), none, some (.ref pL.a), some (.ref pO.o), none, some (.int 0), some (.int (sumW rs)), some (.int 0), none, none, none, none, none, none, none, none, none, none] ∧ St1 K H' l pd D rs.length pL pO L0 L0) (fun R hRR => ?_) ?_
  · obtain ⟨as', hrw, hal⟩ := st.rows
    have hrw1 : H8 D = some (.lst (as.map V.ref)) := hD8
    refine ⟨_, rfl, _, rfl, ⟨_, SqL.of hrw1⟩, fun D3 nD3 => ?_⟩
    refine lcP walk_list (fun i => .int (((rs[i]?).map RowS.w).getD 0)) (by rw [List.length_map]; exact Nat.le_trans (by omega : as.length ≤ 5) (by decide)) (fun acc => SqL.of ((upd_ne (ne_of_none hrw1 nD3)).trans hrw1)) (fun i y acc hy Q k => ?_) ?_
    · obtain ⟨c, hc, rfl⟩ := map_get hy
      have h8 := hR8 i c hc
      have hi : i < rs.length := by
        rw [← hasl]
        exact (List.getElem?_eq_some_iff.mp hc).1
      rw [List.getElem?_eq_getElem hi] at h8 k
      exact ⟨_, rfl, _, _, _, _, rfl, rfl, SqL.of ((upd_ne (ne_of_none h8 nD3)).trans h8), rfl, k⟩
    · have e : (List.range (as.map V.ref).length).map (fun i => V.int (((rs[i]?).map RowS.w).getD 0)) = (rs.map RowS.w).map V.int := by
        rw [List.length_map, hasl]
        exact range_w
      rw [e]
      refine ⟨D3, rs.map RowS.w, rfl, SqL.of upd_same, _, _, _, rfl, hRR _ _ ⟨?_, st.fr0 (Fr.new nD3)⟩⟩
      rw [sum_w] <;> rfl
  rintro σ H9 ⟨rfl, st9⟩
  clear st hR8 hD8 hR6 hD6 hD6'
  refine seqJ (JL K a l pd D rs.length pL pO (sumW rs)) (fun R hRR => ?_) ?_
  · obtain ⟨a9, b9, d9, hd9⟩ := st9.dice
    refine ⟨_, rfl, _, _, rfl, pd, _, _, _, 31, rfl, rfl, hd9, by decide, by decide, fun a' b' d' r' l' u' => ⟨_, rfl, by omega, by omega, ?_⟩⟩
    refine for_it walk_range (fun i => JL K a l pd D rs.length pL pO (sumW rs)) ⟨L0, 0, 0, none, none, none, none, none, none, none, none, none, none, rfl, st9.roll, by rw [eq0]⟩ (fun _ _ _ _ _ => trivial) ?_ (fun σ H h => hRR σ H h)
    rintro i y σ H10 H11 hi ⟨L, tk, gv, x3, x6, x10, x11, x12, x13, x14, x15, x16, x19, rfl, st, hq⟩ ⟨rfl, rfl⟩
    clear hRR
    refine gname_ap ?_
    refine seqJ (fun σ H' => ∃ sort place amount : Int, (0 ≤ place ∧ place < (rs.length : Int) + 1 ∧ 0 ≤ amount) ∧ σ = [some (.ref a), some (.ref pd), some (.ref D), x3, some (.ref pL.a), some (.ref pO.o), x6, some (.int tk), some (.int (sumW rs)), some (.int gv), some (.int (0 + (i : Int))), some (.int sort), some (.int place), some (.int amount), x14, x15, x16, none, none, x19] ∧ St1 K H' l pd D rs.length pL pO L L) (fun R hR => ?_) ?_
    · obtain ⟨as', hrw, hal⟩ := st.rows
      obtain ⟨a1, b1, d1, hd1⟩ := st.dice
      refine ⟨_, rfl, _, _, rfl, pd, _, _, _, 3, rfl, rfl, hd1, by decide, by decide, fun a2 b2 d2 r2 l2 u2 => ?_⟩
      have st2 := st.roll (a' := a2) (b' := b2) (d' := d2)
      obtain ⟨as2, hrw2, hal2⟩ := st2.rows
      have hm2 : (as2.map V.ref).length = rs.length := by rw [List.length_map]; exact hal2
      refine ⟨_, rfl, _, rfl, _, _, rfl, .inl (SqL.of hrw2), _, _, rfl, rfl, ?_⟩
      refine ⟨_, _, rfl, pd, _, _, _, _, rfl, rfl, upd_same, by omega, by omega, fun a3 b3 d3 r3 l3 u3 => ?_⟩
      have st3 := st2.roll (a' := a3) (b' := b3) (d' := d3)
      refine ⟨_, rfl, _, _, rfl, pd, _, _, _, 60, rfl, rfl, upd_same, by decide, by decide, fun a4 b4 d4 r4 l4 u4 => ?_⟩
      have st4 := st3.roll (a' := a4) (b' := b4) (d' := d4)
      refine ⟨by walk_at "few", fun pT nT => ⟨_, _, rfl, SqT.of upd_same, rfl, _, _, rfl, _, _, rfl, _, _, rfl, rfl, hR _ _ ⟨r2, r3, r4, ⟨l3, by omega, l4⟩, rfl, st4.fr0 (Fr.new nT)⟩⟩⟩
    rintro σ H12 ⟨sort, place, amount, ⟨hp0, hp1, ha0⟩, rfl, st2⟩
    clear st
    refine seqJ (JL K a l pd D rs.length pL pO (sumW rs)) (fun R hR => ?_) ?_
    · (refine ifs_p (test_p (fun _ k => ⟨_, rfl, rfl, k⟩)) (fun hd => ?_) (fun hd => ?_))
      · refine ⟨_, rfl, _, rfl, pO, L, rfl, st2.own, fun H13 f ho => ?_⟩
        have st3 := st2.frO f ho (hourS_len.trans st2.nO)
        refine ⟨_, rfl, _, _, _, rfl, st3.lad.o, nm_Ladder_hour _, _, rfl, pL, L, rfl, st3.lad, st3.gd, fun H14 f2 hl2 => hR _ _ ⟨hourS L, tk, gv, _, _, _, _, _, _, _, _, _, _, rfl, st3.frL f2 hl2 (hourS_gd st3.gd) st3.nm.hour, by rw [hourS_q]; exact hq⟩⟩
      have hlenO := st2.nO
      obtain ⟨as', hrw, hal⟩ := st2.rows
      have hmr : (as'.map V.ref).length = rs.length := by rw [List.length_map]; exact hal
      (refine ifs_p (test_p (fun _ k => ⟨_, rfl, rfl, k⟩)) (fun hd => ?_) (fun hd => ?_))
      · refine ⟨_, rfl, _, rfl, _, _, rfl, .inl (SqL.of hrw), _, _, rfl, rfl, ?_⟩
        rw [hmr]
        refine nx_ap ?_
        refine seqJ (fun σ H' => σ = [some (.ref a), some (.ref pd), some (.ref D), x3, some (.ref pL.a), some (.ref pO.o), x6, some (.int tk), some (.int (sumW rs)), some (.int gv), some (.int (0 + (i : Int))), some (.int sort), some (.int place), some (.int amount), some (.bl (decide (place < (rs.length : Int)))), x15, x16, none, none, x19] ∧ St1 K H' l pd D rs.length pL pO (if place < (rs.length : Int) then giveL place.toNat amount L else L) L) (fun R2 hR2 => ?_) ?_
        · refine ⟨st2.tabs, fun H14 hE hT => ?_⟩
          have st3 := st2.fr0 (Fr.of_ext hE fun _ => hT)
          have hbp : badP L place = !decide (place < (rs.length : Int)) := by
            unfold badP
            rw [st2.lenL, decide_eq_true hp0, Bool.true_and]
          refine ⟨_, rfl, _, _, _, rfl, st3.lad.o, nm_Ladder_give _, _, rfl, _, rfl, _, _, _, rfl, pL, L, place, amount, rfl, rfl, rfl, st3.lad, st3.gd, fun hb => ?_, fun _ hn => absurd ha0 (Int.not_le.mpr hn), fun hb _ H15 f hl15 => ?_⟩
          · rw [hbp] at hb
            have hc : ¬ place < (rs.length : Int) := by simpa using hb
            refine ⟨true, T.x_ReachError_ReachError, fun _ => ⟨rfl, _, rfl, rfl, _, rfl, ite_no (by simp [hc]) (hR2 _ _ ⟨rfl, ?_⟩)⟩, fun z => by cases z⟩
            rw [if_neg hc]
            exact st3
          · rw [hbp] at hb
            have hc : place < (rs.length : Int) := by simpa using hb
            refine ⟨rfl, _, rfl, rfl, _, rfl, ite_no (by simp [hc]) (hR2 _ _ ⟨rfl, ?_⟩)⟩
            rw [if_pos hc]
            exact st3.frL f hl15 (giveL_gd st3.gd ha0) st3.nm.give
        rintro σ H14 ⟨rfl, st3⟩
        refine ⟨_, rfl, _, rfl, ite2 (fun hd => ?_) (fun hd => ?_)⟩
        · have hc : place < (rs.length : Int) := by simpa using hd
          rw [if_pos hc] at st3
          (refine ⟨_, rfl, _, rfl, _, _, rfl, rfl, ?_⟩)
          refine nx_ap ?_
          refine ⟨_, rfl, _, rfl, _, rfl, _, _, _, rfl, pO, L, place.toNat, amount, rfl, by rw [Int.toNat_of_nonneg hp0], rfl, st3.own, by omega, fun H15 f ho => hR _ _ ⟨giveL place.toNat amount L, tk, gv + amount, _, _, _, _, _, _, _, _, _, _, rfl, st3.frO f ho (giveL_len.trans st3.nO), ?_⟩⟩
          rw [giveL_q]
          omega
        · have hc : ¬ place < (rs.length : Int) := by simpa using hd
          rw [if_neg hc] at st3
          exact hR _ _ ⟨L, tk, gv, _, _, _, _, _, _, _, _, _, _, rfl, st3, hq⟩
      · have hn1' := st2.n1
        have hm0 : 0 ≤ place.fmod (rs.length : Int) := Int.fmod_nonneg_of_pos _ (by omega)
        have hm1 : place.fmod (rs.length : Int) < (rs.length : Int) := Int.fmod_lt_of_pos _ (by omega)
        obtain ⟨m, hm⟩ : ∃ m : Nat, place.fmod (rs.length : Int) = (m : Int) := ⟨_, (Int.toNat_of_nonneg hm0).symm⟩
        rw [hm] at hm1
        have hmn : m < rs.length := by omega
        obtain ⟨c, hc⟩ : ∃ c, pO.as[m]? = some c := ⟨_, List.getElem?_eq_getElem (by rw [st2.own.r.1, st2.nO]; exact hmn)⟩
        obtain ⟨r, hr, hrow⟩ := st2.own.r.get hc
        obtain ⟨q, hq2⟩ : ∃ q, pL.pl[m]? = some q := ⟨_, List.getElem?_eq_getElem (by rw [st2.lad.r.1, st2.lenL]; exact hmn)⟩
        have hra : ReachAt K H12 q.1 q.2 r := st2.lad.r.2 m q r hq2 hr
        have hrow1 : H12 c = some (.lst [.int r.w, .int r.least, .int r.most, .int r.comes, .int r.leaks, .int r.minutes]) := hrow
        have at1 : atI (pO.as.map V.ref) (place.fmod (rs.length : Int)) = some (.ref c) := by rw [hm]; exact atI_nat (by rw [List.getElem?_map, hc] <;> rfl)
        have at2 : atI (pL.pl.map fun q => V.ref q.1) (place.fmod (rs.length : Int)) = some (.ref q.1) := by rw [hm]; exact atI_nat (by rw [List.getElem?_map, hq2] <;> rfl)
        refine ⟨_, rfl, _, _, rfl, own_rows st2.own, _, rfl, _, rfl, _, _, rfl, .inl (SqL.of hrw), _, _, rfl, rfl, by rw [hmr]; omega, ?_⟩
        rw [hmr]
        refine ⟨_, _, _, _, rfl, rfl, SqL.of st2.own.b, at1, ?_⟩
        refine nx_ap ?_
        (refine ⟨_, rfl, _, _, _, _, rfl, rfl, SqL.of (by walk_at "hf"), (by walk_at "at"), _, rfl, _, _, _, _, rfl, rfl, SqL.of (by walk_at "hf"), (by walk_at "at"), _, _, rfl, rfl, _, _, rfl, ?_⟩)
        refine nx_ap ?_
        refine ⟨_, rfl, _, _, _, _, _, rfl, st2.lad.o, T.k_Ladder, T.n_Ladder_reaches, lk_Ladder_reaches _, _, rfl, _, rfl, _, _, rfl, .inl (SqL.of hrw), _, _, rfl, rfl, by rw [hmr]; omega, ?_⟩
        rw [hmr]
        refine ⟨_, _, _, _, rfl, rfl, SqT.of st2.lad.t, at2, ?_⟩
        refine nx_ap ?_
        refine seqJ (fun σ H' => σ = [some (.ref a), some (.ref pd), some (.ref D), x3, some (.ref pL.a), some (.ref pO.o), some (.ref c), some (.int tk), some (.int (sumW rs)), some (.int gv), some (.int (0 + (i : Int))), some (.int sort), some (.int place), some (.int amount), x14, some (.int (freeS r)), some (.ref q.1), none, none, x19] ∧ St1 K H' l pd D rs.length pL pO (if amount ≤ freeS r then takeL m amount r L else L) L) (fun R2 hR2 => ?_) ?_
        · refine ⟨_, rfl, _, _, _, rfl, hra, nm_Reach_free _, _, rfl, q.1, q.2, r, rfl, hra, _, rfl, rfl, _, rfl, ite_no (by simp [freeS, max0]) ?_⟩
          refine ⟨st2.tabs, fun H14 hE hT => ?_⟩
          have fE : Fr (FL K) [] H12 H14 := Fr.of_ext hE fun _ => hT
          have st3 := st2.fr0 fE
          have hra3 : ReachAt K H14 q.1 q.2 r := fE.i hra (by simp)
          refine ⟨_, rfl, _, _, _, rfl, hra3, nm_Reach_take _, _, rfl, _, _, rfl, q.1, q.2, r, amount, rfl, rfl, hra3, fun hb => ?_, fun hb => ?_⟩
          · have hc : ¬ amount ≤ freeS r := by
              unfold badT at hb
              rw [decide_eq_true ha0, Bool.true_and] at hb
              simpa using hb
            refine ⟨true, T.x_ReachError_ReachError, fun _ => ⟨rfl, _, rfl, _, rfl, _, _, rfl, rfl, rfl, _, rfl, ite_no (ne_said (Int.not_le.mp hc)) (hR2 _ _ ⟨rfl, ?_⟩)⟩, fun z => by cases z⟩
            rw [if_neg hc]
            exact st3
          · have hc : amount ≤ freeS r := by
              unfold badT at hb
              rw [decide_eq_true ha0, Bool.true_and] at hb
              simpa using hb
            refine ⟨rfl, _, rfl, _, rfl, _, _, rfl, rfl, rfl, _, rfl, ite_no (ne_non hc) (hR2 _ _ ⟨rfl, ?_⟩)⟩
            rw [if_pos hc]
            exact st3.frL (Fr.upd hra3 rfl (foot_ne hq2)) (st3.lad.row hq2) (takeL_gd hr st3.gd ha0 hc) (st3.nm.take hr)
        rintro σ H14 ⟨rfl, st3⟩
        (refine ifs_p (test_p (fun _ k => ⟨_, rfl, _, rfl, _, _, rfl, rfl, k⟩)) (fun hd => ?_) (fun hd => ?_))
        · have hc' : amount ≤ freeS r := by simpa using hd
          rw [if_pos hc'] at st3
          have hrw3 := st3.own.r.2 m c r hc hr
          have hrow3 : H14 c = some (.lst [.int r.w, .int r.least, .int r.most, .int r.comes, .int r.leaks, .int r.minutes]) := hrw3
          refine ⟨_, rfl, _, _, _, _, rfl, rfl, SqL.of hrow3, rfl, _, rfl, _, _, rfl, rfl, _, rfl, _, rfl, _, _, rfl, rfl, by walk_at "few", fun pT nT => ?_⟩
          have st4 := st3.fr0 (Fr.new nT (o := .tup [.int (r.w - amount), .int (tk + amount)]))
          have hrow4 := (upd_ne (o := .tup [.int (r.w - amount), .int (tk + amount)]) (ne_of_none hrow3 nT)).trans hrow3
          refine ⟨_, _, rfl, SqT.of upd_same, rfl, _, _, rfl, _, rfl, _, _, _, _, rfl, rfl, hrow4, rfl, _, _, rfl, rfl, hR _ _ ⟨takeL m amount r L, tk + amount, gv, _, _, _, _, _, _, _, _, _, _, rfl, st4.frO (Fr.upd hrow4 rfl (ofoot_ne hc)) (st4.own.row hc (r' := { r with w := r.w - amount })) ?_, ?_⟩⟩
          · show (L.rs.set m _).length = _
            rw [List.length_set]
            exact st4.nO
          · rw [takeL_q hr]
            omega
        · have hc' : ¬ amount ≤ freeS r := by simpa using hd
          rw [if_neg hc'] at st3
          exact hR _ _ ⟨L, tk, gv, _, _, _, _, _, _, _, _, _, _, rfl, st3, hq⟩
    rintro σ H13 ⟨L2, tk2, gv2, y3, y6, y10, y11, y12, y13, y14, y15, y16, y19, rfl, st3, hq3⟩
    refine seqJ (JL K a l pd D rs.length pL pO (sumW rs)) (fun R hR => ?_) ?_
    · have hlp : (pL.pl.map fun q => V.ref q.1).length = L2.rs.length := by rw [List.length_map]; exact st3.lad.r.1
      have hla : (pO.as.map V.ref).length = L2.rs.length := by rw [List.length_map]; exact st3.own.r.1
      have hl5 : L2.rs.length ≤ sizeLine := Nat.le_trans (by rw [st3.nO]; exact st3.n5) (by decide)
      refine ⟨_, rfl, _, _, _, _, _, rfl, st3.lad.o, T.k_Ladder, T.n_Ladder_reaches, lk_Ladder_reaches _, _, rfl, ⟨_, SqT.of st3.lad.t⟩, fun D1 nD1 => ?_⟩
      refine lcP walk_tup (fun i => .int (((L2.rs[i]?).map RowS.w).getD 0)) (by rw [hlp]; exact hl5) (fun acc => SqT.of ((upd_ne (ne_of_none st3.lad.t nD1)).trans st3.lad.t)) (fun i y acc hy Q k => ?_) ?_
      · obtain ⟨q, hq, rfl⟩ := map_get hy
        obtain ⟨r, hr, hra⟩ := st3.lad.r.get hq
        rw [hr] at k
        exact ⟨_, rfl, _, _, _, _, _, rfl, (upd_ne (ne_of_none hra nD1)).trans hra, T.k_Reach, T.n_Reach_water, lk_Reach_water _, k⟩
      rw [hlp, range_w]
      have st4 := st3.fr0 (Fr.new nD1 (o := .lst ((L2.rs.map RowS.w).map V.int)))
      have hD1 : upd H13 D1 (.lst ((L2.rs.map RowS.w).map V.int)) D1 = some (.lst ((L2.rs.map RowS.w).map V.int)) := upd_same
      generalize upd H13 D1 (.lst ((L2.rs.map RowS.w).map V.int)) = H14 at *
      refine ⟨_, rfl, _, _, rfl, own_rows st4.own, _, rfl, ⟨_, SqL.of st4.own.b⟩, fun D2 nD2 => ?_⟩
      refine lcP walk_list (fun i => .int (((L2.rs[i]?).map RowS.w).getD 0)) (by rw [hla]; exact hl5) (fun acc => SqL.of ((upd_ne (ne_of_none st4.own.b nD2)).trans st4.own.b)) (fun i y acc hy Q k => ?_) ?_
      · obtain ⟨c, hc, rfl⟩ := map_get hy
        obtain ⟨r, hr, hrow⟩ := st4.own.r.get hc
        rw [hr] at k
        exact ⟨_, rfl, _, _, _, _, rfl, rfl, SqL.of ((upd_ne (ne_of_none hrow nD2)).trans hrow), rfl, k⟩
      rw [hla, range_w]
      have st5 := st4.fr0 (Fr.new nD2 (o := .lst ((L2.rs.map RowS.w).map V.int)))
      have hD1' := (upd_ne (o := .lst ((L2.rs.map RowS.w).map V.int)) (ne_of_none hD1 nD2)).trans hD1
      have hD2 : upd H14 D2 (.lst ((L2.rs.map RowS.w).map V.int)) D2 = some (.lst ((L2.rs.map RowS.w).map V.int)) := upd_same
      generalize upd H14 D2 (.lst ((L2.rs.map RowS.w).map V.int)) = H15 at *
      refine ⟨dI (L2.rs.map RowS.w), dI (L2.rs.map RowS.w), dp_ints (SqL.of hD1'), dp_ints (SqL.of hD2), shaped_ints _, shaped_ints _, _, rfl, ite_no (not_eqv (can_dI _)) ?_⟩
      refine ⟨_, rfl, _, _, _, _, _, rfl, st5.lad.o, T.k_Ladder, T.n_Ladder_spilled, lk_Ladder_spilled _, _, rfl, _, _, _, _, _, rfl, st5.lad.o, T.k_Ladder, T.n_Ladder_leaked, lk_Ladder_leaked _, _, rfl, _, _, _, _, _, rfl, st5.lad.o, T.k_Ladder, T.n_Ladder_came, lk_Ladder_came _, by walk_at "few", fun pA nA => ?_⟩
      have st6 := st5.fr0 (Fr.new nA (o := .tup [.int L2.sp, .int L2.lk, .int L2.cm]))
      have hA : upd H15 pA (.tup [.int L2.sp, .int L2.lk, .int L2.cm]) pA = some (.tup [.int L2.sp, .int L2.lk, .int L2.cm]) := upd_same
      refine ⟨_, rfl, _, _, rfl, own_sp st6.own, _, rfl, _, _, rfl, own_lk st6.own, _, rfl, _, _, rfl, own_cm st6.own, by walk_at "few", fun pB nB => ?_⟩
      have st7 := st6.fr0 (Fr.new nB (o := .tup [.int L2.sp, .int L2.lk, .int L2.cm]))
      refine ⟨.tuple [.int L2.sp, .int L2.lk, .int L2.cm], .tuple [.int L2.sp, .int L2.lk, .int L2.cm], .tup (SqT.of ((upd_ne (ne_of_none hA nB)).trans hA)) (.cons (.int _) (.cons (.int _) (.cons (.int _) .nil))), .tup (SqT.of upd_same) (.cons (.int _) (.cons (.int _) (.cons (.int _) .nil))), rfl, rfl, _, rfl, ite_no (not_eqv rfl) (hR _ _ ⟨L2, tk2, gv2, _, _, _, _, _, _, _, _, _, _, rfl, st7, hq3⟩)⟩
    rintro σ H14 ⟨L3, tk3, gv3, z3, z6, z10, z11, z12, z13, z14, z15, z16, z19, rfl, st4, hq4⟩
    refine ⟨_, rfl, _, rfl, _, _, rfl, own_cm st4.own, _, _, rfl, rfl, _, rfl, _, _, rfl, rfl, _, rfl, _, _, _, rfl, st4.lad.o, nm_Ladder_whole _, _, rfl, pL, L3, rfl, st4.lad, st4.tabs, fun H15 f15 => ?_⟩
    have st5 := st4.fr0 f15
    refine ⟨_, rfl, _, _, _, _, _, rfl, st5.lad.o, T.k_Ladder, T.n_Ladder_spilled, lk_Ladder_spilled _, _, _, rfl, rfl, _, rfl, _, _, _, _, _, rfl, st5.lad.o, T.k_Ladder, T.n_Ladder_leaked, lk_Ladder_leaked _, _, _, rfl, rfl, _, rfl, _, _, rfl, rfl, rfl, _, rfl, ite_no (ne_int ?_) ⟨L3, tk3, gv3, _, _, _, _, _, _, _, _, _, _, rfl, st5, hq4⟩⟩
    rw [preSum_sumW]
    have hq5 : sumW rs + gv3 = sumW L3.rs + L3.lk + L3.sp - L3.cm + tk3 := hq4
    show sumW rs + L3.cm + gv3 = sumW L3.rs + L3.sp + L3.lk + tk3
    omega
  rintro σ H10 ⟨L, tk, gv, x3, x6, x10, x11, x12, x13, x14, x15, x16, x19, rfl, st, hq⟩
  clear hq
  have hn1' := st.n1
  have hn5' := st.n5
  refine seqJ (fun σ H' => ∃ (m : Nat) (amount : Int), m < rs.length ∧ 0 ≤ amount ∧ σ = [some (.ref a), some (.ref pd), some (.ref D), x3, some (.ref pL.a), some (.ref pO.o), x6, some (.int tk), some (.int (sumW rs)), some (.int gv), x10, x11, some (.int (m : Nat)), some (.int amount), x14, x15, x16, none, none, x19] ∧ St1 K H' l pd D rs.length pL pO L L) (fun R hR => ?_) ?_
  · obtain ⟨as', hrw, hal⟩ := st.rows
    have hmr : (as'.map V.ref).length = rs.length := by rw [List.length_map]; exact hal
    obtain ⟨a1, b1, d1, hd1⟩ := st.dice
    refine ⟨_, rfl, _, rfl, _, _, rfl, .inl (SqL.of hrw), ?_⟩
    rw [hmr]
    refine ⟨_, _, rfl, pd, _, _, _, _, rfl, rfl, hd1, by omega, by omega, fun a2 b2 d2 r2 l2 u2 => ?_⟩
    have st2 := st.roll (a' := a2) (b' := b2) (d' := d2)
    refine ⟨_, rfl, _, _, rfl, pd, _, _, _, 60, rfl, rfl, upd_same, by decide, by decide, fun a3 b3 d3 r3 l3 u3 => ?_⟩
    have st3 := st2.roll (a' := a3) (b' := b3) (d' := d3)
    refine ⟨by walk_at "few", fun pT nT => ⟨_, _, rfl, SqT.of upd_same, rfl, _, _, rfl, _, _, rfl, rfl, hR _ _ ⟨r2.toNat, r3, by omega, l3, ?_, st3.fr0 (Fr.new nT)⟩⟩⟩
    rw [Int.toNat_of_nonneg l2]
    rfl
  rintro σ H11 ⟨m, amount, hmn, ha0, rfl, st2⟩
  clear st
  refine seqJ (fun σ H' => ∃ pC : OwnP, σ = [some (.ref a), some (.ref pd), some (.ref D), x3, some (.ref pL.a), some (.ref pO.o), x6, some (.int tk), some (.int (sumW rs)), some (.int gv), x10, x11, some (.int (m : Nat)), some (.int amount), x14, x15, x16, some (.ref pC.o), some .non, x19] ∧ OwnAt H' pC ⟨L.rs, 0, 0, 0⟩ ∧ (∀ c ∈ ofoot pC, Nw H11 c) ∧ Fr (FL K) [] H11 H') (fun R hR => ?_) ?_
  · intro po2 npo
    have st3 := st2.fr0 (Fr.new npo (o := .dK []))
    have hob := st3.own.b
    have hasl := st3.own.r.1
    refine ⟨_, rfl, _, _, rfl, own_rows st3.own, _, rfl, ⟨_, SqL.of hob⟩, fun D2 nD2 => ?_⟩
    refine lcCopy (T := FL K) (rv := fun i => ((L.rs[i]?).map rowV).getD []) (by show 6 < 20; decide) hob (fun i c hc => ?_) (Nat.le_trans st3.own.z (by decide)) nD2 (fun H7 as2 hD7 hlen7 hR7 hn7 hw7 f7 => ?_)
    · obtain ⟨r, hr, h⟩ := st3.own.r.get hc
      rw [hr]
      exact h
    have hpo7 : H7 po2 = some (.dK []) := f7.d upd_same (by simp)
    refine ⟨hpo7, [(.inr "rows", .ref D2), (.inr "spilled", .int 0), (.inr "leaked", .int 0), (.inr "came", .int 0)], rfl, by walk_at "few", ?_⟩
    rw [merge_own (L := ⟨L.rs, 0, 0, 0⟩) rfl rfl rfl]
    have nD2po : D2 ≠ po2 := fun z => by
      rw [z, hpo7] at hD7
      cases hD7
    have f6 : Fr (FL K) [] H11 (upd H11 po2 (.dK [])) := Fr.new npo
    refine ⟨_, _, rfl, hR _ _ ⟨⟨po2, D2, as2⟩, rfl, ⟨upd_same, (upd_ne nD2po).trans hD7, ⟨hlen7.trans hasl, fun i c r hc hr => ?_⟩, hn7, ?_⟩, fun c hc => ?_, (f6.trans f7).transW (Fr.upd (S := [po2]) hpo7 rfl (List.mem_singleton.mpr rfl)) fun c hc => .inr (by rw [List.mem_singleton.mp hc]; exact Nw.none npo)⟩⟩
    · have h7 := hR7 i c hc
      have hr' : L.rs[i]? = some r := hr
      rw [hr'] at h7
      exact (upd_ne (fun z => by
        rw [z, hpo7] at h7
        cases h7)).trans h7
    · have := st3.own.z
      show as2.length ≤ 5
      omega
    · rcases List.mem_cons.mp hc with z | z
      · rw [z]
        exact Nw.none npo
      · intro o ho
        exact hw7 c z o ((upd_ne (ne_of_none ho npo)).trans ho)
  rintro σ H12 ⟨pC, rfl, hC, hwC, fC⟩
  refine seqJ (fun σ H' => ∃ (d : Option Nat) (y19 : Option V), σ = [some (.ref a), some (.ref pd), some (.ref D), x3, some (.ref pL.a), some (.ref pO.o), x6, some (.int tk), some (.int (sumW rs)), some (.int gv), x10, x11, some (.int (m : Nat)), some (.int amount), x14, x15, x16, some (.ref pC.o), some (dueV d), y19] ∧ Fr (FL K) [] H11 H' ∧ DueS L m amount d) (fun R hR => ?_) ?_
  · refine ⟨1001, rfl, by decide, by decide, ?_⟩
    refine for_it walk_range (fun i σ H' => ∃ (d : Option Nat) (y19 : Option V), σ = [some (.ref a), some (.ref pd), some (.ref D), x3, some (.ref pL.a), some (.ref pO.o), x6, some (.int tk), some (.int (sumW rs)), some (.int gv), x10, x11, some (.int (m : Nat)), some (.int amount), x14, x15, x16, some (.ref pC.o), some (dueV d), y19] ∧ Fr (FL K) [] H11 H' ∧ DuI L m amount i d ∧ (d = none → OwnAt H' pC (hoursN ⟨L.rs, 0, 0, 0⟩ i))) ⟨none, _, rfl, fC, fun j hj => absurd hj (Nat.not_lt_zero _), fun _ => hC⟩ (fun _ _ _ _ _ => trivial) ?_ ?_
    rotate_left
    · rintro σ H13 ⟨d, y19, rfl, f, hd, _⟩
      exact hR _ _ ⟨d, y19, rfl, f, hd.due⟩
    rintro i y σ H13 H14 hi ⟨d, y19, rfl, f, hd, ho⟩ ⟨rfl, rfl⟩
    refine gname_ap ?_
    refine seqJ (fun σ H' => ∃ (d : Option Nat), σ = [some (.ref a), some (.ref pd), some (.ref D), x3, some (.ref pL.a), some (.ref pO.o), x6, some (.int tk), some (.int (sumW rs)), some (.int gv), x10, x11, some (.int (m : Nat)), some (.int amount), x14, x15, x16, some (.ref pC.o), some (dueV d), some (.int (0 + (i : Int)))] ∧ Fr (FL K) [] H11 H' ∧ DuI L m amount (i + 1) d ∧ (d = none → OwnAt H' pC (hoursN ⟨L.rs, 0, 0, 0⟩ i))) (fun R2 hR2 => ?_) ?_
    · cases d with
      | some h =>
        refine ifs_p (b := false && false) (and_p (test_p (b := false) fun Q k => ⟨_, rfl, rfl, k⟩) (fun hg => by cases hg)) (fun hd => by cases hd) (fun _ => hR2 _ _ ⟨some h, rfl, f, ⟨Nat.lt_succ_of_lt hd.1, hd.2⟩, fun z => by cases z⟩)
      | none =>
        have hoC := ho rfl
        have hmc : m < (hoursN ⟨L.rs, 0, 0, 0⟩ i).rs.length := by
          rw [hoursN_len]
          show m < L.rs.length
          rw [st2.lenL]
          exact hmn
        obtain ⟨c, hc⟩ : ∃ c, pC.as[m]? = some c := ⟨_, List.getElem?_eq_getElem (by rw [hoC.r.1]; exact hmc)⟩
        obtain ⟨rc, hrc, hrow⟩ := hoC.r.get hc
        have hrow1 : H14 c = some (.lst [.int rc.w, .int rc.least, .int rc.most, .int rc.comes, .int rc.leaks, .int rc.minutes]) := hrow
        have atC : atI (pC.as.map V.ref) (m : Int) = some (.ref c) := atI_nat (by rw [List.getElem?_map, hc] <;> rfl)
        have hb := hoC.b
        have es : shortB L m amount i = decide (rc.w - rc.least < amount) := by
          have e1 : lAt L m = rc.least := by
            have hm2 := hoursN_map (f := RowS.least) (fun _ _ => rfl) (L := ⟨L.rs, 0, 0, 0⟩) i
            have h3 : ((hoursN ⟨L.rs, 0, 0, 0⟩ i).rs.map RowS.least)[m]? = some rc.least := by rw [List.getElem?_map, hrc] <;> rfl
            rw [hm2, List.getElem?_map] at h3
            unfold lAt
            rw [h3] <;> rfl
          unfold shortB
          rw [wAt_copy, e1]
          unfold wAt
          rw [hrc] <;> rfl
        refine ifs_p (and_p (test_p (b := true) fun Q k => ⟨_, rfl, rfl, k⟩) (fun _ => test_p (b := decide (rc.w - rc.least < amount)) fun Q k => ⟨_, rfl, _, _, rfl, own_rows hoC, _, rfl, _, _, _, _, rfl, rfl, SqL.of hb, atC, _, _, _, _, rfl, rfl, SqL.of hrow1, rfl, _, rfl, _, _, rfl, own_rows hoC, _, rfl, _, _, _, _, rfl, rfl, SqL.of hb, atC, _, _, _, _, rfl, rfl, SqL.of hrow1, rfl, _, _, rfl, rfl, _, rfl, _, _, rfl, rfl, k⟩)) (fun hs => ?_) (fun hs => ?_)
        · have e0 : V.int (0 + (i : Int)) = dueV (some i) := by
            show V.int _ = V.int _
            rw [Int.zero_add]
          refine ⟨_, rfl, hR2 _ _ ⟨some i, by rw [← e0]; rfl, f, ⟨Nat.lt_succ_self i, ?_, hd⟩, fun z => by cases z⟩⟩
          rw [es]
          simpa using hs
        · refine hR2 _ _ ⟨none, rfl, f, fun j hj => ?_, fun _ => hoC⟩
          rcases Nat.lt_succ_iff_lt_or_eq.mp hj with z | z
          · exact hd j z
          · rw [z, es]
            simpa using hs
    rintro σ H15 ⟨d2, rfl, f2, hd2, ho2⟩
    cases d2 with
    | some h => exact ifs_p (test_p (b := false) fun Q k => ⟨_, rfl, rfl, k⟩) (fun hd => by cases hd) (fun _ => ⟨some h, _, rfl, f2, hd2, fun z => by cases z⟩)
    | none =>
      refine ifs_p (test_p (b := true) fun Q k => ⟨_, rfl, rfl, k⟩) (fun _ => ?_) (fun hd => by cases hd)
      exact ⟨_, rfl, _, rfl, pC, _, rfl, ho2 rfl, fun H16 f3 ho3 => ⟨none, _, rfl, f2.transW f3 fun c hc => .inr (hwC c hc), hd2, fun _ => ho3⟩⟩
  rintro σ H13 ⟨d, y19, rfl, f, hd⟩
  have st3 := st2.fr0 f
  clear hwC fC hC
  have hmL : m < L.rs.length := by
    rw [st3.lenL]
    exact hmn
  have hbp : badP L (m : Int) = false := by
    unfold badP
    rw [decide_eq_true (by omega : (0 : Int) ≤ (m : Int)), decide_eq_true (by omega : (m : Int) < (L.rs.length : Int))] <;> rfl
  have hbh : badH L (m : Int) amount = false := by
    unfold badH
    rw [hbp, decide_eq_false (by omega)] <;> rfl
  refine ⟨_, rfl, _, _, _, rfl, st3.lad.o, nm_Ladder_hours_until_short _, _, rfl, _, rfl, _, _, _, rfl, pL, L, m, amount, rfl, rfl, rfl, st3.lad, st3.gd, st3.nm.ok st3.n1 st3.n5, fun z => absurd z (by rw [hbh]; decide), fun _ H14 d' f14 hd' => ?_⟩
  have st4 := st3.fr0 f14
  rw [Int.toNat_natCast] at hd'
  have ed := DueS_one hd' hd
  subst ed
  refine ⟨_, rfl, by cases d' <;> rfl, _, rfl, ite_no (ne_same _) ?_⟩
  clear st3
  have hlp : (pL.pl.map fun q => V.ref q.1).length = L.rs.length := by rw [List.length_map]; exact st4.lad.r.1
  have hla : (pO.as.map V.ref).length = L.rs.length := by rw [List.length_map]; exact st4.own.r.1
  have hl5 : L.rs.length ≤ sizeLine := Nat.le_trans (by rw [st4.nO]; exact st4.n5) (by decide)
  refine ⟨_, rfl, _, _, _, _, _, rfl, st4.lad.o, T.k_Ladder, T.n_Ladder_reaches, lk_Ladder_reaches _, _, rfl, ⟨_, SqT.of st4.lad.t⟩, fun D1 nD1 => ?_⟩
  refine lcP walk_tup (fun i => .int (((L.rs[i]?).map RowS.w).getD 0)) (by rw [hlp]; exact hl5) (fun acc => SqT.of ((upd_ne (ne_of_none st4.lad.t nD1)).trans st4.lad.t)) (fun i y acc hy Q k => ?_) ?_
  · obtain ⟨q, hq, rfl⟩ := map_get hy
    obtain ⟨r, hr, hra⟩ := st4.lad.r.get hq
    rw [hr] at k
    exact ⟨_, rfl, _, _, _, _, _, rfl, (upd_ne (ne_of_none hra nD1)).trans hra, T.k_Reach, T.n_Reach_water, lk_Reach_water _, k⟩
  rw [hlp, range_w]
  have st5 := st4.fr0 (Fr.new nD1 (o := .lst ((L.rs.map RowS.w).map V.int)))
  have hD1 : upd H14 D1 (.lst ((L.rs.map RowS.w).map V.int)) D1 = some (.lst ((L.rs.map RowS.w).map V.int)) := upd_same
  generalize upd H14 D1 (.lst ((L.rs.map RowS.w).map V.int)) = H15 at *
  refine ⟨_, rfl, _, _, rfl, own_rows st5.own, _, rfl, ⟨_, SqL.of st5.own.b⟩, fun D2 nD2 => ?_⟩
  refine lcP walk_list (fun i => .int (((L.rs[i]?).map RowS.w).getD 0)) (by rw [hla]; exact hl5) (fun acc => SqL.of ((upd_ne (ne_of_none st5.own.b nD2)).trans st5.own.b)) (fun i y acc hy Q k => ?_) ?_
  · obtain ⟨c, hc, rfl⟩ := map_get hy
    obtain ⟨r, hr, hrow⟩ := st5.own.r.get hc
    rw [hr] at k
    exact ⟨_, rfl, _, _, _, _, rfl, rfl, SqL.of ((upd_ne (ne_of_none hrow nD2)).trans hrow), rfl, k⟩
  rw [hla, range_w]
  have st6 := st5.fr0 (Fr.new nD2 (o := .lst ((L.rs.map RowS.w).map V.int)))
  have hD1' := (upd_ne (o := .lst ((L.rs.map RowS.w).map V.int)) (ne_of_none hD1 nD2)).trans hD1
  have hD2 : upd H15 D2 (.lst ((L.rs.map RowS.w).map V.int)) D2 = some (.lst ((L.rs.map RowS.w).map V.int)) := upd_same
  generalize upd H15 D2 (.lst ((L.rs.map RowS.w).map V.int)) = H16 at *
  refine ⟨dI (L.rs.map RowS.w), dI (L.rs.map RowS.w), dp_ints (SqL.of hD1'), dp_ints (SqL.of hD2), shaped_ints _, shaped_ints _, _, rfl, ite_no (not_eqv (can_dI _)) ?_⟩
  have hm5 : m < 5 := by omega
  refine ⟨_, rfl, _, _, _, rfl, st6.lad.o, nm_Ladder_place_of _, _, rfl, _, rfl, (nameK_ok hm5).1, _, _, rfl, rfl, (nameK_ok hm5).2, _, _, rfl, pL, L, nameK m, rfl, rfl, st6.lad, fun i r hr hn _ H17 f17 => ?_, fun hall => ?_⟩
  · have hi5 : i < 5 := by
      have := (List.getElem?_eq_some_iff.mp hr).1
      have h2 := st6.lenL
      omega
    have ei : i = m := by
      have e := st6.nm.get hr
      rw [hn] at e
      rcases Nat.lt_trichotomy i m with z | z | z
      · exact absurd e.symm (nameK_ne z hm5)
      · exact z
      · exact absurd e (nameK_ne z hi5)
    subst ei
    have st7 := st6.fr0 f17
    exact ⟨_, rfl, rfl, _, rfl, ite_no (ne_same _) (.inr ⟨rfl, st7.tabs, st7.lst⟩)⟩
  · exact absurd (st6.nm.get (List.getElem?_eq_getElem hmL)) (hall _ (List.getElem_mem hmL))
end
end K1
namespace K1
open PySem PySem.Spec PyProof.Rows L2 Cn
abbrev R : PySem.W.OpenRow := PySem.W.OpenLaw.row PySem.Challenge.rw_canalstack_k01_water_between_locks
abbrev hk : PySem.W.Hook := He.hookX 5 fa fn [] tf exB
def ob (s : PySem.W.SharedT) : He.AlX := He.obsX 5 fa fn [] tf exB (HandSHeadRun.getT s)
theorem ob_eq (s : PySem.W.SharedT) : ob s = hk.obs s.abs := He.obsX_eq (HandSHeadRun.getT_eq s)
theorem run (w : World) : HandSHeadRun.RunEq R (PySem.W.view R.prog [17]) hk ob 3000 loose w := by
  intro os
  kernel_rfl
theorem facts {w : World} {K : PySem.W.Frag} {h : Heap} {mg : Str → Option Value} {f : Addr} (X : K.In h) (G : h.Ns mainGlobals mg) (hfa : mg ("law" : Str) = some (.ref f)) (c : He.SaysX fa fn [] tf exB w h K) :
    LamX.LawAtS PySem.Challenge.rw_canalstack_k01_water_between_locks w K (L2.CX (PySem.Challenge.rw_canalstack_k01_water_between_locks).prog w) 20 63 "script" mg f h := by
  obtain ⟨fd, F⟩ := c.t.d.def_ 20 (d := d_law) rfl
  have e := hfa.symm.trans (He.glo_ok X G (c.t.d.fact 43 (f := .glo "law") rfl))
  cases e
  have F0 := F
  rw [dvs_nil (d := d_law) (K := K) rfl] at F0
  have b := FunD.bindsA (ps := ["script"]) F0 fun _ _ _ _ _ _ us hl => match us, hl with | [_], _ => rfl
  refine ⟨fd, tf.map (He.cT K), spLaw K, fun p hp => ?_, fun p hp => ?_, fun p hp => ?_, fun s v => b s [v] rfl, fun H a ns hl _ hT hS => ⟨.ref a, rfl, a, ns, rfl, hS, fun p hp => ?_, fun _ => rfl⟩, fun base hb hg hTB => (ok_law (txt_of X G c hTB) fd F).mono (by decide)⟩
  · obtain ⟨q, hq, rfl⟩ := List.mem_map.mp hp
    exact c.empty q hq
  · obtain ⟨q, hq, rfl⟩ := List.mem_map.mp hp
    exact c.out q hq
  · obtain ⟨q, hq, rfl⟩ := List.mem_map.mp hp
    exact PySem.W.codeHd_of_K X (c.hd q hq)
  · have hq : ∃ q ∈ tf.map (He.cT K), q.2 = p.1 := by
      unfold FL at hp
      simp only [List.mem_cons, List.not_mem_nil, or_false] at hp
      rcases hp with rfl | rfl | rfl
      · exact ⟨_, List.mem_map_of_mem tm_Ladder_whole, rfl⟩
      · exact ⟨_, List.mem_map_of_mem tm_law_plain, rfl⟩
      · exact ⟨_, List.mem_map_of_mem tm_law, rfl⟩
    obtain ⟨q, hq, e⟩ := hq
    exact ⟨#[], by rw [← e]; exact hT q hq, trivial, fun pos cv z => by cases z⟩
end K1
open PySem PySem.W PySem.Calls PyProof.Rows
theorem PySem.Challenge.cw_canalstack_k01_water_between_locks_holds : PySem.Challenge.rw_canalstack_k01_water_between_locks.Holds := by
  w_on; o_law
  refine HandSHeadRun.head_any (r := OpenLaw.row PySem.Challenge.rw_canalstack_k01_water_between_locks) (q := view (OpenLaw.row PySem.Challenge.rw_canalstack_k01_water_between_locks).prog [17]) (H := K1.hk) (ob := K1.ob) (M := 3000) (loose := K1.loose) (d := HandSHeadRun.topDef (OpenLaw.row PySem.Challenge.rw_canalstack_k01_water_between_locks).prog 17) (kwd := []) K1.ob_eq
    (by kernel_rfl) (fun s => by kernel_rfl) K1.run (by kernel_rfl) (by kernel_rfl) (by kernel_rfl) (by rfl) (by first | assumption | decide +kernel) (by decide +kernel) ⟨rfl, rfl, rfl, rfl, rfl, by decide +kernel⟩ ?hw ?hc
  case hw => w_witness2
  case hc =>
    refine LamX.walk_ofTsE (l := PySem.Challenge.rw_canalstack_k01_water_between_locks) (n := 63) (k := 20) (x := "script") (CX := fun w => L2.CX (PySem.Challenge.rw_canalstack_k01_water_between_locks).prog w) rfl (by decide) (by kernel_rfl) ⟨rfl, by decide, by decide⟩ ?F ?X
    case F =>
      intro w mg fa h Y G hmg0
      obtain ⟨K, KX, c⟩ := Y
      have hmg : mg ("law" : PySem.Str) = some (.ref fa) := by
        have e : (HandSHeadRun.topDef (OpenLaw.row PySem.Challenge.rw_canalstack_k01_water_between_locks).prog 17).name = ("law" : PySem.Str) := by kernel_rfl
        rw [← e]
        exact hmg0
      exact ⟨K, KX, K1.facts KX G hmg c⟩
    case X =>
      intro w H s e s2 h
      obtain ⟨_, _, _, _, _, _, _, _, _, _, _, _, z⟩ := h
      exact z
