import PyProof.Rows.All
import Wide.All
import OpenK.AllK
import Wide.FinOn
import HandS.ForMost
import HandS.Exc
import HandS.TryOnly
import HandS.ExcOwn
import HandS.WordsExc
import HandS.Defaults
import HandS.Lambda
import HandS.HeadHook1
import HandS.HeadHook2
import HandS.HeadHook3
import HandS.HeadHook4
import HandS.Wide
import HandS.AnyAll
import HandS.DictComp
import HandS.Small
import HandS.Conv
import HandS.RevRange
import HandS.TupAny
import HandS.WordsDict
import HandS.IsInst
import HandS.Sort
import HandS.SortInts
import KE.GoesMore
import HandS.Walk
import HandS.Comp
import KE.DataMinMax
import HandS.Deep
import KE.DataFind
import KE.SortData
import HandS.SetFor
import HandS.HeadWalk
import HandS.EndTab
import PySem.Challenge.RW_canalstack_k02_locks_and_who_goes_next
import HandS.Head0
import HandS.Head1
import HandS.Head2
import HandS.HeadEnd
set_option Elab.async false
set_option linter.all false
set_option maxRecDepth 100000
set_option maxHeartbeats 0
/-! my own small layer over HandS -/
namespace Cn
open PySem PySem.Spec PyProof.Rows L2

/-- a def of the program keeps its promise, is bound by place, may be called -/
structure Pr (P : Program) (w : World) (K : PySem.W.Frag) (mg : Str → Option Value) (base : Heap) (k : Nat) (f : Addr) (ps : List Str) (sp : Sp) : Prop where
  ex : ∃ fd, FnOk P w K mg base (L2.CX P w) k f fd ps sp ∧ Binds K fd ps []
  kp : PySem.W.keepIn K (.ref f) = true

section
variable {X : Cx} {k j : Nat} {f C : Addr} {ps : List Str} {sp : Sp} {E : XK} {x m : Str} {p pos apos : Pos} {e o : Expr} {es : List Expr} {ta : TE} {t : TA}
abbrev PrX (X : Cx) (k : Nat) (f : Addr) (ps : List Str) (sp : Sp) : Prop := Pr X.prog X.w X.K X.mg X.base k f ps sp
abbrev Lets (X : Cx) (E : XK) : Prop := Passes (L2.CX X.prog X.w) X E

theorem pe_fn (F : PrX X k f ps sp) (hr : Room j X.A) (hk : k ≤ j) (hx : Lets X E) (hm : X.mg x = some (.ref f)) (ha : PA X (e :: es) t) (hg : Gl X x := by rfl) (hdb : (x == ("__debug__" : Str)) = false := by decide)
    (he : starEach (e :: es) X.env = (false, eval e X.env) :: starEach es X.env := by rfl) (hpl : (backTo pos (starEach es X.env)).any (·.1) = false := by rfl) :
    PE X (.Call (.Name x p) (e :: es) [] pos) (tCall sp [] E t) := by
  obtain ⟨fd, F1, b⟩ := F.ex
  exact pe_call F1 (hr.mono hk) hg hm F.kp b .nil hx ha hdb he hpl
theorem pe_fn0 (F : PrX X k f ps sp) (hr : Room j X.A) (hk : k ≤ j) (hx : Lets X E) (hm : X.mg x = some (.ref f)) (hg : Gl X x := by rfl) (hdb : (x == ("__debug__" : Str)) = false := by decide) :
    PE X (.Call (.Name x p) [] [] pos) (tCall sp [] E tNil) := by
  obtain ⟨fd, F1, b⟩ := F.ex
  exact pe_call0 F1 (hr.mono hk) hg hm F.kp b .nil hx hdb
theorem pe_mt {pl : Sem Bool} (he : PE X o ta) (c : Cls X.K C) (hm : Meth X.K C m f) (F : PrX X k f ps sp) (hr : Room j X.A) (hk : k ≤ j) (hx : Lets X E) (ha : PA X (e :: es) t)
    (hst : starEach (e :: es) X.env = (false, eval e X.env) :: starEach es X.env := by rfl) (hpl : (backTo pos (starEach es X.env)).any (·.1) = false := by rfl)
    (ht : eval (.Call (.Attribute o m apos) (e :: es) [] pos) X.env = (do
      let ov ← eval o X.env
      standAt apos.atName
      let (f, first) ← holding [ov] (getMethod ov m pl)
      callWith pos f first (backTo pos (starEach (e :: es) X.env)) (backToKw pos (keywordEach [] X.env))) := by rfl) :
    PE X (.Call (.Attribute o m apos) (e :: es) [] pos) (tMeth C m sp [] E ta t) := by
  obtain ⟨fd, F1, b⟩ := F.ex
  exact pe_meth he c hm F1 (hr.mono hk) b .nil hx ha hst hpl ht
theorem pe_mt0 {pl : Sem Bool} (he : PE X o ta) (c : Cls X.K C) (hm : Meth X.K C m f) (F : PrX X k f ps sp) (hr : Room j X.A) (hk : k ≤ j) (hx : Lets X E)
    (ht : eval (.Call (.Attribute o m apos) [] [] pos) X.env = (do
      let ov ← eval o X.env
      standAt apos.atName
      let (f, first) ← holding [ov] (getMethod ov m pl)
      callWith pos f first (backTo pos (starEach [] X.env)) (backToKw pos (keywordEach [] X.env))) := by rfl) :
    PE X (.Call (.Attribute o m apos) [] [] pos) (tMeth C m sp [] E ta tNil) := by
  obtain ⟨fd, F1, b⟩ := F.ex
  exact pe_meth0 he c hm F1 (hr.mono hk) b .nil hx ht
theorem pe_mk (M : Mk X.K C f) (F : PrX X k f ps sp) (hr : Room j X.A) (hk : k + 1 ≤ j) (hx : Lets X E) (hm : X.mg x = some (.ref C)) (ha : PA X (e :: es) t) (hg : Gl X x := by rfl) (hdb : (x == ("__debug__" : Str)) = false := by decide)
    (he : starEach (e :: es) X.env = (false, eval e X.env) :: starEach es X.env := by rfl) (hpl : (backTo pos (starEach es X.env)).any (·.1) = false := by rfl) :
    PE X (.Call (.Name x p) (e :: es) [] pos) (tMake C sp [] E t) := by
  obtain ⟨fd, F1, b⟩ := F.ex
  exact pe_make M F1 (hr.mono hk) hg hm b .nil hx ha hdb he hpl
theorem pe_mk0 (M : Mk X.K C f) (F : PrX X k f ps sp) (hr : Room j X.A) (hk : k + 1 ≤ j) (hx : Lets X E) (hm : X.mg x = some (.ref C)) (hg : Gl X x := by rfl) (hdb : (x == ("__debug__" : Str)) = false := by decide) :
    PE X (.Call (.Name x p) [] [] pos) (tMake C sp [] E tNil) := by
  obtain ⟨fd, F1, b⟩ := F.ex
  exact pe_make0 M F1 (hr.mono hk) hg hm b .nil hx hdb
end

section
variable {P : Program} {w : World} {K : PySem.W.Frag} {mg : Str → Option Value} {base : Heap}
/-- the def's context lets out what its promise tells -/
theorem lets {N : List Str} {qual : Str} {scope : Scope} {f : Addr} {cd : Value} {A : Around} {outer : List Env} {s : Shared} {H : Hp} {E : XK} : Lets (cxOf (L2.CX P w) P w K mg base N qual scope f cd A outer s H E) E :=
  passes_call (takes_of rfl rfl rfl rfl) (fun _ _ _ _ z => z)
theorem takes {N : List Str} {qual : Str} {scope : Scope} {f : Addr} {cd : Value} {A : Around} {outer : List Env} {s : Shared} {H : Hp} {E : XK} : Takes (cxOf (L2.CX P w) P w K mg base N qual scope f cd A outer s H E) (fun cls d _ H => E cls d H) :=
  takes_of rfl rfl rfl rfl
theorem owns {N : List Str} {qual : Str} {scope : Scope} {f : Addr} {cd : Value} {A : Around} {outer : List Env} {s : Shared} {H : Hp} {E : XK} :
    PassesOwn (model (cxOf (L2.CX P w) P w K mg base N qual scope f cd A outer s H E).prog (cxOf (L2.CX P w) P w K mg base N qual scope f cd A outer s H E).w) (cxOf (L2.CX P w) P w K mg base N qual scope f cd A outer s H E).A (cxOf (L2.CX P w) P w K mg base N qual scope f cd A outer s H E).env (cxOf (L2.CX P w) P w K mg base N qual scope f cd A outer s H E).xe :=
  passes_of rfl
/-- raise X('..') -/
theorem ps_err {X : Cx} {W : WX} {x m : Str} {C : Addr} {j : Nat} {p p2 pos pos' : Pos} (tk : Takes X W)
    (q : PySem.W.excIn X.K C He.veBase "ValueError.__new__" = true ∧ PySem.W.keepIn X.K (.ref C) = true ∧ PySem.W.subIn X.K (.ref C) (.type "BaseException") = some true ∧ PySem.W.typeIn X.K (.ref C) = some (.type "type"))
    (gC : X.mg x = some (.ref C)) (hc : X.calm = true := by rfl) (hg : Gl X x := by rfl) (hdb : (x == ("__debug__" : Str)) = false := by decide) :
    PS X (.Raise (some (.Call (.Name x p) [.Constant (.str m) j p2] [] pos)) none pos') (fun _ σ H => W (.ref C) none σ H) :=
  ps_raise hc tk (pmk_own PySem.F.excBase_ValueError q.1 gC q.2.1 (raises_own q.2.2.1 q.2.2.2) hg hdb)
/-- a def by its body -/
theorem mk_pr {d : He.DefD} {N ps : List Str} {k : Nat} {sp : Sp} (F : ∃ fd, FunD K d.name d.qual d.params d.body d.scope (d.dvs K) (d.kws K) (He.fAd K d.at_) fd) (hd : d.dfl = []) (S : FnScope N ps d.scope)
    (hb : ∀ (kV doc pm : Value) (an : Option Addr) (cdv ct : Value) (us : List Value), us.length = ps.length → bindArgs (PySem.W.fnOf d.name d.qual d.params d.body d.scope .none kV doc pm an cdv ct) ⟨us, []⟩ = pure (ps.zip us))
    (len : ∀ vs H Q E, sp vs H Q E → vs.length = ps.length)
    (hbody : ∀ (cdv : Value) (A : Around) (outer : List Env) (s : Shared) (H : Hp) (vs : List V) (Q : VK) (E : XK), Room k (A.deeper (envOfC d.qual d.scope s.heap.objs.size (He.fAd K d.at_) cdv)) → sp vs H Q E →
      ∃ t, PSs (cxOf (L2.CX P w) P w K mg base N d.qual d.scope (He.fAd K d.at_) cdv A outer s H E) d.body t ∧ t { nx := fun _ H' => Q .non H', rt := Q } (start N vs) H) : Pr P w K mg base (k + 1) (He.fAd K d.at_) ps sp := by
  obtain ⟨fd, F⟩ := F
  have e : d.dvs K = [] := by unfold He.DefD.dvs; rw [hd] <;> rfl
  refine ⟨⟨fd, FunD.ok F S len hbody, ?_⟩, F.kp⟩
  rw [e] at F
  exact FunD.bindsN F hb
end


/-! ### promises by the number of arguments -/
def Sp0 (f : Hp → VK → XK → Prop) : Sp := fun vs H Q E => vs = [] ∧ f H Q E
def Sp1 (f : V → Hp → VK → XK → Prop) : Sp := fun vs H Q E => ∃ a, vs = [a] ∧ f a H Q E
def Sp2 (f : V → V → Hp → VK → XK → Prop) : Sp := fun vs H Q E => ∃ a b, vs = [a, b] ∧ f a b H Q E
def Sp3 (f : V → V → V → Hp → VK → XK → Prop) : Sp := fun vs H Q E => ∃ a b c, vs = [a, b, c] ∧ f a b c H Q E
def Sp4 (f : V → V → V → V → Hp → VK → XK → Prop) : Sp := fun vs H Q E => ∃ a b c d, vs = [a, b, c, d] ∧ f a b c d H Q E
def Sp5 (f : V → V → V → V → V → Hp → VK → XK → Prop) : Sp := fun vs H Q E => ∃ a b c d e, vs = [a, b, c, d, e] ∧ f a b c d e H Q E
def Sp8 (f : V → V → V → V → V → V → V → V → Hp → VK → XK → Prop) : Sp := fun vs H Q E => ∃ a b c d e g i j, vs = [a, b, c, d, e, g, i, j] ∧ f a b c d e g i j H Q E
theorem len0 {f : Hp → VK → XK → Prop} : ∀ vs H Q E, Sp0 f vs H Q E → vs.length = 0 := fun _ _ _ _ ⟨h, _⟩ => by rw [h] <;> rfl
theorem len1 {f : V → Hp → VK → XK → Prop} : ∀ vs H Q E, Sp1 f vs H Q E → vs.length = 1 := fun _ _ _ _ ⟨_, h, _⟩ => by rw [h] <;> rfl
theorem len2 {f : V → V → Hp → VK → XK → Prop} : ∀ vs H Q E, Sp2 f vs H Q E → vs.length = 2 := fun _ _ _ _ ⟨_, _, h, _⟩ => by rw [h] <;> rfl
theorem len3 {f : V → V → V → Hp → VK → XK → Prop} : ∀ vs H Q E, Sp3 f vs H Q E → vs.length = 3 := fun _ _ _ _ ⟨_, _, _, h, _⟩ => by rw [h] <;> rfl
theorem len4 {f : V → V → V → V → Hp → VK → XK → Prop} : ∀ vs H Q E, Sp4 f vs H Q E → vs.length = 4 := fun _ _ _ _ ⟨_, _, _, _, h, _⟩ => by rw [h] <;> rfl
theorem len5 {f : V → V → V → V → V → Hp → VK → XK → Prop} : ∀ vs H Q E, Sp5 f vs H Q E → vs.length = 5 := fun _ _ _ _ ⟨_, _, _, _, _, h, _⟩ => by rw [h] <;> rfl
theorem len8 {f : V → V → V → V → V → V → V → V → Hp → VK → XK → Prop} : ∀ vs H Q E, Sp8 f vs H Q E → vs.length = 8 := fun _ _ _ _ ⟨_, _, _, _, _, _, _, _, h, _⟩ => by rw [h] <;> rfl
/-! ### dict of fields -/
theorem lk_hit {f : Str} {v : V} {l : List (Str × V)} : ((f, v) :: l).lookup f = some v := by simp [List.lookup]
/-! ### tactics by words -/
local macro_rules | `(tactic| walk_at "ne") => `(tactic| first | assumption | (apply Ne.symm; assumption) | exact ne_of_none (by assumption) (by assumption) | exact (ne_of_none (by assumption) (by assumption)).symm)
end Cn
/-! generator expressions over lists and tuples: sum, any, tuple of them -/
namespace Cn
open PySem PySem.Spec PyProof.Rows L2 LamX
/-- the generator's own scope -/
def gsB (sc scope : Scope) (N : List Str) (x : Str) : Bool :=
  decide (scope.kind = .function) && !scope.isCoroutine && decide (scope.names.lookup (".0" : Str) = some NameKind.local) && decide (scope.names.lookup x = some .local) &&
    scope.names.all fun y => !decide (y.2 = .cell) && (!decide (y.2 = .local) || decide (y.1 = ".0") || decide (y.1 = x)) && (!decide (y.2 = .free) || decide (sc.names.lookup y.1 = some .cell) || decide (sc.names.lookup y.1 = some .free))
structure GsOk (sc scope : Scope) (x : Str) : Prop where
  kind : scope.kind = .function
  co : scope.isCoroutine = false
  dot : scope.names.lookup (".0" : Str) = some NameKind.local
  loc : scope.names.lookup x = some .local
  cell : ∀ y ∈ scope.names, y.2 ≠ .cell
  own : ∀ y ∈ scope.names, y.2 = .local → y.1 = ".0" ∨ y.1 = x
  free : ∀ y ∈ scope.names, y.2 = .free → sc.names.lookup y.1 = some .cell ∨ sc.names.lookup y.1 = some .free
theorem gs_by {sc scope : Scope} {N : List Str} {x : Str} (h : gsB sc scope N x = true) : GsOk sc scope x := by
  unfold gsB at h
  simp only [Bool.and_eq_true, Bool.or_eq_true, Bool.not_eq_true', decide_eq_true_eq, decide_eq_false_iff_not, List.all_eq_true] at h
  obtain ⟨⟨⟨⟨h1, h2⟩, h3⟩, h4⟩, h5⟩ := h
  refine ⟨h1, h2, h3, h4, fun y hy => (h5 y hy).1.1, fun y hy e => ?_, fun y hy e => ?_⟩
  · rcases (h5 y hy).1.2 with (z | z) | z
    · exact absurd e z
    · exact .inl z
    · exact .inr z
  · rcases (h5 y hy).2 with (z | z) | z
    · exact absurd e z
    · exact .inl z
    · exact .inr z
/-- the abstract heap without the tables -/
def noT (H : Hp) : Hp := fun b => match H b with
  | some (.tbl _) => none
  | o => o
theorem noT_of {H : Hp} {b : Addr} {o : HO} (h : H b = some o) (n : ∀ ps, o ≠ .tbl ps) : noT H b = some o := by
  unfold noT
  rw [h]
  cases o with
  | tbl ps => exact absurd rfl (n ps)
  | _ => rfl
theorem of_noT {H : Hp} {b : Addr} {o : HO} (h : noT H b = some o) : H b = some o ∧ ∀ ps, o ≠ .tbl ps := by
  unfold noT at h
  cases q : H b with
  | none =>
    rw [q] at h
    cases h
  | some u =>
    rw [q] at h
    cases u with
    | tbl ps => cases h
    | _ =>
      cases h
      exact ⟨rfl, fun ps z => by cases z⟩
theorem extN_noT {H : Hp} : ExtN H (noT H) := fun b o h n => noT_of h n

/-- what holds while the generator's element is asked -/
structure GI (X : Cx) (scope : Scope) (cenv : Env) (σ : L2.St) (H : Hp) (s : Shared) : Prop where
  sc : cenv.scope = scope
  kind : scope.kind = .function
  gl : cenv.globals = mainGlobals
  bl : cenv.builtins = builtinsNs
  glob : s.heap.Ns mainGlobals X.mg
  blt : ∃ mb, s.heap.Ns builtinsNs mb ∧ ∀ x : Str, x ≠ "__name__" → mb x = bootBuiltins x
  kin : X.K.In s.heap
  hok : HOk X.prog X.w H s.heap
  loc : ∃ m, s.heap.Ns cenv.locals m ∧ ∀ (i : Nat) (x : Str) (v : V), X.N[i]? = some x → σ[i]? = some (some v) → Vis scope x → ∃ u, RelV v u ∧ Look cenv s.heap m x u
theorem GI.keeps {X : Cx} {scope : Scope} {cenv : Env} {σ : L2.St} {H : Hp} {s s' : Shared} (I : GI X scope cenv σ H s) (k : Keeps s s') : GI X scope cenv σ H s' := by
  obtain ⟨h', tk, rfl, hk⟩ := k
  obtain ⟨m, hn, hl⟩ := I.loc
  obtain ⟨mb, hb, hb2⟩ := I.blt
  refine ⟨I.sc, I.kind, I.gl, I.bl, I.glob.keeps hk, ⟨mb, hb.keeps hk, hb2⟩, I.kin.keeps hk, I.hok.kept hk, m, hn.keeps hk, fun i x v e1 e2 e3 => ?_⟩
  obtain ⟨u, r, l⟩ := hl i x v e1 e2 e3
  refine ⟨u, r, ?_⟩
  rcases l with l | ⟨k', c, e, o, ho, hd⟩
  · exact .inl l
  · exact .inr ⟨k', c, e, o, hk _ _ ho, hd⟩
theorem keeps_rfl (s : Shared) : Keeps s s := ⟨s.heap, s.toks, rfl, fun _ _ e => e⟩
theorem keeps_tok (s : Shared) (k : Nat) : Keeps s { s with toks := k } := ⟨s.heap, k, rfl, fun _ _ e => e⟩
theorem Keeps.trans' {s s1 s2 : Shared} (a : Keeps s s1) (b : Keeps s1 s2) : Keeps s s2 := by
  obtain ⟨h1, t1, rfl, k1⟩ := a
  obtain ⟨h2, t2, rfl, k2⟩ := b
  exact ⟨h2, t2, rfl, fun c o e => k2 c o (k1 c o e)⟩
/-- an element's expression and its reading -/
def PEg (X : Cx) (scope : Scope) (e : Expr) (t : TE) : Prop :=
  ∀ (cenv : Env) (A : Around) (E : Value → Shared → Prop) (σ : L2.St) (H : Hp) (s : Shared) (Q : VK), A.handled = none → GI X scope cenv σ H s → t σ H Q →
    wpAny (model X.prog X.w) A (eval e cenv) (fun u s' => ∃ v H', GI X scope cenv σ H' s' ∧ Keeps s s' ∧ RelV v u ∧ Q v H') E s
section
variable {X : Cx} {scope : Scope}
theorem peg_var {i : Nat} {x : Str} {pos : Pos} (hN : X.N[i]? = some x := by rfl) (hv : Vis scope x := by first | exact Or.inl rfl | exact Or.inr (Or.inl rfl) | exact Or.inr (Or.inr rfl)) (hd : (x == ("__debug__" : Str)) = false := by decide) (hcd : (x == ("__classdict__" : Str)) = false := by decide) :
    PEg X scope (.Name x pos) (tVar i) := by
  intro cenv A E σ H s Q hA I h
  obtain ⟨v, e, h⟩ := h
  obtain ⟨m, hn, hl⟩ := I.loc
  obtain ⟨u, r, l⟩ := hl i x v hN e hv
  have hk' : cenv.scope.kind = .function := by rw [I.sc]; exact I.kind
  have fin : ∃ v H', GI X scope cenv σ H' s ∧ Keeps s s ∧ RelV v u ∧ Q v H' := ⟨v, H, I, keeps_rfl s, r, h⟩
  rcases l with ⟨hk, hm⟩ | ⟨hk, c, hc, hcell⟩
  · exact wpAny_Name (wpAny_loadName_local hk' hk hn hm fin) hd
  · rcases hk with hk | hk
    · exact wpAny_Name (wpAny_loadName_cell hk' hk hc hcell fin) hd
    · exact wpAny_Name (wpAny_loadName_free hk' hk hc hcell fin hcd) hd
theorem peg_int {i : Int} {j : Nat} {pos : Pos} : PEg X scope (.Constant (.int i) j pos) (tC (.int i)) := fun _ _ _ _ H s _ _ I h =>
  wpAny_Constant_int ⟨.int i, H, I.keeps (keeps_tok s _), keeps_tok s _, ⟨_, rfl⟩, h⟩
theorem peg_fld {e : Expr} {f : Str} {pos : Pos} {ta : TE} (he : PEg X scope e ta) (hb : ∀ cenv : Env, cenv.scope = scope → attributeBase e f cenv (eval e cenv) = eval e cenv) : PEg X scope (.Attribute e f pos) (tFld X.K ta f) := by
  intro cenv A E σ H s Q hA I h
  refine attr_of (hb cenv I.sc) (thn (he cenv A E σ H s _ hA I h) fun u s1 ⟨x, H1, I1, k1, rx, a, C, dx, fs, v, ex, ea, c, n, l, q⟩ => ?_)
  subst ex
  obtain rfl : u = Value.ref a := rx
  obtain ⟨mA, O, r, _, _, _⟩ := ins_get I1.hok ea
  obtain ⟨u, hu, ru⟩ := RelO.some_of (v := v) (o := mA f) (by rw [← l]; exact r f)
  exact get_map I1.kin O (c.get f) c.hd n hu (handed_of ru) ⟨v, H1, I1.keeps (keeps_tok s1 _), Keeps.trans' k1 (keeps_tok s1 _), ru, q⟩
end

/-- a generator made over a list or tuple xs, ready to be walked in the state s5: it gives g 0, g 1, .. -/
def GReady (X : Cx) (pins : List (Addr × Obj)) (σ : L2.St) (H1 : Hp) (T : List (Addr × Str)) (n : Nat) (g : Nat → V) (a : Addr) (s5 : Shared) : Prop :=
  ∃ (fp wr : List Addr) (G : Array GenState → Array GenState → Prop) (F : Nat → Value → Prop) (St : Nat → Shared → Prop),
    WalksS X.prog X.w X.A.in1 a fp wr G n F St ∧ St 0 s5 ∧ (∀ b ∈ fp, b < s5.heap.objs.size) ∧ (∀ j y, F j y → j < n ∧ RelV (g j) y) ∧
    ∀ s', Moved wr G s5 s' → ∃ H2, ExtN H1 H2 ∧ Tabs T H2 ∧ Inv X pins σ H2 s'

section
variable {X : Cx} {pins : List (Addr × Obj)} {σ : L2.St} {H H1 : Hp} {s s1 : Shared}
/-- a list or a tuple, walked -/
theorem iter_seq {A : Around} {E : Value → Shared → Prop} {Q : Value → Shared → Prop} {a : Addr} {xs : List V} (I1 : Inv X pins σ H1 s1) (hq : SqL X.K H1 a xs ∨ SqT X.K H1 a xs)
    (k : ∀ (o : Obj) (St : Nat → Heap → Prop) (its : List Value), Vals xs its → a < s1.heap.objs.size → (∀ A' : Around, A'.handled = none → Walks X.prog X.w A' s1.heap.objs.size [s1.heap.objs.size, a] [s1.heap.objs.size] its.toArray.size (fun i v => its.toArray[i]? = some v) St) → St 0 (s1.heap.push o) →
      Q (.ref s1.heap.objs.size) { s1 with heap := s1.heap.push o }) : wpAny (model X.prog X.w) A (pyIter (.ref a)) Q E s1 := by
  rcases hq with hq | hq
  · obtain ⟨its, rv, ⟨ol, nl, el, c1, c2, dl⟩, hz⟩ := I1.list hq
    have hl : s1.heap.IsList a its.toArray := ⟨ol, el, c1, nl, dl⟩
    have lt := Heap.lt_size el
    refine wpAny_pyIter_list hl (k _ _ its rv lt (fun A' hA => Walks.list hA _ a (Nat.ne_of_lt lt) _) ⟨⟨_, Heap.get?_push_size _ rfl, rfl, rfl⟩, hl.at fun o e => Heap.get?_push_of_some _ e⟩)
  · obtain ⟨its, rv, p, hz⟩ := I1.tuple hq
    have ht : s1.heap.IsTuple a its.toArray := p
    obtain ⟨ot, et, ct, nt, dt⟩ := id p
    have lt := Heap.lt_size et
    refine wpAny_pyIter_tuple ht (k _ _ its rv lt (fun A' hA => Walks.tuple hA _ a (Nat.ne_of_lt lt) _) ⟨⟨_, Heap.get?_push_size _ rfl, rfl, rfl⟩, ht.at fun o e => Heap.get?_push_of_some _ e⟩)

/-- the state between may be told anew where only generators and the like differ -/
theorem regen {Hx : Hp} {s' sx : Shared} (J : Inv X pins σ Hx sx) (e1 : sx.heap = s'.heap) (e2 : sx.os = s'.os) (hg : AllBare s'.gens) : Inv X pins σ Hx s' :=
  ⟨J.ok, e2 ▸ J.os, hg, e1 ▸ J.base, e1 ▸ J.loc, fun z c e => e1 ▸ J.cell z c e, J.free, J.freeC, fun p hp => e1 ▸ J.pin p hp, e1 ▸ J.hok, J.len⟩
/-- the code object of a generator expression: new, or found in the def's table; s1 is the state ahead of its iterator o -/
structure CodeMade (X : Cx) (pins : List (Addr × Obj)) (σ : L2.St) (H1 : Hp) (T : List (Addr × Str)) (P : Addr) (s1 : Shared) (o : Obj) (s3 : Shared) : Prop where
  ex : ∃ (h3 : Heap) (tk : Nat) (Hx : Hp), s3 = { s1 with heap := h3, toks := tk } ∧ Heap.ExtBut P (s1.heap.push o) h3 ∧ (s1.heap.push o).objs.size ≤ h3.objs.size ∧ ExtN H1 Hx ∧ Tabs T Hx ∧
    ∀ s' : Shared, (∀ b u, b ≠ P → s1.heap.get? b = some u → s'.heap.get? b = some u) → (∀ b u, s1.heap.objs.size < b → h3.get? b = some u → s'.heap.get? b = some u) → (∀ u, h3.get? P = some u → s'.heap.get? P = some u) → AllBare s'.gens → s'.os = s1.os → Inv X pins σ Hx s'
theorem code_step {T : List (Addr × Str)} {c P : Addr} {gpos : Pos} {scope : Scope} {o : Obj} {E : Value → Shared → Prop} (I1 : Inv X pins σ H1 s1) (TB : TabB X.base X.mg c P) (hcode : X.env.code = .ref c) (hmT : (P, X.env.qual ++ "<genexpr>") ∈ T)
    (hu : ∀ p ∈ T, p.1 = P → p.2 = X.env.qual ++ "<genexpr>") (hT : Tabs T H1) :
    wpAny (model X.prog X.w) X.A (genexprCode X.env gpos (X.env.qual ++ "<genexpr>") scope) (fun _ s3 => CodeMade X pins σ H1 T P s1 o s3) E { s1 with heap := s1.heap.push o } := by
  obtain ⟨ps, hP, ht, hcs⟩ := hT _ hmT
  have gP : s1.heap.get? P = some { cls := .none, data := .fields ps } := I1.hok P _ hP
  have gP' : (s1.heap.push o).get? P = some { cls := .none, data := .fields ps } := Heap.get?_push_of_some _ gP
  have cd : PySem.W.CodeHd (s1.heap.push o) c P := TB.code.keeps fun b u e => Heap.get?_push_of_some _ (I1.bk b u e)
  have psz : (s1.heap.push o).objs.size = s1.heap.objs.size + 1 := Heap.size_push ..
  cases hf : codeAmong gpos ps.toList with
  | some cv =>
    refine wpAny_genexprCode_hit hcode (cd.code gP' ht) hf ⟨s1.heap.push o, s1.toks, H1, rfl, Heap.ExtBut.refl _ _, Nat.le_refl _, ExtN.refl H1, hT, fun s' k1 k2 k3 hg hos => ?_⟩
    refine regen (I1.kept (h' := s'.heap) (t' := s'.toks) fun b u e => ?_) rfl hos.symm hg
    by_cases hb : b = P
    · subst hb
      exact k3 u (Heap.get?_push_of_some _ e)
    · exact k1 b u hb e
  | none =>
    refine wpAny_genexprCodeX hcode (cd.code gP' ht) (cd.tab gP') hf fun c' h' tk hx hge hlt hco' hrec htab' _ => ?_
    obtain ⟨c2, oc, vs2, t2, e2, hoc, hd2, hv2⟩ := hrec
    cases e2
    have gt : s1.heap.objs.size < c' := by
      rw [psz] at hge
      exact hge
    have nC : H1 c' = none := I1.hok.fresh (Nat.le_of_lt gt)
    have nPc : P ≠ c' := ne_of_none hP nC
    have hE : ExtN H1 (upd (upd H1 P (.tbl (ps ++ #[rawInt gpos.line, rawInt gpos.col, .ref c']))) c' (CodeO c' (X.env.qual ++ "<genexpr>"))) := fun b u e n => by
      have n1 : b ≠ P := fun z => n ps (by rw [z, hP] at e; exact (Option.some.inj e).symm)
      rw [upd_ne (ne_of_none e nC), upd_ne n1, e]
    have eL : (ps ++ #[rawInt gpos.line, rawInt gpos.col, .ref c']).toList = ps.toList ++ [rawInt gpos.line, rawInt gpos.col, .ref c'] := by simp
    have htr : TriplesOk (ps ++ #[rawInt gpos.line, rawInt gpos.col, .ref c']).toList := by
      rw [eL]
      exact PySem.TriplesOk_snoc _ _ _ _ ht
    have hTn : Tabs T (upd (upd H1 P (.tbl (ps ++ #[rawInt gpos.line, rawInt gpos.col, .ref c']))) c' (CodeO c' (X.env.qual ++ "<genexpr>"))) := fun p hp => by
      obtain ⟨p1, p2⟩ := p
      have told : ∀ {q : Str} {cv : Value}, (∃ c0, cv = .ref c0 ∧ H1 c0 = some (CodeO c0 q)) → ∃ c0, cv = .ref c0 ∧ upd (upd H1 P (.tbl (ps ++ #[rawInt gpos.line, rawInt gpos.col, .ref c']))) c' (CodeO c' (X.env.qual ++ "<genexpr>")) c0 = some (CodeO c0 q) :=
        fun ⟨c0, z1, z2⟩ => ⟨c0, z1, hE c0 _ z2 codeO_ne⟩
      by_cases hb : p1 = P
      · obtain rfl : p2 = X.env.qual ++ "<genexpr>" := hu _ hp hb
        subst hb
        refine ⟨_, by rw [upd_ne nPc, upd_same], htr, fun pp cv hcv => ?_⟩
        rw [eL] at hcv
        rcases among_app _ ht hcv with z | z
        · exact told (hcs pp cv z)
        · exact ⟨c', z, upd_same⟩
      · obtain ⟨ps', a1, a2, a3⟩ := hT _ hp
        exact ⟨ps', by rw [upd_ne (ne_of_none a1 nC), upd_ne hb, a1], a2, fun pp cv hcv => told (a3 pp cv hcv)⟩
    refine ⟨h', tk, _, rfl, hx, Nat.le_trans hge (Nat.le_of_lt hlt), hE, hTn, fun s' k1 k2 k3 hg hos => ?_⟩
    exact regen (inv_table (h' := s'.heap) (t' := s'.toks) (more := #[rawInt gpos.line, rawInt gpos.col, .ref c']) I1 hP k1 (k3 _ htab'.2) (Nat.le_of_lt gt) ⟨oc, vs2, t2, k2 _ _ gt hoc, hd2, hv2⟩) rfl hos.symm hg
/-- captured names: the cells of the generator are the def's -/
theorem clo_back {cells : List (Str × Addr)} {names : List (Str × NameKind)} (hfree : ∀ y ∈ names, y.2 = .free → ∃ c, cells.lookup y.1 = some c) {z : Str} {c : Addr} (e : (cloFrom cells names []).lookup z = some c) : cells.lookup z = some c := by
  rcases cloFrom_mem (PySem.mem_of_lookup e) with hm | ⟨h1, h2⟩
  · cases hm
  · obtain ⟨c1, hc⟩ := hfree _ h1 rfl
    have hc : cells.lookup z = some c1 := hc
    rw [h2, hc]
    rfl
/-- the element's context, at a turn of the generator -/
theorem gi_turn {scope : Scope} {x : Str} {ix : Nat} {P h3sz : Addr} {code : Value} {ps : Array Value} {s₂ : Shared} {y : V} {v : Value} {m₂ : Str → Option Value} (I1 : Inv X pins σ H1 s1) (S : GsOk X.env.scope scope x) (hN : X.N.Nodup) (hix : X.N[ix]? = some x) (hdot : (".0" : Str) ∉ X.N)
    (hP : H1 P = some (.tbl ps)) (keep2 : ∀ b u, b ≠ P → s1.heap.get? b = some u → s₂.heap.get? b = some u) (hn : s₂.heap.Ns h3sz m₂) (hm : m₂ x = some v) (ry : RelV y v) :
    GI X scope (genEnv scope (cloFrom X.env.cells scope.names []) h3sz code builtinsNs X.env) (σ.set ix (some y)) (noT H1) s₂ := by
  have nP : ∀ {b u}, H1 b = some u → (∀ q, u ≠ .tbl q) → b ≠ P := fun {b u} e q z => by
    subst z
    rw [hP] at e
    exact q ps (Option.some.inj e).symm
  have nN : ∀ {b}, H1 b = none → b ≠ P := fun {b} e z => by
    subst z
    rw [hP] at e
    cases e
  have hfree : ∀ y ∈ scope.names, y.2 = .free → ∃ c, X.env.cells.lookup y.1 = some c := fun y hy e => I1.ok.has _ (S.free y hy e)
  have kb : ∀ b u, X.base.get? b = some u → s₂.heap.get? b = some u := fun b u e => keep2 b u (nN (I1.bs b u e).2) (I1.bk b u e)
  obtain ⟨mb, hb1, hb2⟩ := I1.mod.blt
  refine ⟨rfl, S.kind, I1.ok.glob, rfl, I1.mod.glob.keeps kb, ⟨mb, hb1.keeps kb, hb2⟩, I1.mod.kin.keeps kb, fun b u e => ?_, m₂, hn, fun j z w' h1 h2 h3' => ?_⟩
  · obtain ⟨e', nt⟩ := of_noT e
    refine (I1.hok b u e').stay (fun d w' hd q => keep2 d w' (hd.elim (fun z => ?_) fun z => nP z fun _ z => by cases z) q) (fun d q => noT_of q fun _ z => by cases z) fun d ys q => noT_of q fun _ z => by cases z
    rw [z]
    exact nP e' nt
  · rcases h3' with k1 | k1 | k1
    · have hz : z = ".0" ∨ z = x := S.own _ (PySem.mem_of_lookup k1) rfl
      rcases hz with rfl | rfl
      · exact absurd (List.mem_of_getElem? h1) hdot
      · obtain rfl : j = ix := nodup_ix hN h1 hix
        rw [List.getElem?_set_self (by rw [I1.len]; exact (List.getElem?_eq_some_iff.mp hix).1)] at h2
        cases h2
        exact ⟨v, ry, .inl ⟨k1, hm⟩⟩
    · exact absurd rfl (S.cell _ (PySem.mem_of_lookup k1))
    · have hjx : j ≠ ix := fun ej => by
        subst ej
        rw [hix] at h1
        cases h1
        rw [S.loc] at k1
        cases k1
      rw [List.getElem?_set_ne (Ne.symm hjx)] at h2
      have kk : X.env.scope.names.lookup z = some .cell ∨ X.env.scope.names.lookup z = some .free := S.free _ (PySem.mem_of_lookup k1) rfl
      obtain ⟨m, hn1, hl1⟩ := I1.loc
      obtain ⟨u, r, l⟩ := hl1 j z w' h1 h2 (.inr kk)
      obtain ⟨c2, hc2⟩ : ∃ c, (cloFrom X.env.cells scope.names []).lookup z = some c := mem_lookup (cloFrom_has (cells := X.env.cells) (acc := []) (PySem.mem_of_lookup k1))
      refine ⟨u, r, .inr ⟨.inr k1, c2, hc2, ?_⟩⟩
      have cb := clo_back hfree hc2
      rcases l with ⟨k', _⟩ | ⟨_, c3, e', oc, ho, hd⟩
      · have k' : X.env.scope.names.lookup z = some .local := k'
        rcases kk with k2 | k2 <;> rw [k2] at k' <;> cases k'
      · rw [cb] at e'
        cases e'
        exact ⟨oc, keep2 _ _ (nN (I1.freeC z _ cb)) ho, hd⟩
/-- the generator is made -/
theorem gen_seq {T : List (Addr × Str)} {c P : Addr} {elt iter : Expr} {x : Str} {px gpos : Pos} {scope : Scope} {ix : Nat} {te tel : TE} {k : Nat} {Q' : Value → Shared → Prop} {R : Addr → List V → (Nat → V) → Hp → Prop}
    (hr : Room k X.A) (TB : TabB X.base X.mg c P) (hcode : X.env.code = .ref c) (hmT : (P, X.env.qual ++ "<genexpr>") ∈ T) (hu : ∀ p ∈ T, p.1 = P → p.2 = X.env.qual ++ "<genexpr>")
    (S : GsOk X.env.scope scope x) (hN : X.N.Nodup) (hix : X.N[ix]? = some x) (hdot : (".0" : Str) ∉ X.N) (hi : PE X iter te) (hel : PEg X scope elt tel)
    (hs : ∀ v, genFold iter X.env v = pure v) (I : Inv X pins σ H s)
    {HH : VK} (h : te σ H HH) (hH : ∀ v H1, HH v H1 → ∃ (a : Addr) (xs : List V) (g : Nat → V), v = .ref a ∧ (SqL X.K H1 a xs ∨ SqT X.K H1 a xs) ∧ Tabs T H1 ∧ (∀ (i : Nat) (y : V) (Hg : Hp), xs[i]? = some y → ExtN H1 Hg → tel (σ.set ix (some y)) Hg fun v _ => v = g i) ∧ R a xs g H1)
    (hQ : ∀ a xs g H1 gg s5, R a xs g H1 → GReady X pins σ H1 T xs.length g gg s5 → Q' (.ref gg) s5) :
    wpAny (model X.prog X.w) X.A (eval (.GeneratorExp elt [⟨.Name x px, iter, [], 0⟩] scope gpos) X.env) Q' X.xe s := by
  refine wpAny_GeneratorExp_walksQ hr.hd S.co (closure_ok fun y hy e => I.ok.has _ (S.free y hy e)) S.cell S.dot S.loc S.kind (by have := hr.dp; omega) ?_ hs
  refine thn (hi.run pins s σ H _ I h) fun xv s1 ⟨v, H1, I1, r1, q1⟩ => ?_
  obtain ⟨a, xs, g, rfl, hq, hT, hE, q1⟩ := hH v H1 q1
  obtain rfl : xv = Value.ref a := r1
  refine iter_seq I1 hq fun o St its rv halt W hst => ⟨I1.nolimit.push o, wpAny_mono (code_step (gpos := gpos) (scope := scope) (o := o) I1 TB hcode hmT hu hT) (fun code s3 cm => ?_) fun _ _ e => e⟩
  obtain ⟨h3, tk, Hx, rfl, hx, hsz, hEx, hTx, hInv⟩ := cm.ex
  obtain ⟨ps, hP, _, _⟩ := hT _ hmT
  have gP : s1.heap.get? P = some { cls := .none, data := .fields ps } := I1.hok P _ hP
  have psz : (s1.heap.push o).objs.size = s1.heap.objs.size + 1 := Heap.size_push ..
  have lt3 : s1.heap.objs.size < h3.objs.size := by
    rw [psz] at hsz
    exact hsz
  have le3 : s1.heap.objs.size ≤ h3.objs.size := Nat.le_of_lt lt3
  have haP : a ≠ P := by
    rintro rfl
    rcases hq with hq | hq
    · obtain ⟨_, _, ⟨_, _, el, _, _, dl⟩, _⟩ := I1.list hq
      rw [gP] at el
      cases el
      cases dl
    · obtain ⟨_, _, ⟨_, et, _, _, dt⟩, _⟩ := I1.tuple hq
      rw [gP] at et
      cases et
      cases dt
  have hlen : its.toArray.size = xs.length := by rw [List.size_toArray, rv.length]
  have keep3 : ∀ b u, b ≠ P → s1.heap.get? b = some u → h3.get? b = some u := fun b u hb e => hx b u hb (Heap.get?_push_of_some _ e)
  obtain ⟨bm, ob, e1, e2, e3, e4, e5, e6, e7, e8⟩ := TB.bm
  have hcP : cStatics ≠ P := by
    rintro rfl
    obtain ⟨_, ⟨o', _, _, ho, hd, _⟩, _⟩ := I1.nolimit
    rw [gP] at ho
    cases ho
    cases hd
  have hcl : cStatics < s1.heap.objs.size := let ⟨_, hns, _⟩ := I1.nolimit; hns.lt
  refine wpAny_builtinsFor (m := X.mg) (by rw [I1.ok.glob]; exact ((I1.mod.glob.keeps I1.bk).push o).extBut hx TB.gP) e1 e2 (keep3 _ _ e4 (I1.bk _ _ e5)) e6 e7 e8 ?_
  have memfp : ∀ {b}, b ∈ [s1.heap.objs.size, a] → b = s1.heap.objs.size ∨ b = a := fun {b} hb => by simpa using hb
  have memwr : ∀ {b}, b ∈ [s1.heap.objs.size] → b = s1.heap.objs.size := fun {b} hb => by simpa using hb
  refine ⟨s1.heap.objs.size, [s1.heap.objs.size, a], [s1.heap.objs.size], xs.length, (fun i v => its.toArray[i]? = some v), St, (fun _ => true), (fun i y => i < xs.length ∧ RelV (g i) y), rfl, hlen ▸ W, ?_, fun b hb => ?_, (I1.nolimit.push o).extBut hx hcP, fun z => Nat.ne_of_lt hcl (memwr z), fun href hhref => ?_, fun gg h5 tk5 gs hgb hag hsz5 hk5 W5 hat => ?_⟩
  · refine (W X.A hr.hd).frame _ _ _ hst fun b hb u e => hx b u ?_ e
    rcases memfp hb with rfl | rfl
    · exact fun z => Nat.lt_irrefl _ (z ▸ Heap.lt_size gP)
    · exact haP
  · rcases memfp hb with rfl | rfl
    · exact lt3
    · exact Nat.lt_of_lt_of_le halt le3
  · refine ⟨fun A' E' i v s₂ m₂ hA hPv hn hm hk => ?_, fun A' E' i v s₂ m₂ hA hPv hp hn hm hk => ?_⟩
    · simp only [List.forIn_nil]
      exact wpAny_pure ⟨rfl, keeps_rfl _⟩
    · have hi1 : its[i]? = some v := by rw [← List.getElem?_toArray]; exact hPv
      obtain ⟨y, hy, ry⟩ : ∃ y, xs[i]? = some y ∧ RelV y v := by
        have hix : i < xs.length := by rw [rv.length]; exact (List.getElem?_eq_some_iff.mp hi1).1
        obtain ⟨u, z1, z2⟩ := rv.get (List.getElem?_eq_getElem hix)
        rw [hi1] at z1
        cases z1
        exact ⟨_, List.getElem?_eq_getElem hix, z2⟩
      have keep2 : ∀ b u, b ≠ P → s1.heap.get? b = some u → s₂.heap.get? b = some u := fun b u hb e =>
        hk b (List.mem_range.mpr (Nat.lt_of_lt_of_le (Heap.lt_size e) le3)) (fun z => Nat.ne_of_lt (Heap.lt_size e) (memwr z)) u (hhref b u (keep3 b u hb e))
      have G2 := gi_turn (code := code) (h3sz := h3.objs.size) I1 S hN hix hdot hP keep2 hn hm ry
      refine wpAny_mono (hel _ A' E' (σ.set ix (some y)) (noT H1) s₂ _ hA G2 (hE i y _ hy extN_noT)) (fun u s3 ⟨v', H', _, k3, rv3, q3⟩ => ?_) fun _ _ e => e
      subst q3
      exact ⟨⟨(List.getElem?_eq_some_iff.mp hy).1, rv3⟩, k3⟩
  · have hag' : h3.objs.size < gg := hag
    have hpass : passing (fun _ => true) xs.length 0 = List.range xs.length := by simp [passing]
    rw [hpass, List.length_range] at W5
    have memW : ∀ {b}, b ∈ h3.objs.size :: [s1.heap.objs.size] → b = h3.objs.size ∨ b = s1.heap.objs.size := fun {b} hb => by simpa using hb
    refine hQ a xs g H1 gg _ q1 ⟨_, _, _, _, _, W5.in4_1, hat, fun b hb => ?_, fun j y ⟨i, hij, hF⟩ => ?_, fun s' hm => ⟨Hx, hEx, hTx, hInv s' (fun b u hb e => hm.heap b u (fun z => ?_) (hk5 b u (keep3 b u hb e))) (fun b u hb e => hm.heap b u (fun z => ?_) (hk5 b u e)) (fun u e => hm.heap P u (fun z => ?_) (hk5 P u e)) (AllBare.movedS (I1.bare.push hgb) hm) hm.os⟩⟩
    · show b < h5.objs.size
      rw [hsz5]
      rcases List.mem_cons.mp hb with rfl | z
      · exact Nat.lt_succ_self _
      · refine Nat.lt_succ_of_le (Nat.le_of_lt ?_)
        rcases List.mem_cons.mp z with rfl | z
        · exact hag'
        · exact Nat.lt_trans (List.mem_range.mp z) hag'
    · obtain ⟨hj, ej⟩ := List.getElem?_eq_some_iff.mp hij
      rw [List.getElem_range] at ej
      subst ej
      exact hF
    · have lt1 := Heap.lt_size e
      rcases memW z with rfl | rfl
      · exact Nat.lt_irrefl _ (Nat.lt_trans lt3 lt1)
      · exact Nat.lt_irrefl _ lt1
    · rcases memW z with rfl | rfl
      · exact Nat.lt_irrefl _ (Heap.lt_size e)
      · exact Nat.lt_irrefl _ hb
    · have lt1 := Heap.lt_size gP
      rcases memW z with rfl | rfl
      · exact Nat.lt_irrefl _ (Nat.lt_trans lt3 lt1)
      · exact Nat.lt_irrefl _ lt1
end
/-- what a generator expression's reading asks: its items by f (mk: as values), then what is wanted -/
def tGen {α : Type} (K : PySem.W.Frag) (T : List (Addr × Str)) (ix : Nat) (te tel : TE) (mk : α → V) (R : Nat → (Nat → α) → Hp → VK → Prop) : TE := fun σ H Q => te σ H fun v H1 =>
  ∃ (a : Addr) (xs : List V) (f : Nat → α), v = .ref a ∧ (SqL K H1 a xs ∨ SqT K H1 a xs) ∧ Tabs T H1 ∧ (∀ (i : Nat) (y : V) (Hg : Hp), xs[i]? = some y → ExtN H1 Hg → tel (σ.set ix (some y)) Hg fun v _ => v = mk (f i)) ∧
    ∀ H2, ExtN H1 H2 → Tabs T H2 → R xs.length f H2 Q
abbrev tSumG (K : PySem.W.Frag) (T : List (Addr × Str)) (ix : Nat) (te tel : TE) : TE := tGen K T ix te tel V.int fun n f H Q => Q (.int (preSum f n)) H
abbrev tAnyG (K : PySem.W.Frag) (T : List (Addr × Str)) (ix : Nat) (te tel : TE) : TE := tGen K T ix te tel V.bl fun n f H Q => Q (.bl ((List.range n).any f)) H
abbrev tTupG (K : PySem.W.Frag) (T : List (Addr × Str)) (ix : Nat) (te tel : TE) : TE := tGen K T ix te tel id fun n f H Q => n ≤ sizeLine ∧ ∀ p, H p = none → Q (.ref p) (upd H p (.tup ((List.range n).map f)))
section
variable {X : Cx} {T : List (Addr × Str)} {c P : Addr} {elt iter : Expr} {x : Str} {px p pos gpos : Pos} {scope : Scope} {ix : Nat} {te tel : TE} {k : Nat}
theorem boot_sum' : bootBuiltins "sum" = some (.builtin "sum") := by decide +kernel
theorem pe_sumG (hr : Room k X.A) (TB : TabB X.base X.mg c P) (hcode : X.env.code = .ref c) (hmT : (P, X.env.qual ++ "<genexpr>") ∈ T) (hu : ∀ p ∈ T, p.1 = P → p.2 = X.env.qual ++ "<genexpr>")
    (hm : X.mg "sum" = none) (hi : PE X iter te) (hel : PEg X scope elt tel) (hix : X.N[ix]? = some x) (S : gsB X.env.scope scope X.N x = true) (hN : X.N.Nodup) (hdot : (".0" : Str) ∉ X.N) (hg : Gl X "sum" := by rfl)
    (hs : ∀ v, genFold iter X.env v = pure v := by intro _; rfl)
    (he : starEach [.GeneratorExp elt [⟨.Name x px, iter, [], 0⟩] scope gpos] X.env = (false, eval (.GeneratorExp elt [⟨.Name x px, iter, [], 0⟩] scope gpos) X.env) :: starEach [] X.env := by rfl) :
    PE X (.Call (.Name "sum" p) [.GeneratorExp elt [⟨.Name x px, iter, [], 0⟩] scope gpos] [] pos) (tSumG X.K T ix te tel) := by
  refine ⟨fun pins s σ H Q I h => ?_⟩
  refine wpAny_Call_Name_kw (ld_blt I hg hm boot_sum' ?_)
  refine PyProof.Rows.callWith_builtin1 ?_ he (by rfl)
  rw [he]
  show wpAny _ _ (spliced ((false, eval (.GeneratorExp elt [⟨.Name x px, iter, [], 0⟩] scope gpos) X.env) :: backTo pos (starEach [] X.env))) _ _ s
  refine Calls.spliced_cons (gen_seq (R := fun a xs g H1 => ∃ f : Nat → Int, (∀ i, g i = .int (f i)) ∧ ∀ H2, ExtN H1 H2 → Tabs T H2 → Q (.int (preSum f xs.length)) H2) hr TB hcode hmT hu (gs_by S) hN hix hdot hi hel hs I h (fun v H1 ⟨a, xs, f, e1, e2, e3, e4, e5⟩ => ⟨a, xs, fun i => .int (f i), e1, e2, e3, e4, f, fun _ => rfl, e5⟩) fun a xs g H1 gg s5 hR hG => ?_)
  · obtain ⟨fp, wr, G, F, St, W, hst, hfp, hF, hI⟩ := hG
    obtain ⟨f, hf, hR⟩ := hR
    refine Calls.spliced_nil ?_
    refine call_sum_walkAnyS (W.self 0 _ _ _ hst ⟨gg, fp, wr, G, _, F, St, f, rfl, W, hst, hfp, fun i v hv => ?_, fun s' t' hmv => ?_⟩)
    · obtain ⟨_, r⟩ := hF i v hv
      rw [hf] at r
      exact r
    · obtain ⟨H2, hE, hT, J⟩ := hI s' hmv
      exact ⟨.int _, H2, J, ⟨_, rfl⟩, hR H2 hE hT⟩
theorem pe_anyG (hr : Room k X.A) (TB : TabB X.base X.mg c P) (hcode : X.env.code = .ref c) (hmT : (P, X.env.qual ++ "<genexpr>") ∈ T) (hu : ∀ p ∈ T, p.1 = P → p.2 = X.env.qual ++ "<genexpr>")
    (hm : X.mg "any" = none) (hi : PE X iter te) (hel : PEg X scope elt tel) (hix : X.N[ix]? = some x) (S : gsB X.env.scope scope X.N x = true) (hN : X.N.Nodup) (hdot : (".0" : Str) ∉ X.N) (hg : Gl X "any" := by rfl)
    (hs : ∀ v, genFold iter X.env v = pure v := by intro _; rfl)
    (he : starEach [.GeneratorExp elt [⟨.Name x px, iter, [], 0⟩] scope gpos] X.env = (false, eval (.GeneratorExp elt [⟨.Name x px, iter, [], 0⟩] scope gpos) X.env) :: starEach [] X.env := by rfl) :
    PE X (.Call (.Name "any" p) [.GeneratorExp elt [⟨.Name x px, iter, [], 0⟩] scope gpos] [] pos) (tAnyG X.K T ix te tel) := by
  refine ⟨fun pins s σ H Q I h => ?_⟩
  refine wpAny_Call_Name_kw (ld_blt I hg hm boot_any ?_)
  refine PyProof.Rows.callWith_builtin1 ?_ he (by rfl)
  rw [he]
  show wpAny _ _ (spliced ((false, eval (.GeneratorExp elt [⟨.Name x px, iter, [], 0⟩] scope gpos) X.env) :: backTo pos (starEach [] X.env))) _ _ s
  refine Calls.spliced_cons (gen_seq (R := fun a xs g H1 => ∃ f : Nat → Bool, (∀ i, g i = .bl (f i)) ∧ ∀ H2, ExtN H1 H2 → Tabs T H2 → Q (.bl ((List.range xs.length).any f)) H2) hr TB hcode hmT hu (gs_by S) hN hix hdot hi hel hs I h (fun v H1 ⟨a, xs, f, e1, e2, e3, e4, e5⟩ => ⟨a, xs, fun i => .bl (f i), e1, e2, e3, e4, f, fun _ => rfl, e5⟩) fun a xs g H1 gg s5 hR hG => ?_)
  · obtain ⟨fp, wr, G, F, St, W, hst, hfp, hF, hI⟩ := hG
    obtain ⟨f, hf, hR⟩ := hR
    refine Calls.spliced_nil ?_
    refine call_any_walkS (W.self 0 _ _ _ hst ⟨gg, fp, wr, G, _, F, St, f, rfl, W, hst, fun i v s' Q' E' hv hq => ?_, fun s' hmv => ?_⟩)
    · obtain ⟨_, r⟩ := hF i v hv
      rw [hf] at r
      obtain rfl : v = Value.bool (f i) := r
      exact wpAny_truthy_bool hq
    · obtain ⟨H2, hE, hT, J⟩ := hI s' hmv
      exact ⟨.bl _, H2, J, rfl, hR H2 hE hT⟩
end
end Cn
namespace Cn
open PySem PySem.Spec PyProof.Rows L2 LamX
/-- a global int -/
theorem pe_gint {X : Cx} {x : Str} {i : Int} {p : Pos} (h : ∃ t, X.mg x = some (.int i t)) (hg : Gl X x := by rfl) (hdb : (x == ("__debug__" : Str)) = false := by decide) : PE X (.Name x p) (tC (.int i)) := by
  obtain ⟨t, ht⟩ := h
  exact pe_glob hg ht (v := .int i) ⟨_, rfl⟩ hdb
/-! ### a < b < c < .. as a test -/
/-- the links behind the value x -/
def PCh (X : Cx) (ops : List CmpOp) (es : List Expr) (t : V → TT) : Prop :=
  ∀ (pos : Pos) (pins : List (Addr × Obj)) (s : Shared) (σ : L2.St) (H : Hp) (x : V) (v : Value) (Q : Bool → Hp → Prop), Inv X pins σ H s → RelV x v → t x σ H Q → wpAny (model X.prog X.w) X.A (testChain pos v ops (evalEach es X.env)) (TP X pins σ Q) X.xe s
def tLast (r : R2) (tb : TE) (x : V) : TT := fun σ H Q => tb σ H fun y H1 => r x y H1 fun z H2 => ∃ k, z = .bl k ∧ Q k H2
def tLink (r : R2) (tb : TE) (t : V → TT) (x : V) : TT := fun σ H Q => tb σ H fun y H1 => r x y H1 fun z H2 => ∃ k, z = .bl k ∧ if k = true then t y σ H2 Q else Q false H2
section
variable {X : Cx} {op op' : CmpOp} {ops : List CmpOp} {a b c : Expr} {es : List Expr} {r : R2} {ta tb : TE} {t : V → TT} {pos : Pos}
theorem ch_last (ho : OpR X (compareOp op) r) (hb : PE X b tb) : PCh X [op] [b] (tLast r tb) := by
  intro pos pins s σ H x v Q I rx h
  refine test_last (thn (hb.run pins s σ H _ I h) fun u s1 ⟨y, H1, I1, r1, q1⟩ => thn (ho pins s1 σ H1 x y v u _ I1 rx r1 q1) fun d s2 ⟨z, H2, I2, r2, k, e, q2⟩ => ?_)
  subst e
  cases r2
  exact wpAny_truthy_bool ⟨H2, I2, q2⟩
theorem ch_link (ho : OpR X (compareOp op) r) (hb : PE X b tb) (hr : PCh X (op' :: ops) (c :: es) t) : PCh X (op :: op' :: ops) (b :: c :: es) (tLink r tb t) := by
  intro pos pins s σ H x v Q I rx h
  refine test_link (thn (hb.run pins s σ H _ I h) fun u s1 ⟨y, H1, I1, r1, q1⟩ => thn (ho pins s1 σ H1 x y v u _ I1 rx r1 q1) fun d s2 ⟨z, H2, I2, r2, k, e, q2⟩ => ?_)
  subst e
  cases r2
  refine wpAny_truthy_bool ?_
  cases k with
  | false => exact ite_ff ⟨H2, I2, q2⟩
  | true => exact ite_tt (hr pos pins s2 σ H2 y u Q I2 r1 q2)
theorem pt_ch (ha : PE X a ta) (h : PCh X (op :: op' :: ops) (b :: c :: es) t) (hm : lastMarks (op :: op' :: ops) (b :: c :: es) = false := by with_unfolding_all rfl) :
    PT X (.Compare a (op :: op' :: ops) (b :: c :: es) pos) (fun σ H Q => ta σ H fun x H1 => t x σ H1 Q) := by
  refine ⟨fun pins s σ H Q I hw => ?_⟩
  exact isTrue_chain (thn (ha.run pins s σ H _ I hw) fun v s1 ⟨x, H1, I1, r1, q1⟩ => h _ pins s1 σ H1 x v Q I1 r1 q1) hm
end
/-! ### a, b, c = x, y, z -/
def tPar3 (i j l : Nat) (ta : TA) : TS := fun D σ H => ta σ H fun vs H1 => ∃ v w u, vs = [v, w, u] ∧ D.nx (((σ.set i (some v)).set j (some w)).set l (some u)) H1
theorem ps_par3 {X : Cx} {i j l : Nat} {x y z : Str} {a b c : Expr} {ta : TA} {px py pz pt pos : Pos} {kt k2 pt2} (hc : X.calm = true) (hN : X.N.Nodup) (hi : X.N[i]? = some x) (hj : X.N[j]? = some y) (hl : X.N[l]? = some z) (hij : i ≠ j) (hil : i ≠ l) (hjl : j ≠ l)
    (hx : X.env.scope.names.lookup x = some .local) (hy : X.env.scope.names.lookup y = some .local) (hz : X.env.scope.names.lookup z = some .local) (ha : PA X [a, b, c] ta)
    (hw : swappedStores [.Tuple [.Name x px, .Name y py, .Name z pz] kt pt] (.Tuple [a, b, c] k2 pt2) X.env = pure (some [x, y, z]))
    (hs : swapsWithSole [.Tuple [.Name x px, .Name y py, .Name z pz] kt pt] (.Tuple [a, b, c] k2 pt2) pos.line X.env = pure false := by rfl) :
    PS X (.Assign [.Tuple [.Name x px, .Name y py, .Name z pz] kt pt] (.Tuple [a, b, c] k2 pt2) pos) (tPar3 i j l ta) := by
  refine ⟨fun pins s σ H D I h => ?_⟩
  rw [exec_Assign_arm]
  refine wpAny_bind (wpAny_standAt ?_)
  rw [hs]
  refine wpAny_bind (wpAny_pure ?_)
  rw [if_neg (by decide)]
  refine wpAny_bind (Tuple_ (thn (ha.run _ pins s σ H _ I h) fun us s1 ⟨vs, H1, I1, r1, q1⟩ => ?_))
  obtain ⟨v, w, u, e1, q1⟩ := q1
  subst e1
  obtain ⟨u1, u2, u3, rfl, rv, rw', ru⟩ : ∃ u1 u2 u3, us = [u1, u2, u3] ∧ RelV v u1 ∧ RelV w u2 ∧ RelV u u3 := by
    cases r1 with
    | cons p q =>
      cases q with
      | cons p' q' =>
        cases q' with
        | cons p'' q'' =>
          cases q''
          exact ⟨_, _, _, rfl, p, p', p''⟩
  refine wpAny_newObj_type ?_ (by show 3 ≤ sizeLine; decide)
  have I2 : Inv X pins σ H1 { s1 with heap := s1.heap.push { cls := .type "tuple", data := .seq [u1, u2, u3].toArray } } := I1.kept (t' := s1.toks) fun b o e => Heap.get?_push_of_some _ e
  rw [hw]
  refine wpAny_bind (wpAny_pure ?_)
  show wpAny (model X.prog X.w) X.A (do rule "assign.swapped-stores"; let items ← unpackItems (.ref s1.heap.objs.size) 3 none; assignInOrder [fun v => bindName X.env z v, fun v => bindName X.env y v, fun v => bindName X.env x v] items.reverse; pure Flow.next) _ _ _
  refine wpAny_bind (wpAny_rule (wpAny_bind (unpackItems_tuple (items := #[u1, u2, u3]) (I.ok.hd hc) (IsTup.new s1.heap _) fun h' hx' => ?_)))
  have I3 := I2.kept (h' := h') (t' := s1.toks) fun b o e => hx' b o (Nat.ne_of_lt (Heap.lt_size e)) e
  show wpAny _ _ (assignInOrder [fun v => bindName X.env z v, fun v => bindName X.env y v, fun v => bindName X.env x v] [u3, u2, u1] >>= fun _ => pure Flow.next) _ _ _
  refine wpAny_bind (assignInOrder_cons (wpAny_bindName (store_ok I3 hN hl (.inl hz) ru (fun s2 I4 => ?_) (.inr hz))))
  refine assignInOrder_cons (wpAny_bindName (store_ok I4 hN hj (.inl hy) rw' (fun s3 I5 => ?_) (.inr hy)))
  refine assignInOrder_cons (wpAny_bindName (store_ok I5 hN hi (.inl hx) rv (fun s4 I6 => assignInOrder_nil (wpAny_pure ?_)) (.inr hx)))
  have e : ((σ.set l (some u)).set j (some w)).set i (some v) = ((σ.set i (some v)).set j (some w)).set l (some u) := by
    rw [List.set_comm _ _ (Ne.symm hjl), List.set_comm _ _ (Ne.symm hil), List.set_comm _ _ (Ne.symm hij)]
  rw [e] at I6
  exact ⟨_, H1, I6, q1⟩
/-! ### == with an empty tuple or list -/
/-- a tuple == () -/
def rEqT0 (K : PySem.W.Frag) : R2 := fun x y H Q => ∃ a b xs, x = .ref a ∧ y = .ref b ∧ SqT K H a xs ∧ SqT K H b [] ∧ Q (.bl xs.isEmpty) H
theorem op_eqT0 {X : Cx} (hu : X.A.units < cLine) : OpR X (compareOp .Eq) (rEqT0 X.K) := by
  intro pins s σ H x y v u Q I rx ry h
  obtain ⟨a, b, xs, rfl, rfl, h1, h2, q⟩ := h
  obtain rfl : v = Value.ref a := rx
  obtain rfl : u = Value.ref b := ry
  obtain ⟨its, rv, p, _⟩ := I.tuple h1
  obtain ⟨its2, rv2, p2, _⟩ := I.tuple h2
  have e2 : its2 = [] := by cases rv2; rfl
  subst e2
  refine PySem.SeqAt.eq_tupleAt (e := fun _ => true) (show s.heap.IsTuple a its.toArray from p) (show s.heap.IsTuple b ([] : List Value).toArray from p2) hu (fun j h3 h4 => absurd h4 (by simp)) ⟨.bl _, H, I, ?_, q⟩
  show Value.bool _ = Value.bool _
  cases rv <;> simp
/-! ### frames: what a call leaves as it was -/
/-- all that stood stands but what is in S (and the tables, which only grow) -/
structure Fr (T : List (Addr × Str)) (S : List Addr) (H H' : Hp) : Prop where
  keep : ∀ b o, H b = some o → (∀ ps, o ≠ .tbl ps) → b ∉ S → H' b = some o
  tab : Tabs T H → Tabs T H'
section
variable {T : List (Addr × Str)} {S S' : List Addr} {H H1 H2 : Hp} {a p : Addr} {o u : HO}
theorem Fr.refl : Fr T S H H := ⟨fun _ _ h _ _ => h, fun h => h⟩
theorem Fr.mono (f : Fr T S H H1) (h : ∀ b ∈ S, b ∈ S') : Fr T S' H H1 := ⟨fun b o e n hb => f.keep b o e n fun z => hb (h b z), f.tab⟩
theorem Fr.trans (f : Fr T S H H1) (g : Fr T S H1 H2) : Fr T S H H2 := ⟨fun b o e n hb => g.keep b o (f.keep b o e n hb) n hb, fun h => g.tab (f.tab h)⟩
/-- behind a first frame also what is new may be written -/
theorem Fr.transN (f : Fr T S H H1) (g : Fr T S' H1 H2) (h : ∀ b ∈ S', b ∈ S ∨ H b = none) : Fr T S H H2 := ⟨fun b o e n hb => g.keep b o (f.keep b o e n hb) n fun z => (h b z).elim hb (fun q => absurd (q.symm.trans e) (by intro w; cases w)), fun h => g.tab (f.tab h)⟩
theorem Fr.of_ext (e : ExtN H H1) (t : Tabs T H → Tabs T H1) : Fr T S H H1 := ⟨fun b o h n _ => e b o h n, t⟩
theorem Fr.new (h : H p = none) : Fr T S H (upd H p o) := ⟨fun b u e _ _ => by rw [upd_ne (ne_of_none e h)]; exact e, fun t => t.ext fun b u e => by rw [upd_ne (ne_of_none e h)]; exact e⟩
/-- what may be written: no table, no code object -/
def Dat : HO → Bool
  | .lst _ | .tup _ | .dK _ | .dT _ | .set _ _ | .ins _ _ _ | .own _ | .met _ _ | .rng _ _ | .xd _ => true
  | _ => false
theorem Fr.upd (h : H a = some o) (d : Dat o = true) (ha : a ∈ S) : Fr T S H (upd H a u) := by
  have nt : ∀ ps, H a ≠ some (.tbl ps) := fun ps z => by
    rw [h] at z
    cases z
    cases d
  have nc : ∀ c q, H c = some (CodeO c q) → c ≠ a := fun c q z e => by
    rw [e, h] at z
    have z' : o = CodeO a q := Option.some.inj z
    rw [z'] at d
    unfold CodeO at d
    cases d
  refine ⟨fun b v e _ hb => ?_, fun t p hp => ?_⟩
  · rw [upd_ne (fun z => hb (by rw [z]; exact ha))]
    exact e
  · obtain ⟨ps, h1, h2, h3⟩ := t p hp
    refine ⟨ps, by rw [upd_ne (fun z => nt ps (by rw [← z]; exact h1))]; exact h1, h2, fun pos cv hc => ?_⟩
    obtain ⟨c, e1, e2⟩ := h3 pos cv hc
    exact ⟨c, e1, by rw [upd_ne (nc _ _ e2)]; exact e2⟩
/-- a new instance and its dict -/
theorem Fr.make {x dx : Addr} (nx : H x = none) (ndx : H dx = none) (hne : dx ≠ x) : Fr T S H (L2.upd (L2.upd H dx (.own x)) x o) := (Fr.new ndx).trans (Fr.new ((upd_ne (Ne.symm hne)).trans nx))
/-- nothing but perhaps a table stands at b -/
def Nw (H : Hp) (b : Addr) : Prop := ∀ o, H b = some o → ∃ ps, o = .tbl ps
theorem Nw.none {b : Addr} (h : H b = Option.none) : Nw H b := fun o e => by
  rw [h] at e
  cases e
theorem Nw.of {b : Addr} (f : Fr T S H H1) (h : H1 b = Option.none) (hb : b ∉ S) : Nw H b := fun o e => by
  by_cases z : ∃ ps, o = .tbl ps
  · exact z
  · have := f.keep b o e (fun ps w => z ⟨ps, w⟩) hb
    rw [h] at this
    cases this
theorem Fr.transW (f : Fr T S H H1) (g : Fr T S' H1 H2) (h : ∀ b ∈ S', b ∈ S ∨ Nw H b) : Fr T S H H2 := ⟨fun b o e n hb => g.keep b o (f.keep b o e n hb) n fun z => (h b z).elim hb (fun q => let ⟨ps, w⟩ := q o e; n ps w), fun h => g.tab (f.tab h)⟩
theorem Fr.l (f : Fr T S H H1) {xs : List V} (h : H a = some (.lst xs)) (ha : a ∉ S) : H1 a = some (.lst xs) := f.keep a _ h (fun _ z => by cases z) ha
theorem Fr.t (f : Fr T S H H1) {xs : List V} (h : H a = some (.tup xs)) (ha : a ∉ S) : H1 a = some (.tup xs) := f.keep a _ h (fun _ z => by cases z) ha
theorem Fr.i (f : Fr T S H H1) {C dx : Addr} {fs : List (Str × V)} (h : H a = some (.ins C dx fs)) (ha : a ∉ S) : H1 a = some (.ins C dx fs) := f.keep a _ h (fun _ z => by cases z) ha
theorem Fr.d (f : Fr T S H H1) {kvs : List (Key × V)} (h : H a = some (.dK kvs)) (ha : a ∉ S) : H1 a = some (.dK kvs) := f.keep a _ h (fun _ z => by cases z) ha
theorem Fr.free (f : Fr T S H H1) (h : H1 p = none) (hp : p ∉ S) (ht : ∀ ps, H p ≠ some (.tbl ps)) : H p = none := by
  cases q : H p with
  | none => rfl
  | some o =>
    have := f.keep p o q (fun ps z => ht ps (by rw [q, z])) hp
    rw [h] at this
    cases this
end
/-- a def by its body, its code object told -/
theorem mk_prT {P : Program} {w : World} {K : PySem.W.Frag} {mg : Str → Option Value} {base : Heap} {d : He.DefD} {N ps : List Str} {k : Nat} {sp : Sp} (F : ∃ fd, FunD K d.name d.qual d.params d.body d.scope (d.dvs K) (d.kws K) (He.fAd K d.at_) fd) (hd : d.dfl = []) (S : FnScope N ps d.scope)
    (hb : ∀ (kV doc pm : Value) (an : Option Addr) (cdv ct : Value) (us : List Value), us.length = ps.length → bindArgs (PySem.W.fnOf d.name d.qual d.params d.body d.scope .none kV doc pm an cdv ct) ⟨us, []⟩ = pure (ps.zip us))
    (len : ∀ vs H Q E, sp vs H Q E → vs.length = ps.length)
    (hbody : ∀ (A : Around) (outer : List Env) (s : Shared) (H : Hp) (vs : List V) (Q : VK) (E : XK), Room k (A.deeper (envOfC d.qual d.scope s.heap.objs.size (He.fAd K d.at_) (.ref (He.cT K d.at_).1))) → sp vs H Q E →
      ∃ t, PSs (cxOf (L2.CX P w) P w K mg base N d.qual d.scope (He.fAd K d.at_) (.ref (He.cT K d.at_).1) A outer s H E) d.body t ∧ t { nx := fun _ H' => Q .non H', rt := Q } (start N vs) H) : Pr P w K mg base (k + 1) (He.fAd K d.at_) ps sp := by
  obtain ⟨fd, F⟩ := F
  have e : d.dvs K = [] := by unfold He.DefD.dvs; rw [hd] <;> rfl
  have kp := F.kp
  have b : Binds K fd ps [] := by
    rw [e] at F
    exact FunD.bindsN F hb
  obtain ⟨oc, od, dV, kV, doc, pm, an, cdv, ct, osl, rfl, lk, hcd, _, _⟩ := F.ex
  obtain ⟨c, rfl⟩ := He.codeIn_ref hcd
  have ec : He.codeOf K d.at_ = c := He.codeOf_eq lk rfl
  refine ⟨⟨_, fn_of lk hcd S len fun A outer s H vs Q E hr hsp => ?_, b⟩, kp⟩
  have q := hbody A outer s H vs Q E
  have e1 : (He.cT K d.at_).1 = c := ec
  rw [e1] at q
  exact q hr hsp
/-- no two tables are one -/
theorem tab_uniq {T : List (Addr × Str)} (h : (T.map (·.1)).Nodup) {a : Addr} {q : Str} (hm : (a, q) ∈ T) : ∀ p ∈ T, p.1 = a → p.2 = q := by
  induction T with
  | nil => cases hm
  | cons p0 r ih =>
    rw [List.map_cons, List.nodup_cons] at h
    intro p hp e
    rcases List.mem_cons.mp hp with rfl | hp
    · rcases List.mem_cons.mp hm with z | z
      · rw [← z]
      · exact absurd (List.mem_map.mpr ⟨_, z, e.symm⟩) h.1
    · rcases List.mem_cons.mp hm with z | z
      · exact absurd (List.mem_map.mpr ⟨p, hp, by rw [e, ← z]⟩) h.1
      · exact ih h.2 z p hp e
end Cn
/-! enumerate(tuple) -/
namespace Cn
open PySem PySem.Spec PyProof.Rows L2
open AutoSeq1 (wpAny_loadPart')
theorem meets_enT (l : Addr) (items : Array Value) :
    Meets (Builtin.«enumerate.__new__» ⟨[.type "enumerate", .ref l], []⟩) (fun _ R s => s.heap.IsTuple l items ∧
      R (.ok (.ret (.ref (s.heap.push { cls := .type "tuple_iterator", data := .fields #[.ref l, .int 0 0] }).objs.size)))
        { s with heap := (s.heap.push { cls := .type "tuple_iterator", data := .fields #[.ref l, .int 0 0] }).push { cls := .type "enumerate", data := .fields #[.none, .bool false, .ref s.heap.objs.size, rawInt 0, .none, .none] } }) :=
  .of_wp fun prog w A R s h => by
    obtain ⟨hp, g, d, tk, os⟩ := s; obtain ⟨hL, h⟩ := h
    have hsub := sub_enumerate
    obtain ⟨o, hl, hc, n, hd⟩ := id hL
    wp_walk using wpAny_loadPart' hl
    refine wpAny_stack_any fun st => wpAny_pure ?_
    split
    · rename_i c _ _ _ _ _
      cases (c == Value.type "enumerate")
      · wp_walk using wpAny_loadPart' hl, wpAny_pyIter_tuple hL
        exact ⟨_, rfl, h⟩
      · wp_walk using wpAny_loadPart' hl, wpAny_pyIter_tuple hL
        exact ⟨_, rfl, h⟩
    · wp_walk using wpAny_loadPart' hl, wpAny_pyIter_tuple hL
      exact ⟨_, rfl, h⟩
section
variable {prog : Program} {w : World} {A : Around} {E : Value → Shared → Prop} {s : Shared}
theorem call_enT {l : Addr} {items : Array Value} {Q : Value → Shared → Prop} (hL : s.heap.IsTuple l items)
    (h : ∀ h', IsEnum h' (s.heap.objs.size + 1) s.heap.objs.size 0 .none → h'.IsTupleIter s.heap.objs.size l 0 → h'.objs.size = s.heap.objs.size + 2 →
      (∀ b o, s.heap.get? b = some o → h'.get? b = some o) → Q (.ref (s.heap.objs.size + 1)) { s with heap := h' }) :
    wpAny (model prog w) A (call (.type "enumerate") [.ref l]) Q E s := by
  refine callType_new F.called_enumerate (by decide) (F.typeCall_enumerate_1 _) (F.newCall_enumerate_1 _) (fun obj => F.args_object_init_2 obj _) F.entry_enumerate_new
    (meets_enT l items) ⟨hL, ?_⟩
  have hz : (s.heap.push { cls := .type "tuple_iterator", data := .fields #[.ref l, .int 0 0] }).objs.size = s.heap.objs.size + 1 := Heap.size_push ..
  show _ ∧ _
  rw [hz]
  have he : IsEnum ((s.heap.push { cls := .type "tuple_iterator", data := .fields #[.ref l, .int 0 0] }).push
      { cls := .type "enumerate", data := .fields #[.none, .bool false, .ref s.heap.objs.size, rawInt 0, .none, .none] }) (s.heap.objs.size + 1) s.heap.objs.size 0 .none := by
    have := Heap.get?_push_size (s.heap.push { cls := .type "tuple_iterator", data := .fields #[.ref l, .int 0 0] })
      (o := { cls := .type "enumerate", data := .fields #[.none, .bool false, .ref s.heap.objs.size, rawInt 0, .none, .none] }) rfl
    rw [hz] at this; exact this
  refine ⟨⟨_, he, rfl⟩, h _ he ⟨_, Heap.get?_push_of_some _ (Heap.get?_push_size _ rfl), rfl, rfl⟩ (by rw [Heap.size_push, hz]) fun b o x => Heap.get?_push_of_some _ (Heap.get?_push_of_some _ x)⟩
end
/-- the tuple at a, each item in a new pair -/
def IteT (K : PySem.W.Frag) (a : Addr) : It :=
  ⟨fun i H => ∃ (xs : List V) (x : V), SqT K H a xs ∧ xs[i]? = some x, fun i H v H' => ∃ T x, v = .ref T ∧ H T = none ∧ H' = upd H T (.tup [.int (i : Nat), x]) ∧ ∀ xs, SqT K H a xs → xs[i]? = some x, fun i H => ∃ xs : List V, SqT K H a xs ∧ xs.length ≤ i⟩
theorem turn_enT {P : Program} {w : World} {K : PySem.W.Frag} {elts : List Expr} {kk : Nat} {tpos : Pos} (a e it : Addr) :
    Turn P w K (.Tuple elts kk tpos) (IteT K a) [e, it] e (fun i h => (∃ old, IsEnum h e it ((i : Nat) : Int) old) ∧ h.IsTupleIter it a i ∧ e ≠ it) where
  mem := by simp
  obj := fun i h st b hb => by
    obtain ⟨⟨old, he⟩, ⟨o, ho, hc, hd⟩, _⟩ := st
    have e' : b = e ∨ b = it := by simpa using hb
    rcases e' with z | z
    · rw [z]; exact ⟨_, he, fun v q => nomatch q⟩
    · rw [z]; exact ⟨o, ho, fun v q => by rw [hd] at q; cases q⟩
  keep := fun i h h' st k => let ⟨⟨old, he⟩, hi, hne⟩ := st; ⟨⟨old, k e (by simp) _ he⟩, hi.at fun o q => k it (by simp) o q, hne⟩
  item := by
    intro X hP hw hK hc i pins s σ H E I hf st hg
    subst hP hw hK
    obtain ⟨⟨old, he⟩, hit, hne⟩ := st
    obtain ⟨xs, x, hq, hx⟩ := hg
    obtain ⟨its, rv, p, hz⟩ := I.tuple hq
    obtain ⟨u, hu, ru⟩ := rv.get hx
    have ht : s.heap.IsTuple a its.toArray := p
    have hel : e < s.heap.objs.size := Heap.lt_size he
    have hil : it < s.heap.objs.size := by obtain ⟨_, q, _⟩ := hit; exact Heap.lt_size q
    have nf : H it = none := (hf it (by simp)).1
    have nfe : H e = none := (hf e (by simp)).1
    have hai : a ≠ it := fun z => by
      obtain ⟨o1, g1, c1, _⟩ := hit
      obtain ⟨o2, g2, c2, _⟩ := ht
      rw [z, g1] at g2
      cases g2
      rw [c1] at c2
      exact absurd c2 (by decide)
    have hae : e ≠ a := fun z => by
      obtain ⟨o2, g2, c2, _⟩ := ht
      have he' : s.heap.get? e = _ := he
      rw [z, g2] at he'
      cases he'
      exact absurd (show Value.type "enumerate" = .type "tuple" from c2) (by decide)
    have i0 : i < its.toArray.size := by
      have := List.getElem?_eq_some_iff.mp hu
      obtain ⟨h1, _⟩ := this
      simpa using h1
    refine wpAny_pyNext_enum_itemD (Draws.tuple (show (Around.in1 X.A).handled = none from I.ok.hd hc) it a hai its.toArray) he ⟨hit, ht⟩ i0 hne (by simp [hne, hae]) fun x' h' tk hP' ho hst hT hsz hk => ?_
    obtain ⟨hit', ht'⟩ := hst
    have ex : x' = u := by
      have : its[i]? = some x' := by simpa using hP'
      rw [hu] at this
      exact (Option.some.inj this).symm
    subst ex
    refine ⟨_, rfl, wpAny_letOwnedTupleGo_enum (s := { s with heap := h', toks := tk + 1 }) ho fun h'' he' sb => ?_⟩
    have hT2 : h''.get? s.heap.objs.size = some { cls := .type "tuple", data := .seq #[.int i tk, x'] } := (sb.2 _ (Nat.ne_of_gt hel)).trans hT
    have new : ObjOk X.prog X.w (upd H s.heap.objs.size (.tup [.int (i : Nat), x])) h'' s.heap.objs.size (.tup [.int (i : Nat), x]) :=
      ⟨by show 2 ≤ sizeLine; decide, [.int i tk, x'], .cons ⟨_, rfl⟩ (.cons ru .nil), ⟨_, hT2, rfl, _, rfl⟩⟩
    have I1 : Inv X pins σ (upd H s.heap.objs.size (.tup [.int (i : Nat), x])) { s with heap := h'', toks := tk + 1 } :=
      I.turnedNew (ch := [e, it]) (fun b ob hb q => (sb.2 b (fun z => hb (by simp [z]))).trans (hk b ob (fun z => hb (by simp [z])) (fun z => hb (by simp [z])) q)) hf (Nat.le_refl _) new
    refine ⟨.ref s.heap.objs.size, _, I1, rfl, ⟨_, x, rfl, I.hok.fresh (Nat.le_refl _), rfl, fun ys hy => by rw [I.tuple_inj hy hq]; exact hx⟩, ⟨⟨x', ?_⟩, hit'.at fun o q => (sb.2 it (Ne.symm hne)).trans q, hne⟩, fun b hb => ?_⟩
    · have e1 : ((i + 1 : Nat) : Int) = (i : Int) + 1 := by omega
      rw [e1]; exact he'
    · have hb' : b < s.heap.objs.size := by
        have e' : b = e ∨ b = it := by simpa using hb
        rcases e' with z | z
        · rw [z]; exact hel
        · rw [z]; exact hil
      rw [upd_ne (Nat.ne_of_lt hb')]
      exact (hf b hb).1
  done := by
    intro X hP hw hK hc i pins s σ H E I hf st hg
    subst hP hw hK
    obtain ⟨⟨old, he⟩, hit, hne⟩ := st
    obtain ⟨xs, hq, hx⟩ := hg
    obtain ⟨its, rv, p, hz⟩ := I.tuple hq
    have ht : s.heap.IsTuple a its.toArray := p
    obtain ⟨f0, f1, f2, f3, f4, f5⟩ := hf it (by simp)
    have hl := rv.length
    have hT : s.TypeIs (.ref e) "enumerate" := ⟨_, he, rfl⟩
    unfold pyNext
    refine wpAny_bind (wpAny_attempt (wpAny_callSpecial?_slot (name := Str.ofString "__next__") hT F.slot_enumerate_next
      (wpAny_call_entry F.slot_enumerate_next hT F.entry_enumerate_next ?_ (F.args_enumerate_next_1 _))))
    show wpAny _ _ (field (.ref e) 2 >>= _) _ _ _
    refine wpAny_bind (wpAny_field he rfl (x := .ref it) rfl ?_)
    refine wpAny_bind (wpAny_nextOf_tuple_end (show (Around.in1 X.A).handled = none from I.ok.hd hc) hit ht (by simp; omega) fun h' x he' hx' => ?_)
    obtain ⟨o, ho, hc'⟩ := hx'
    refine wpAny_bind (wpAny_isInstance (T := "StopIteration") (b := true) ⟨o, ho, hc'⟩ isSubtype_stop ?_)
    exact wpAny_pure ⟨rfl, I.turned (t' := s.toks) (fun b o hb q => he' b o hb q) f0 f1 f3 f4 f5⟩
  self := fun A i s Q E st h => let ⟨⟨_, he⟩, _⟩ := st; wpAny_pyIter_enum he h
def iEnT (K : PySem.W.Frag) (ta : TA) : TI := fun σ H R => ta σ H fun vs H1 => ∃ a xs, vs = [.ref a] ∧ SqT K H1 a xs ∧ R (IteT K a) H1
theorem pi_enT {X : Cx} {e : Expr} {ta : TA} {p pos tpos : Pos} {elts : List Expr} {kk : Nat} (hg : Gl X "enumerate") (hm : X.mg "enumerate" = none) (ha : PA X [e] ta) (hs : starEach [e] X.env = [(false, eval e X.env)] := by rfl) :
    PI X (.Tuple elts kk tpos) (.Call (.Name "enumerate" p) [e] [] pos) (iEnT X.K ta) := by
  refine ⟨fun pins s σ H R I h => ?_⟩
  refine Call_ (ld_blt I hg hm boot_enumerate (PyProof.Rows.callWith_type1 (thn (ha.run pos pins s σ H _ I h) fun us s1 ⟨vs, H1, I1, r1, q1⟩ => ?_) hs rfl))
  obtain ⟨a, xs, ex, hq, q⟩ := q1
  subst ex
  cases r1 with
  | cons r rr =>
    cases rr
    cases r
    obtain ⟨its, rv, p', hz⟩ := I1.tuple hq
    refine call_enT (show s1.heap.IsTuple a its.toArray from p') fun h' he hit hsz hk => wpAny_pyIter_enum he ?_
    have I2 : Inv X pins σ H1 { s1 with heap := h' } := I1.kept (t' := s1.toks) hk
    refine ⟨s1.heap.objs.size + 1, [s1.heap.objs.size + 1, s1.heap.objs.size], _, _, H1, rfl, I2, turn_enT a (s1.heap.objs.size + 1) s1.heap.objs.size, ⟨⟨.none, he⟩, hit, Nat.succ_ne_self _⟩, fun b hb => ?_, q⟩
    have e' : b = s1.heap.objs.size + 1 ∨ b = s1.heap.objs.size := by simpa using hb
    have hle : s1.heap.objs.size ≤ b := by
      rcases e' with z | z
      · rw [z]; exact Nat.le_add_right _ _
      · rw [z]; exact Nat.le_refl _
    exact I1.fpOk hle (I1.hok.fresh hle)
theorem walk_enT {K : PySem.W.Frag} {a : Addr} {xs : List V} : Walk (IteT K a) xs.length (fun H => SqT K H a xs) (YPair (fun i => some (.int (i : Nat))) (fun i => xs[i]?)) := by
  refine ⟨fun i _ hi q => ⟨xs, xs[i], q, by simp [hi]⟩, fun _ q => ⟨xs, q, Nat.le_refl _⟩, fun i H v H' _ q y => ?_⟩
  obtain ⟨T, x, h1, h2, h3, h4⟩ := y
  exact ⟨T, .int (i : Nat), x, h1, h2, h3, rfl, h4 xs q⟩
end Cn
/-! lambdas without parameters as values: made, kept, handed to a def that calls them -/
namespace Cn
open PySem PySem.Spec PyProof.Rows L2 LamX
/-- the lambda at f -/
def LamO (f : Addr) (q : Str) (params : Arguments) (body : Expr) (scope : Scope) (cl : List (Str × Addr)) (c' : Addr) : HO := .ext fun h => ∃ pm ctv, h.get? f = some (PySem.W.kla_obj "<lambda>" q params body scope cl pm c' ctv)
theorem lamO_ne {f : Addr} {q : Str} {params : Arguments} {body : Expr} {scope : Scope} {cl : List (Str × Addr)} {c' : Addr} (ps : Array Value) : LamO f q params body scope cl c' ≠ .tbl ps := fun z => by
  unfold LamO at z
  cases z
/-- what the lambda captures, in a heap: the cells are there, and hold what the slots tell -/
structure CapAt (X : Cx) (scope : Scope) (σ : L2.St) (h : Heap) (H : Hp) : Prop where
  cell : ∀ y c, (y, NameKind.free) ∈ scope.names → X.env.cells.lookup y = some c → (∃ v, h.IsCell c v) ∧ H c = none
  val : ∀ (i : Nat) (y : Str) (v : V), X.N[i]? = some y → σ[i]? = some (some v) → (y, NameKind.free) ∈ scope.names → ∃ u c, RelV v u ∧ X.env.cells.lookup y = some c ∧ h.IsCell c (some u)
section
variable {X : Cx} {pins : List (Addr × Obj)} {σ : L2.St} {H H' HZ : Hp} {s s1 : Shared} {scope : Scope}
theorem CapAt.of (I : Inv X pins σ H s) (L : LamS X.env.scope scope) : CapAt X scope σ s.heap H where
  cell := fun y c _ e => ⟨I.cell y c e, I.freeC y c e⟩
  val := fun i y v e1 e2 hy => by
    have kk := L.free _ hy rfl
    obtain ⟨m, hn, hl⟩ := I.loc
    obtain ⟨u, r, l⟩ := hl i y v e1 e2 (.inr kk)
    rcases l with ⟨k', _⟩ | ⟨_, c, e, z⟩
    · have k' : X.env.scope.names.lookup y = some .local := k'
      rcases kk with k2 | k2 <;> rw [k2] at k' <;> cases k'
    · exact ⟨u, c, r, e, z⟩
theorem CapAt.un {fs ex : List Addr} {h h' : Heap} (C : CapAt X scope σ h H) (un : Un fs ex H H' h h') (hx : ∀ y c, X.env.cells.lookup y = some c → c ∉ ex) : CapAt X scope σ h' H' := by
  have go : ∀ {c : Addr} {v : Option Value}, H c = none → c ∉ ex → h.IsCell c v → h'.IsCell c v := fun {c v} n hc ⟨o, ho, hd⟩ => by
    obtain ⟨sl, q⟩ := un.any ho n hc
    exact ⟨_, q, hd⟩
  refine ⟨fun y c hy e => ?_, fun i y v e1 e2 hy => ?_⟩
  · obtain ⟨⟨v, z⟩, n⟩ := C.cell y c hy e
    obtain ⟨o, ho, hd⟩ := _root_.id z
    exact ⟨⟨v, go n (hx y c e) z⟩, un.free c o ho n (hx y c e)⟩
  · obtain ⟨u, c, r, e, z⟩ := C.val i y v e1 e2 hy
    obtain ⟨_, n⟩ := C.cell y c hy e
    exact ⟨u, c, r, e, go n (hx y c e) z⟩
/-- the lambda's body is entered -/
theorem lam_inv {A : Around} {outer : List Env} {E : XK} {f c' : Addr} {h₁ : Heap} {tk : Nat} (ok : X.Ok) (hlen : σ.length = X.N.length) (C : CapAt X scope σ s1.heap HZ) (L : LamS X.env.scope scope) (e0 : Env0 X.prog X.w X.K X.mg X.base A outer s1 HZ) (hd : A.handled = none)
    (hns : h₁.Ns s1.heap.objs.size fun y => ([] : List (Str × Value)).reverse.lookup y) (kp : ∀ b o, s1.heap.get? b = some o → h₁.get? b = some o) :
    Inv (lamCx X A outer s1 HZ E scope f c') [] σ HZ { s1 with heap := h₁, toks := tk } := by
  have hfree := L.has ok
  have cm : ∀ {y c}, (cloFrom X.env.cells scope.names []).lookup y = some c → (y, NameKind.free) ∈ scope.names ∧ X.env.cells.lookup y = some c := fun {y c} e => by
    refine ⟨?_, clo_back hfree e⟩
    rcases cloFrom_mem (PySem.mem_of_lookup e) with hm | ⟨h1, _⟩
    · cases hm
    · exact h1
  have look : ∀ {y}, scope.names.lookup y = some .free → ∃ c, (cloFrom X.env.cells scope.names []).lookup y = some c := fun {y} hl => mem_lookup (cloFrom_has (cells := X.env.cells) (acc := []) (PySem.mem_of_lookup hl))
  have kc : ∀ {c : Addr} {v : Option Value}, s1.heap.IsCell c v → h₁.IsCell c v := fun {c v} ⟨o, ho, hd⟩ => ⟨o, kp _ _ ho, hd⟩
  have noA : ∀ b : Addr, b ∉ (lamCx X A outer s1 HZ E scope f c').ex := fun b z => absurd (show b ∈ ([] : List Addr) from z) (by simp)
  have okL : (lamCx X A outer s1 HZ E scope f c').Ok := by
    refine ⟨e0.mod, L.kind, rfl, rfl, Nat.le_refl _, fun y z c e1 e2 => ok.inj y z c (cm e1).2 (cm e2).2, fun y hy => ?_, fun y c z _ => (by cases (show false = true from z)), fun _ => hd, Around.frames_deeper e0.frames, .inr ⟨rfl, rfl⟩, fun b z => absurd z (noA b), e0.bs, e0.bsz, fun b _ _ => noA b, fun b z => absurd z (noA b), e0.funs, e0.frf⟩
    have hy : scope.names.lookup y = some .cell ∨ scope.names.lookup y = some .free := hy
    rcases hy with hy | hy
    · exact absurd rfl (L.own _ (PySem.mem_of_lookup hy)).2
    · exact look hy
  refine ⟨okL, rfl, e0.bare, Un.kept kp, ⟨_, hns, fun i y v e1 e2 e3 => ?_⟩, fun y c e => ?_, e0.hok.fresh (Nat.le_refl _), fun y c e => ?_, fun q hq => absurd (show q ∈ ([] : List (Addr × Obj)) ++ [] from hq) (by simp), e0.hok.kept kp, hlen⟩
  · have e3 : Vis scope y := e3
    rcases e3 with k | k | k
    · exact absurd rfl (L.own _ (PySem.mem_of_lookup k)).1
    · exact absurd rfl (L.own _ (PySem.mem_of_lookup k)).2
    · obtain ⟨c2, h2⟩ := look k
      obtain ⟨hy, c1⟩ := cm h2
      obtain ⟨u, c, r, e, z⟩ := C.val i y v e1 e2 hy
      rw [c1] at e
      cases e
      exact ⟨u, r, .inr ⟨.inr k, c2, h2, kc z⟩⟩
  · obtain ⟨hy, c1⟩ := cm e
    obtain ⟨⟨v, z⟩, _⟩ := C.cell y c hy c1
    exact ⟨v, kc z⟩
  · obtain ⟨hy, c1⟩ := cm e
    exact (C.cell y c hy c1).2
end
/-- a lambda as a value -/
def tLamV (T : List (Addr × Str)) (q : Str) (params : Arguments) (body : Expr) (scope : Scope) (cl : List (Str × Addr)) : TE := fun σ H Q => Tabs T H ∧
  ∀ f c' H1, H f = none → ExtN H H1 → Tabs T H1 → H1 f = some (LamO f q params body scope cl c') → H1 c' = some (CodeO c' q) → Q (.ref f) H1
section
variable {X : Cx}
theorem pe_lam {T : List (Addr × Str)} {c P : Addr} {params : Arguments} {body : Expr} {scope : Scope} {pos : Pos} (TB : TabB X.base X.mg c P) (hcode : X.env.code = .ref c) (hmT : (P, X.env.qual ++ "<lambda>") ∈ T) (hu : ∀ p ∈ T, p.1 = P → p.2 = X.env.qual ++ "<lambda>")
    (hL : lamSB X.env.scope scope = true) (hdef : defaultsOf params X.env = ([], [])) : PE X (.Lambda params body scope pos) (tLamV T (X.env.qual ++ "<lambda>") params body scope (cloFrom X.env.cells scope.names [])) := by
  refine ⟨fun pins s σ H Q I h => ?_⟩
  obtain ⟨hT, h⟩ := h
  obtain ⟨ps, hP, ht, hcs⟩ := hT _ hmT
  have L := lamS_by hL
  have gP : s.heap.get? P = some { cls := .none, data := .fields ps } := I.hok P _ hP
  refine PySem.W.kla_eval hdef ?_
  have bP : s.heap.BuiltinsAt X.mg P := TB.bm.keeps I.bk
  have fin : ∀ {Hx : Hp} {hp : Heap} {tk : Nat} {c' : Addr} {pm ctv : Value}, (∀ (h2 : Heap), (∀ b u, hp.get? b = some u → h2.get? b = some u) → Inv X pins σ Hx { s with heap := h2, toks := tk }) → s.heap.objs.size ≤ hp.objs.size → Hx hp.objs.size = none → ExtN H Hx → Tabs T Hx → Hx c' = some (CodeO c' (X.env.qual ++ "<lambda>")) →
      EP X pins σ Q (.ref hp.objs.size) { s with heap := hp.push (PySem.W.kla_obj "<lambda>" (X.env.qual ++ "<lambda>") params body scope (cloFrom X.env.cells scope.names []) pm c' ctv), toks := tk } := fun {Hx hp tk c' pm ctv} J le fr eN tN hc => by
    have J0 := J hp fun _ _ e => e
    have atf : (hp.push (PySem.W.kla_obj "<lambda>" (X.env.qual ++ "<lambda>") params body scope (cloFrom X.env.cells scope.names []) pm c' ctv)).get? hp.objs.size = some (PySem.W.kla_obj "<lambda>" (X.env.qual ++ "<lambda>") params body scope (cloFrom X.env.cells scope.names []) pm c' ctv) := Heap.get?_push_size _ rfl
    have J1 := J0.laid (a := hp.objs.size) (o := LamO hp.objs.size (X.env.qual ++ "<lambda>") params body scope (cloFrom X.env.cells scope.names []) c') (t' := tk) (h' := hp.push (PySem.W.kla_obj "<lambda>" (X.env.qual ++ "<lambda>") params body scope (cloFrom X.env.cells scope.names []) pm c' ctv))
      (fun b u e => Heap.get?_push_of_some _ e) (Nat.le_refl _) ⟨⟨pm, ctv, atf⟩, ⟨_, atf⟩, fun h1 h2 ⟨pm, ctv, z⟩ st => ⟨pm, ctv, st _ z⟩⟩
    have eF : ∀ b u, Hx b = some u → upd Hx hp.objs.size (LamO hp.objs.size (X.env.qual ++ "<lambda>") params body scope (cloFrom X.env.cells scope.names []) c') b = some u := fun b u e => by rw [upd_ne (ne_of_none e fr), e]
    exact ⟨.ref hp.objs.size, _, J1, rfl, h _ c' _ (I.hok.fresh le) (fun b o e n => eF _ _ (eN b o e n)) (tN.ext eF) upd_same (eF _ _ hc)⟩
  cases hc : codeAmong pos ps.toList with
  | some cv =>
    obtain ⟨c', rfl, hco⟩ := hcs pos cv hc
    refine PySem.W.kla_makeFunctionHit (mg := X.mg) (c := c) (P := P) (ps := ps) (closure_ok (L.has I.ok)) I.ok.glob (I.mod.glob.keeps I.bk) hcode (TB.code.keeps I.bk) gP ht hc bP fun ctv h' tk hx hsz => ?_
    exact fin (fun h2 k => I.kept fun b u e => k b u (hx b u e)) hsz (I.hok.fresh hsz) (ExtN.refl H) hT hco
  | none =>
    refine PySem.W.kla_makeFunction (mg := X.mg) (c := c) (P := P) (ps := ps) (closure_ok (L.has I.ok)) I.ok.glob (I.mod.glob.keeps I.bk) hcode (TB.code.keeps I.bk) gP ht hc TB.gP bP fun c' ctv h' tk hx hge hlt hrec htb => ?_
    obtain ⟨c2, oc, vs, t, e2, hoc, hd, hv⟩ := hrec
    cases e2
    have nC : H c' = none := I.hok.fresh hge
    have nPc : P ≠ c' := ne_of_none hP nC
    have hE : ExtN H (upd (upd H P (.tbl (ps ++ #[rawInt pos.line, rawInt pos.col, .ref c']))) c' (CodeO c' (X.env.qual ++ "<lambda>"))) := fun b u e n => by
      have n1 : b ≠ P := fun z => n ps (by rw [z, hP] at e; exact (Option.some.inj e).symm)
      rw [upd_ne (ne_of_none e nC), upd_ne n1, e]
    have eL : (ps ++ #[rawInt pos.line, rawInt pos.col, .ref c']).toList = ps.toList ++ [rawInt pos.line, rawInt pos.col, .ref c'] := by simp
    have hTn : Tabs T (upd (upd H P (.tbl (ps ++ #[rawInt pos.line, rawInt pos.col, .ref c']))) c' (CodeO c' (X.env.qual ++ "<lambda>"))) := fun p hp => by
      obtain ⟨p1, p2⟩ := p
      by_cases hb : p1 = P
      · obtain rfl : p2 = X.env.qual ++ "<lambda>" := hu _ hp hb
        subst hb
        refine ⟨_, by rw [upd_ne nPc, upd_same], by rw [eL]; exact PySem.TriplesOk_snoc _ _ _ _ ht, fun pp cv hcv => ?_⟩
        rw [eL] at hcv
        rcases among_app _ ht hcv with z | z
        · obtain ⟨c0, z1, z2⟩ := hcs pp cv z
          exact ⟨c0, z1, hE c0 _ z2 codeO_ne⟩
        · exact ⟨c', z, upd_same⟩
      · obtain ⟨ps', a1, a2, a3⟩ := hT _ hp
        refine ⟨ps', by rw [upd_ne (ne_of_none a1 nC), upd_ne hb, a1], a2, fun pp cv hcv => ?_⟩
        obtain ⟨c0, z1, z2⟩ := a3 pp cv hcv
        exact ⟨c0, z1, hE c0 _ z2 codeO_ne⟩
    have le : s.heap.objs.size ≤ h'.objs.size := Nat.le_trans hge (Nat.le_of_lt hlt)
    refine fin (fun h2 k => inv_table (t' := tk) (h' := h2) (more := #[rawInt pos.line, rawInt pos.col, .ref c']) I hP (fun b o hb e => k _ _ (hx b o hb e)) (k _ _ htb) hge ⟨oc, vs, t, k _ _ hoc, hd, hv⟩) le ?_ hE hTn upd_same
    have n1 : h'.objs.size ≠ c' := Nat.ne_of_gt hlt
    have n2 : h'.objs.size ≠ P := Nat.ne_of_gt (Nat.lt_of_lt_of_le (Heap.lt_size gP) le)
    rw [upd_ne n1, upd_ne n2]
    exact I.hok.fresh le
end
end Cn
namespace Cn
open PySem PySem.Spec PyProof.Rows L2 LamX
/-- a context beside X: the def's own block, a comprehension's -/
abbrev sib (X : Cx) (s0 : Shared) (H0 : Hp) (env : Env) (outer : List Env) (ex : List Addr) (fn : Str → Bool) (pn : List (Addr × Obj)) (xe : Value → Shared → Prop) : Cx := { X with s_0 := s0, H_0 := H0, env := env, outer := outer, ex := ex, fn := fn, pn := pn, xe := xe }
section
variable {X : Cx}
/-- x(), in the def that got the lambda, which is told by the heap; s, H: where that def was entered -/
theorem pe_actV {CXg : CXT} {Eg : XK} {Ng : List Str} {qg : Str} {sg : Scope} {g f c' : Addr} {cdg : Value} {params : Arguments} {body : Expr} {scope : Scope} {q : Str} {k : Nat} {a : Str} {pn : List (Addr × Obj)} {xe : Value → Shared → Prop} {W : WX} {E : XK} {tb : TE} {p1 p2 : Pos} {σ : L2.St} {H : Hp} {s : Shared}
    (ok : X.Ok) (hlen : σ.length = X.N.length) (C : CapAt X scope σ s.heap H) (L : LamS X.env.scope scope) (hq : q = X.env.qual ++ "<lambda>")
    (hbind : ∀ (pm ctv : Value), bindArgs (PySem.W.kla_fn "<lambda>" q params body scope (cloFrom X.env.cells scope.names []) pm (.ref c') ctv) ⟨[], []⟩ = pure [])
    (tk : Takes ((cxOf CXg X.prog X.w X.K X.mg X.base Ng qg sg g cdg X.A X.stack s H Eg).tr pn xe) W) (hW : ∀ cls d σ' H', E cls d H' → W cls d σ' H') (hr : Room (k + 1) (X.A.deeper (envOfC qg sg s.heap.objs.size g cdg)))
    (hbody : ∀ (A : Around) (outer : List Env) (s : Shared) (H : Hp), Room k (A.deeper (lamEnv X scope s.heap.objs.size f c')) → PE (lamCx X A outer s H E scope f c') body tb)
    (hN : Ng[0]? = some a) (hv : Vis sg a) (hd : (a == ("__debug__" : Str)) = false) (hcd : (a == ("__classdict__" : Str)) = false) :
    PE ((cxOf CXg X.prog X.w X.K X.mg X.base Ng qg sg g cdg X.A X.stack s H Eg).tr pn xe) (.Call (.Name a p1) [] [] p2)
      (fun σZ HZ Q => σZ[0]? = some (some (.ref f)) ∧ HZ c' = some (CodeO c' q) ∧ HZ f = some (LamO f q params body scope (cloFrom X.env.cells scope.names []) c') ∧ tb σ HZ Q) := by
  subst hq
  refine ⟨fun pinsZ sZ σZ HZ Q IZ h => ?_⟩
  obtain ⟨hs, hc, hf, ht⟩ := h
  refine wpAny_Call_Name_kw (thn ((pe_var (pos := p1) (i := 0) hN hv hd hcd).run pinsZ sZ σZ HZ (fun v H1 => v = .ref f ∧ H1 = HZ) IZ ⟨.ref f, hs, rfl, rfl⟩) fun u s1 ⟨v, H1, I1, r1, ev, eH⟩ => ?_)
  subst ev eH
  obtain rfl : u = Value.ref f := r1
  obtain ⟨⟨pm, ctv, of1⟩, _, _⟩ := I1.hok f _ hf
  refine PySem.W.callWith_F0 ⟨_, _, _, _, of1⟩ ?_
  have un : Un (frs X.stack) [] H H1 s.heap s1.heap := I1.base
  obtain ⟨⟨oc, vs, t, hoc, hdc, hvc⟩, _, _⟩ := I1.hok c' _ hc
  have C1 := C.un un fun _ _ _ z => nomatch z
  have e0 := I1.env0
  have rc : codeAny (model X.prog X.w) (X.A.deeper (envOfC qg sg s.heap.objs.size g cdg)) (.call (.ref f) ⟨[], []⟩) (CR (L2.CX X.prog X.w) (envOfC qg sg s.heap.objs.size g cdg :: X.stack) X.prog X.w H1 s1 Q E) s1 := by
    refine PySem.W.kla_callFunE hr.depth of1 rfl L.co L.gen rfl ⟨c', oc, vs, t, rfl, hoc, hdc, hvc⟩ ?_
    rw [hbind]
    refine wpAny_pure (wpAny_newFunctionEnv (fun y hy => (L.own y hy).2) (fun y hy => absurd hy (by simp)) (fun h₁ hns hsb => ⟨I1.nolimit.fresh _ hsb, ?_⟩) L.kind)
    have kp : ∀ b o, s1.heap.get? b = some o → h₁.get? b = some o := fun b o e => hsb.extBut b o (Nat.ne_of_lt (Heap.lt_size e)) (Heap.get?_push_of_some _ e)
    have J := lam_inv (f := f) (c' := c') (tk := s1.toks + ([] : List (Str × Value)).length) (E := E) ok hlen C1 L e0 hr.hd hns kp
    refine PySem.W.kla_codeExpr (wpAny_mono ((hbody _ _ s1 H1 (hr.deeper _)).run [] _ _ H1 Q J ht) (fun v s' ⟨w', H', J', rv, q⟩ => ?_) fun _ _ z => z)
    exact ⟨w', H', J'.os, J'.bare, J'.base, J'.hok, rv, q⟩
  have hx : Passes (L2.CX X.prog X.w) ((cxOf CXg X.prog X.w X.K X.mg X.base Ng qg sg g cdg X.A X.stack s H Eg).tr pn xe) E := passes_call tk hW
  refine wpAny_call (codeAny_mono rc fun r s' hq => ?_)
  match r, hq with
  | .error e, hq => exact hx pinsZ σZ H1 s1 e s' I1 hq
  | .ok (.ret u), hq => exact I1.after hq
  | .ok .next, hq => exact False.elim hq
  | .ok .brk, hq => exact False.elim hq
  | .ok .cont, hq => exact False.elim hq
end
/-- a def is handed the lambda that e gives, one of a family; sel: the slots of the lambda's maker -/
def tTold {ι : Type} (X : Cx) (CS : Addr) (ret q : Str) (sel : L2.St → L2.St) (params : ι → Arguments) (body : ι → Expr) (lsc : ι → Scope) (tb : ι → XK → TE) (te : TE) : TE := fun σ H Q => te σ H fun v H1 =>
  ∃ (i : ι) (f c' : Addr), v = .ref f ∧ H1 f = some (LamO f q (params i) (body i) (lsc i) (cloFrom X.env.cells (lsc i).names []) c') ∧ H1 c' = some (CodeO c' q) ∧
    TTold X.K CS ret (fun E H' Q' => tb i E (sel σ) H' Q') H1 Q
theorem pe_told {X : Cx} {s0 : Shared} {H0 : Hp} {env : Env} {outer : List Env} {ex : List Addr} {fn : Str → Bool} {pn : List (Addr × Obj)} {xe : Value → Shared → Prop} {ι : Type} {d : He.DefD} {CS : Addr} {x a q ret en : Str} {k j : Nat} {sel : L2.St → L2.St} {params : ι → Arguments} {body : ι → Expr} {lsc : ι → Scope} {tb : ι → XK → TE} {te : TE} {e : Expr} {p pos : Pos} {Ng : List Str} {jj : Nat} {q1 q2 q3 q4 q5 q6 q7 q8 : Pos}
    (F : ∃ fd, FunD X.K d.name d.qual d.params d.body d.scope (d.dvs X.K) (d.kws X.K) (He.fAd X.K d.at_) fd) (hdf : d.dfl = []) (hm : X.mg x = some (.ref (He.fAd X.K d.at_))) (hqx : d.qual = x) (hnx : d.name = x)
    (hb : ∀ (kV doc pm : Value) (an : Option Addr) (cdv ct : Value) (us : List Value), us.length = 1 → bindArgs (PySem.W.fnOf d.name d.qual d.params d.body d.scope .none kV doc pm an cdv ct) ⟨us, []⟩ = pure ([a].zip us))
    (Sg : FnScope Ng [a] d.scope) (hNg : Ng[0]? = some a) (h0 : ∀ f : Addr, (L2.start Ng [V.ref f])[0]? = some (some (V.ref f))) (hva : Vis d.scope a)
    (hbd : d.body = [.Try [.Return (some (.Call (.Name a q1) [] [] q2)) q3] [.ExceptHandler (some (.Name en q4)) none [.Return (some (.Constant (.str ret) jj q5)) q6] q7] [] [] q8])
    (hge : d.scope.names.lookup en = some .globalImplicit) (hme : X.mg en = some (.ref CS)) (hde : (en == ("__debug__" : Str)) = false)
    (hr : Room j X.A) (hkj : k + 2 ≤ j) (hq : q = X.env.qual ++ "<lambda>") (hL : ∀ i, lamSB X.env.scope (lsc i) = true)
    (hbind : ∀ (i : ι) (cl : List (Str × Addr)) (pm cv ctv : Value), bindArgs (PySem.W.kla_fn "<lambda>" q (params i) (body i) (lsc i) cl pm cv ctv) ⟨[], []⟩ = pure [])
    (hcap : ∀ pins σ' H s, Inv (sib X s0 H0 env outer ex fn pn xe) pins σ' H s → X.Ok ∧ (sel σ').length = X.N.length ∧ ∀ i, CapAt X (lsc i) (sel σ') s.heap H)
    (hbody : ∀ (i : ι) (A : Around) (outer : List Env) (s : Shared) (H : Hp) (E : XK) (f c' : Addr), Room k (A.deeper (lamEnv X (lsc i) s.heap.objs.size f c')) → PE (lamCx X A outer s H E (lsc i) f c') (body i) (tb i E))
    (he : PE (sib X s0 H0 env outer ex fn pn xe) e te) (hg : Gl (sib X s0 H0 env outer ex fn pn xe) x) (hdb : (x == ("__debug__" : Str)) = false := by decide) (hda : (a == ("__debug__" : Str)) = false := by decide) (hdc : (a == ("__classdict__" : Str)) = false := by decide)
    (hst : starEach [e] env = (false, eval e env) :: starEach [] env := by rfl) :
    PE (sib X s0 H0 env outer ex fn pn xe) (.Call (.Name x p) [e] [] pos) (tTold X CS ret q sel params body lsc tb te) := by
  refine ⟨fun pins s σ H Q I h => ?_⟩
  obtain ⟨fd, F⟩ := F
  refine wpAny_Call_Name_kw (ld_glob I hg hm ?_ hdb)
  refine PySem.W.callWith_K (h₀ := X.base) I.ok.mod.kin F.kp ?_ hst (by rfl)
  have ha : PA (sib X s0 H0 env outer ex fn pn xe) [e] (tCons te tNil) := pa_cons he pa_nil hst
  let R : V → Hp → Prop := fun v H1 => ∃ (i : ι) (f c' : Addr), v = .ref f ∧ H1 f = some (LamO f q (params i) (body i) (lsc i) (cloFrom X.env.cells (lsc i).names []) c') ∧ H1 c' = some (CodeO c' q) ∧
    TTold X.K CS ret (fun E H' Q' => tb i E (sel σ) H' Q') H1 Q
  refine thn (ha.run pos pins s σ H (fun vs H1 => match vs with
    | [v] => R v H1
    | _ => False) I h) fun us s1 ⟨vs, H1, I1, r1, hR⟩ => ⟨I1.kIn, ?_⟩
  obtain ⟨v, rfl, i, f, c', rfl, hf, hc, htb⟩ : ∃ v, vs = [v] ∧ R v H1 := by
    match vs, hR with
    | [v], hR => exact ⟨v, rfl, hR⟩
  obtain ⟨oc, od, dV, kV, doc, pm, an, cdv, ct, osl, rfl, lk, hcd, hD, _⟩ := F.ex
  obtain rfl : dV = Value.none := by
    have e : d.dvs X.K = [] := by unfold He.DefD.dvs; rw [hdf] <;> rfl
    rcases hD with ⟨_, z⟩ | ⟨z, _⟩
    · exact z
    · exact absurd e z
  obtain ⟨u, rfl, ru⟩ : ∃ u, us = [u] ∧ RelV (.ref f) u := by
    cases r1 with
    | cons a b =>
      cases b
      exact ⟨_, rfl, a⟩
  obtain rfl : u = Value.ref f := ru
  obtain ⟨okX, hlen, hC⟩ := hcap pins σ H1 s1 I1
  have rc : codeAny (model X.prog X.w) X.A (.call (.ref (He.fAd X.K d.at_)) ⟨[.ref f], []⟩) (CR C8.CX0 X.stack X.prog X.w H1 s1 Q C8.E0) s1 := by
    refine run_ofS (N := Ng) (ps := [a]) (us := [.ref f]) (vs := [.ref f]) lk hcd Sg (hr.mono hkj) I1.env0 (.of_eq (hb kV doc pm an cdv ct [.ref f] rfl)) (.cons rfl .nil) rfl fun hr' => ?_
    have G := told_gives (X := sib X s0 H0 env outer ex fn pn xe) (Ng := Ng) (x := d.qual) (sg := d.scope) (g := He.fAd X.K d.at_) (CS := CS) (cdg := cdv) (ret := ret) (e := en) (q := q) (a := a) (j := jj) (p1 := q1) (p2 := q2) (p3 := q3) (p4 := q4) (p5 := q5) (p6 := q6) (p7 := q7) (p8 := q8) hge hme hde h0
    rw [← hbd] at G
    obtain ⟨t', ht', hq'⟩ := G f c' s1 H1 Q (fun E HZ Q' => HZ f = some (LamO f q (params i) (body i) (lsc i) (cloFrom X.env.cells (lsc i).names []) c') ∧ tb i E (sel σ) HZ Q')
      (fun W pn xe E p1 p2 tk hW => pe_actV (X := X) okX hlen (hC i) (lamS_by (hL i)) hq (fun pm ctv => hbind i _ pm _ ctv) tk hW hr' (fun A outer s H hr2 => hbody i A outer s H E f c' hr2) hNg hva hda hdc) hc ⟨hf, htb⟩
    exact ⟨t', ht'.nox, hq'⟩
  refine wpAny_call (codeAny_mono rc fun r s2 hq => ?_)
  match r, hq with
  | .error e, hq => exact (show False from hq).elim
  | .ok (.ret u), hq => exact I1.after hq
  | .ok .next, hq => exact False.elim hq
  | .ok .brk, hq => exact False.elim hq
  | .ok .cont, hq => exact False.elim hq
end Cn
/-! a list comprehension whose element and tests may lean on what held as its block began -/
namespace Cn
open PySem PySem.Spec PyProof.Rows L2 LamX
section
variable {X : Cx}
/-- the block began in a state of the def; its iterator's cells stand apart from the captured names' -/
structure Began (X : Cx) (σ : L2.St) (s : Shared) (H : Hp) (fp : List Addr) : Prop where
  inv : ∃ pins, Inv X pins σ H s
  apart : ∀ b ∈ fp, ∀ x c, X.env.cells.lookup x = some c → c ≠ b
abbrev Blk (X : Cx) (scope : Scope) (s : Shared) (H : Hp) (C : Addr) (cl : List (Str × Addr)) (fp : List Addr) : Cx := X.blk s H scope (compEnvC scope cl C X.env) fp
theorem pe_lcS {elt tg iter : Expr} {ifs : List Expr} {scope : Scope} {own : List (Str × Nat)} {pos : Pos} {wi : TI} {g : TG} {tt : L2.St → TT} {te : L2.St → TE} (hN : X.N.Nodup) (hi : PI X tg iter wi) (ok : BlkOk X.N X.env.scope scope own)
    (hg : ∀ s H C cl fp, PG (Blk X scope s H C cl fp) tg g) (ht : ∀ σ s H C cl fp, Began X σ s H fp → PTs (Blk X scope s H C cl fp) ifs (tt σ)) (he : ∀ σ s H C cl fp, Began X σ s H fp → PE (Blk X scope s H C cl fp) elt (te σ)) (hc : X.calm = true := by rfl)
    (hs : ∀ x, foldedSetIterable iter X.env x = pure x := by intro _; rfl) : PE X (.ListComp elt [⟨tg, iter, ifs, 0⟩] scope pos) (fun σ H Q => tLc wi g (tt σ) (te σ) (own.map (·.2)) σ H Q) := by
  refine ⟨fun pins s σ H Q I h => ?_⟩
  rw [eval_ListComp]
  have caps : ∀ y ∈ scope.names, y.2 = .free → ∃ c, X.env.cells.lookup y.1 = some c := fun y hy e => I.ok.has _ (ok.free y hy e)
  refine wpAny_comprehension_free (use := none) rfl hs (closure_ok caps) ok.kind (fun y hy e => by rw [ok.uniq y hy, e]) (thn (hi.run pins s σ H _ I h) fun xv s1 hx => thn hx fun itv s2 h2 => ?_)
  obtain ⟨it, fp, tn, J, H2, rfl, I2, T, st2, f2, q⟩ := h2
  refine wpAny_newObj_type (newEnv_comp ?_) (Nat.zero_le _)
  -- D: the new list; S: the state with it; G: what is held then
  obtain ⟨D, hD⟩ : ∃ D, s2.heap.objs.size = D := ⟨_, rfl⟩
  have fD : H2 D = none := I2.hok.fresh (Nat.le_of_eq hD)
  obtain ⟨W, ⟨m0, w0⟩, turn⟩ := q D fD
  obtain ⟨S, hS⟩ : ∃ S : Shared, ({ s2 with heap := s2.heap.push { cls := .type "list", data := .seq ([] : List Value).toArray } } : Shared) = S := ⟨_, rfl⟩
  obtain ⟨G, hG⟩ : ∃ G : Hp, upd H2 D (.lst []) = G := ⟨_, rfl⟩
  have hSh : S.heap = s2.heap.push { cls := .type "list", data := .seq ([] : List Value).toArray } := by rw [← hS]
  have IS : Inv X pins σ G S := by
    rw [← hS, ← hG]
    exact I2.laid (t' := s2.toks) (fun b o e => Heap.get?_push_of_some _ e) (Nat.le_of_eq hD) ⟨Nat.zero_le _, [], 0, .nil, by rw [← hD]; exact Heap.get?_push_size _ rfl⟩
  have kS : ∀ b o, s2.heap.get? b = some o → S.heap.get? b = some o := fun b o e => by
    rw [hSh]
    exact Heap.get?_push_of_some _ e
  have fS : ∀ b ∈ fp, FpOk X pins G b ∧ b < S.heap.objs.size := fun b hb => by
    obtain ⟨o, e, _⟩ := T.obj _ _ st2 b hb
    have lt := Heap.lt_size e
    refine ⟨⟨?_, (f2 b hb).2⟩, Heap.lt_size (kS b o e)⟩
    rw [← hG, upd_ne (by rw [← hD]; exact Nat.ne_of_lt lt)]
    exact (f2 b hb).1
  have beg : Began X σ S G fp := ⟨⟨pins, IS⟩, fun b hb => (fS b hb).1.2.2.2.2.1⟩
  have stS : tn 0 S.heap := T.keep _ _ _ st2 fun b _ o e => kS b o e
  have IB := block_start IS ok hN fS
  obtain ⟨cl, hcl⟩ : ∃ cl, cellsFrom (S.heap.objs.size + 1) scope.names (cloFrom X.env.cells scope.names []) = cl := ⟨_, rfl⟩
  rw [hcl] at IB
  have pg := hg S G S.heap.objs.size cl fp
  have pt := ht σ S G S.heap.objs.size cl fp beg
  have pe := he σ S G S.heap.objs.size cl fp beg
  obtain ⟨ce, hce⟩ : ∃ ce, compEnvC scope cl S.heap.objs.size X.env = ce := ⟨_, rfl⟩
  have ceL : ce.locals = S.heap.objs.size := by
    rw [← hce]
    rfl
  simp only [Blk] at pg pt pe
  rw [hce] at IB pg pt pe
  have nfp : ∀ b ∈ fp, G b = none := fun b hb => (fS b hb).1.1
  obtain ⟨S4, hS4⟩ : ∃ S4 : Shared, ({ S with heap := pushCells (S.heap.push { cls := .type "dict", data := .dict #[] }) scope.names } : Shared) = S4 := ⟨_, rfl⟩
  rw [hS4] at IB
  have st4 : tn 0 S4.heap := T.keep _ _ _ stS fun b _ o e => by
    rw [← hS4]
    exact pushCells_keeps _ _ _ _ (Heap.get?_push_of_some _ e)
  have fpB : ∀ {σ' : L2.St} {H' : Hp} {s' : Shared}, Inv (X.blk S G scope ce fp) [] σ' H' s' → (∀ b ∈ fp, H' b = none) → ∀ b ∈ fp, FpOk (X.blk S G scope ce fp) [] H' b := fun {σ' H' s'} I' hn b hb =>
    ⟨hn b hb, (I'.ok.exf b hb).1, I'.ok.exfs b hb, .inl hb, fun x c e => (I'.ok.exf b hb).2 x c e, fun p hp => absurd (show p ∈ ([] : List (Addr × Obj)) ++ [] from hp) (by simp)⟩
  have goal : codeAny (model X.prog X.w) X.A (.compLoop (.ListComp elt [⟨tg, iter, ifs, 0⟩] scope pos) 0 (.ref it) (.ref D) ce) (compPost (model X.prog X.w) X.A X.xe none (EP X pins σ Q) (.ref D) S.heap.objs.size) S4 := by
    refine compLoop_any (fun n s' => ∃ i H', Inv (X.blk S G scope ce fp) [] (wipe σ (own.map (·.2))) H' s' ∧ tn i s'.heap ∧ (∀ b ∈ fp, H' b = none) ∧ W i n H') ?_ m0 ⟨0, G, IB, st4, nfp, hG ▸ w0⟩
    rintro n s5 ⟨i, H5, I5, st5, n5, w5⟩
    rcases turn i n H5 w5 with ⟨stop, qq⟩ | ⟨go, Nx, hNx, step⟩
    · refine thnF (T.done (X.blk S G scope ce fp) rfl rfl rfl hc i [] s5 _ H5 (fun _ _ => False) I5 (fpB I5 n5) st5 stop) fun r s6 ⟨hr, I6⟩ => ?_
      subst hr
      have I7 : Inv X pins σ H5 s6 := IS.call' (ch := fp) I6.os I6.base I6.hok I6.bare fun b hb => let z := (fS b hb).1.2; ⟨z.2.2.1, z.1, z.2.2.2.1, z.2.2.2.2⟩
      have nC : H5 S.heap.objs.size = none := ceL ▸ I6.free
      obtain ⟨m, hn, _⟩ := I6.loc
      have hn : s6.heap.Ns S.heap.objs.size m := ceL ▸ hn
      obtain ⟨f0, f1, f2', f3, f4, f5⟩ := IS.fpOk (Nat.le_refl _) nC
      exact ⟨m, hn, fun h'' sb => ⟨.ref D, H5, I7.turned (t' := s6.toks) (fun b o hb e => (sb.2 b hb).trans e) f0 f1 f3 f4 f5, rfl, qq⟩⟩
    · refine thnF (T.item (X.blk S G scope ce fp) rfl rfl rfl hc i [] s5 _ H5 (fun _ _ => False) I5 (fpB I5 n5) st5 go) fun r s6 ⟨u, hr, h6⟩ => ?_
      subst hr
      refine thnF h6 fun _ s7 ⟨x, H7, I7, r7, y7, st7, n7⟩ => ?_
      refine thnF (pg.run _ s7 _ H7 x u _ (I7.pinned (fpB I7 n7) (T.obj _ _ st7)) r7 (step x H7 y7)) fun _ s8 ⟨σ8, H8, I8, hw8, q8⟩ => ?_
      refine thnF (pt.run _ s8 σ8 H8 _ I8 q8) fun b s9 ⟨H9, I9, q9⟩ => ?_
      have fin : ∀ {s' : Shared} {H' : Hp}, Inv (X.blk S G scope ce fp) ([] ++ pinsAt fp s7.heap) σ8 H' s' → Nx H' → ∃ m, m < n ∧ ∃ i H', Inv (X.blk S G scope ce fp) [] (wipe σ (own.map (·.2))) H' s' ∧ tn i s'.heap ∧ (∀ b ∈ fp, H' b = none) ∧ W i m H' := fun {s' H'} I' nx => by
        obtain ⟨m', hm, w'⟩ := hNx H' nx
        have pin' : ∀ b ∈ fp, ∀ o, s7.heap.get? b = some o → s'.heap.get? b = some o ∧ H' b = none := fun b hb o e =>
          let z := I'.pin (b, o) (List.mem_append_right _ (List.mem_append_right _ (mem_pinsAt hb e)))
          ⟨z.1, z.2.1⟩
        refine ⟨m', hm, i + 1, H', (I'.unpinned (pins := [])).weak (by rw [← hw8, wipe_length]) (fun j v e => ?_), T.keep _ _ _ st7 fun b hb o e => (pin' b hb o e).1, fun b hb => ?_, w'⟩
        · exact (wipe_some (hw8 ▸ e)).1
        · obtain ⟨o, e, _⟩ := T.obj _ _ st7 b hb
          exact (pin' b hb o e).2
      cases b with
      | false => exact fin I9 (by simpa using q9)
      | true =>
        have q9 : te σ σ8 H9 fun y H4 => ∃ acc, H4 D = some (.lst acc) ∧ acc.length < sizeLine ∧ Nx (upd H4 D (.lst (acc ++ [y]))) := by simpa using q9
        refine thnF (pe.run _ s9 σ8 H9 _ I9 q9) fun z s10 ⟨yv, H10, I10, r10, acc, hD10, hz10, nx⟩ => ?_
        exact app_ok (X := X.blk S G scope ce fp) I10 hD10 hz10 r10 fun s11 I11 => fin I11 nx
  have fine := codeAny_compStart_list goal (T.self X.A 0 _ _ _ st4 goal)
  rw [← hce, ← hcl, ← hS4, ← hD, ← hS] at fine
  exact fine
end
end Cn
/-! readings that leave the heap as it is -/
namespace Cn
open PySem PySem.Spec PyProof.Rows L2
def VP (te : TE) (σ : L2.St) (H : Hp) (v : V) : Prop := ∀ Q : VK, Q v H → te σ H Q
def BP (t : TT) (σ : L2.St) (H : Hp) (b : Bool) : Prop := ∀ Q : Bool → Hp → Prop, Q b H → t σ H Q
def RP (r : R2) (x y : V) (H : Hp) (v : V) : Prop := ∀ Q : VK, Q v H → r x y H Q
section
variable {σ : L2.St} {H : Hp} {t u : TT} {ta tb tc te : TE} {b c : Bool} {x y z v : V} {r r' : R2}
theorem test_p (h : VP te σ H (.bl b)) : BP (tTest te) σ H b := fun Q k => h _ ⟨b, rfl, k⟩
theorem not_p (h : BP t σ H b) : BP (tNot t) σ H (!b) := fun Q k => h _ k
theorem or_p (h : BP t σ H b) (h2 : b = false → BP u σ H c) : BP (tOr t u) σ H (b || c) := fun Q k => h _ (by
  cases b with
  | false => exact ite_ff (h2 rfl _ k)
  | true => exact ite_tt k)
theorem and_p (h : BP t σ H b) (h2 : b = true → BP u σ H c) : BP (tAnd t u) σ H (b && c) := fun Q k => h _ (by
  cases b with
  | false => exact ite_ff k
  | true => exact ite_tt (h2 rfl _ k))
theorem orv_p (h : VP ta σ H (.bl b)) (h2 : b = false → VP tb σ H (.bl c)) : VP (tOrV ta tb) σ H (.bl (b || c)) := fun Q k => h _ ⟨b, rfl, by
  cases b with
  | false => exact ite_ff (h2 rfl _ k)
  | true => exact ite_tt k⟩
theorem andv_p (h : VP ta σ H (.bl b)) (h2 : b = true → VP tb σ H (.bl c)) : VP (tAndV ta tb) σ H (.bl (b && c)) := fun Q k => h _ ⟨b, rfl, by
  cases b with
  | false => exact ite_ff k
  | true => exact ite_tt (h2 rfl _ k)⟩
theorem chain_p (ha : VP ta σ H x) (hb : VP tb σ H y) (h1 : RP r x y H (.bl b)) (hc : b = true → VP tc σ H z) (h2 : b = true → RP r' y z H (.bl c)) : VP (tChain r r' ta tb tc) σ H (.bl (b && c)) := fun Q k => ha _ (hb _ (h1 _ ⟨b, rfl, by
  cases b with
  | false => exact ite_ff k
  | true => exact ite_tt (hc rfl _ (h2 rfl _ k))⟩))
/-- the links -/
def CP (t : V → TT) (x : V) (σ : L2.St) (H : Hp) (b : Bool) : Prop := BP (t x) σ H b
theorem last_p (hb : VP tb σ H y) (h : RP r x y H (.bl b)) : CP (tLast r tb) x σ H b := fun Q k => hb _ (h _ ⟨b, rfl, k⟩)
theorem link_p {t : V → TT} (hb : VP tb σ H y) (h : RP r x y H (.bl b)) (h2 : b = true → CP t y σ H c) : CP (tLink r tb t) x σ H (b && c) := fun Q k => hb _ (h _ ⟨b, rfl, by
  cases b with
  | false => exact ite_ff k
  | true => exact ite_tt (h2 rfl _ k)⟩)
theorem ch_p {t : V → TT} (ha : VP ta σ H x) (h : CP t x σ H b) : BP (fun σ H Q => ta σ H fun x H1 => t x σ H1 Q) σ H b := fun Q k => ha _ (h _ k)
theorem ifs_p {D : Ends} {p q : TS} (h : BP t σ H b) (h1 : b = true → p D σ H) (h2 : b = false → q D σ H) : tIfS t p q D σ H := h _ (by
  cases b with
  | false => exact ite_ff (h2 rfl)
  | true => exact ite_tt (h1 rfl))
theorem rI_p {f : Int → Int → V} {i j : Int} : RP (rI0 f) (.int i) (.int j) H (f i j) := fun Q k => ⟨_, _, rfl, rfl, k⟩
end
end Cn
namespace Cn
open PySem PySem.Spec PyProof.Rows L2
section
variable {X : Cx} {s : Shared} {H : Hp} {sc : Scope} {ce : Env} {fp : List Addr}
theorem blk_K : (X.blk s H sc ce fp).K = X.K := rfl
theorem blk_w : (X.blk s H sc ce fp).w = X.w := rfl
theorem blk_prog : (X.blk s H sc ce fp).prog = X.prog := rfl
theorem yes_ap {σ : L2.St} {H : Hp} {Q : Bool → Hp → Prop} (h : Q true H) : tYes σ H Q := h
theorem yes_it {σ : L2.St} {H : Hp} {P R : Hp → Prop} (h : P H) : tYes σ H (fun b H3 => if b = true then P H3 else R H3) := h
theorem PE.at_ {e : Expr} {t t' : TE} (h : PE X e t) (q : t = t') : PE X e t' := q ▸ h
theorem PG.at_ {e : Expr} {t t' : TG} (h : PG X e t) (q : t = t') : PG X e t' := q ▸ h
theorem PTs.at_ {e : List Expr} {t t' : TT} (h : PTs X e t) (q : t = t') : PTs X e t' := q ▸ h
end
end Cn
namespace Cn
open PySem PySem.Spec PyProof.Rows L2
theorem nx_ap {t : L2.St → Hp → Prop} {rt : VK} {bk ct : L2.St → Hp → Prop} {σ : L2.St} {H : Hp} (h : t σ H) : (Ends.mk t rt bk ct).nx σ H := h
end Cn
namespace Cn
open PySem PySem.Spec PyProof.Rows L2
/-- a statement and the rest, by what holds between -/
theorem seqJ {t u : TS} {rt : VK} {nx bk ct : L2.St → Hp → Prop} {σ : L2.St} {H : Hp} (J : L2.St → Hp → Prop) (h1 : ∀ R : L2.St → Hp → Prop, (∀ σ H, J σ H → R σ H) → t ⟨R, rt, bk, ct⟩ σ H) (h2 : ∀ σ H, J σ H → u ⟨nx, rt, bk, ct⟩ σ H) : tSeq t u ⟨nx, rt, bk, ct⟩ σ H := h1 _ h2
end Cn
namespace Cn
open PySem PySem.Spec PyProof.Rows L2
theorem ru1 {k : Nat} {A : Around} (r : Room k A) : A.units + 1 < cLine := by have := r.un; omega
end Cn
namespace Cn
open PySem PySem.Spec PyProof.Rows L2 LamX
section
variable {X : Cx}
theorem letsL {A : Around} {outer : List Env} {s : Shared} {H : Hp} {E : XK} {scope : Scope} {f c' : Addr} : Lets (lamCx X A outer s H E scope f c') E :=
  passes_call (takes_of rfl rfl rfl rfl) (fun _ _ _ _ z => z)
/-- told(lambda: body), at once -/
theorem pe_toldL {T : List (Addr × Str)} {d : He.DefD} {CS c P : Addr} {x a ret en : Str} {k j : Nat} {Ng : List Str} {params : Arguments} {body : Expr} {scope : Scope} {t : XK → TE} {p lpos pos : Pos} {jj : Nat} {q1 q2 q3 q4 q5 q6 q7 q8 : Pos}
    (F : ∃ fd, FunD X.K d.name d.qual d.params d.body d.scope (d.dvs X.K) (d.kws X.K) (He.fAd X.K d.at_) fd) (hdf : d.dfl = []) (hm : X.mg x = some (.ref (He.fAd X.K d.at_))) (hqx : d.qual = x) (hnx : d.name = x)
    (hb : ∀ (kV doc pm : Value) (an : Option Addr) (cdv ct : Value) (us : List Value), us.length = 1 → bindArgs (PySem.W.fnOf d.name d.qual d.params d.body d.scope .none kV doc pm an cdv ct) ⟨us, []⟩ = pure ([a].zip us))
    (Sg : FnScope Ng [a] d.scope) (hNg : Ng[0]? = some a) (h0 : ∀ f : Addr, (L2.start Ng [V.ref f])[0]? = some (some (V.ref f))) (hva : Vis d.scope a)
    (hbd : d.body = [.Try [.Return (some (.Call (.Name a q1) [] [] q2)) q3] [.ExceptHandler (some (.Name en q4)) none [.Return (some (.Constant (.str ret) jj q5)) q6] q7] [] [] q8])
    (hge : d.scope.names.lookup en = some .globalImplicit) (hme : X.mg en = some (.ref CS)) (hde : (en == ("__debug__" : Str)) = false)
    (TB : TabB X.base X.mg c P) (hcode : X.env.code = .ref c) (hmT : (P, X.env.qual ++ "<lambda>") ∈ T) (hu : ∀ p ∈ T, p.1 = P → p.2 = X.env.qual ++ "<lambda>")
    (hr : Room j X.A) (hkj : k + 2 ≤ j) (hL : lamSB X.env.scope scope = true) (hdef : defaultsOf params X.env = ([], []))
    (hbind : ∀ (q : Str) (cl : List (Str × Addr)) (pm cv ctv : Value), bindArgs (PySem.W.kla_fn "<lambda>" q params body scope cl pm cv ctv) ⟨[], []⟩ = pure [])
    (hbody : ∀ (A : Around) (outer : List Env) (s : Shared) (H : Hp) (E : XK) (f c' : Addr), Room k (A.deeper (lamEnv X scope s.heap.objs.size f c')) → PE (lamCx X A outer s H E scope f c') body (t E))
    (hg : Gl X x := by rfl) (hdb : (x == ("__debug__" : Str)) = false := by decide) (hda : (a == ("__debug__" : Str)) = false := by decide) (hdc : (a == ("__classdict__" : Str)) = false := by decide) :
    PE X (.Call (.Name x p) [.Lambda params body scope lpos] [] pos) (tLam T (TTold X.K CS ret) t) := by
  obtain ⟨fd, F⟩ := F
  obtain ⟨oc, od, dV, kV, doc, pm, an, cdv, ct, osl, rfl, lk, hcd, hD, _⟩ := F.ex
  obtain rfl : dV = Value.none := by
    have e : d.dvs X.K = [] := by unfold He.DefD.dvs; rw [hdf] <;> rfl
    rcases hD with ⟨_, z⟩ | ⟨z, _⟩
    · exact z
    · exact absurd e z
  have kp := F.kp
  rw [hnx, hqx] at lk
  rw [hqx] at hcd
  have hb' : L2.Binds X.K (PySem.W.fnOf x x d.params d.body d.scope .none kV doc pm an cdv ct) [a] [] := Binds.all fun us hl => by
    have := hb kV doc pm an cdv ct us hl
    rw [hnx, hqx] at this
    exact this
  have G := told_gives (X := X) (Ng := Ng) (x := x) (sg := d.scope) (g := He.fAd X.K d.at_) (CS := CS) (cdg := cdv) (ret := ret) (e := en) (q := X.env.qual ++ "<lambda>") (a := a) (j := jj) (p1 := q1) (p2 := q2) (p3 := q3) (p4 := q4) (p5 := q5) (p6 := q6) (p7 := q7) (p8 := q8) hge hme hde h0
  rw [← hbd] at G
  exact pe_lamcall hg hm kp lk hcd hb' Sg hNg hva G TB hcode hmT hu (hr.mono hkj) (lamS_by hL) hdef hbind hbody hdb hda hdc
end
end Cn
/-! list comprehensions: pure ones, copies -/
namespace Cn
open PySem PySem.Spec PyProof.Rows L2 LamX
theorem wipe1 {σ : L2.St} {s : Nat} {v : Option V} : wipe ((wipe σ [s]).set s v) [s] = wipe σ [s] := by
  show ((σ.set s none).set s v).set s none = σ.set s none
  rw [List.set_set, List.set_set]
/-- [e for x in xs], e leaves the heap as it is -/
theorem lcP {J : It} {G : Hp → Prop} {xs : List V} (w : Walk J xs.length G (YAt xs)) {s : Nat} {te : TE} {σ : L2.St} {H1 : Hp} {D : Addr} {Qd : Hp → Prop} (f : Nat → V) (nz : xs.length ≤ sizeLine) (hG : ∀ acc, G (upd H1 D (.lst acc)))
    (he : ∀ i x acc, xs[i]? = some x → VP te ((wipe σ [s]).set s (some x)) (upd H1 D (.lst acc)) (f i)) (hd : Qd (upd H1 D (.lst ((List.range xs.length).map f)))) :
    ∃ W : Nat → Nat → Hp → Prop, (∃ m, W 0 m (upd H1 D (.lst []))) ∧ ∀ i m H, W i m H →
      (J.stop i H ∧ Qd H) ∨ (J.go i H ∧ ∃ Nx : Hp → Prop, (∀ H', Nx H' → ∃ m', m' < m ∧ W (i + 1) m' H') ∧ ∀ x H', J.yld i H x H' → gName s x (wipe σ [s]) H' fun σ2 H2 => wipe σ2 [s] = wipe σ [s] ∧ tYes σ2 H2 fun b H3 =>
        if b = true then te σ2 H3 fun y H4 => ∃ acc, H4 D = some (.lst acc) ∧ acc.length < sizeLine ∧ Nx (upd H4 D (.lst (acc ++ [y]))) else Nx H3) := by
  refine lc_it w (fun i H' => H' = upd H1 D (.lst ((List.range i).map f))) rfl (fun i H' _ e => by rw [e]; exact hG _) ?_ ?_
  · rintro i x H2 H3 hi rfl ⟨rfl, hx⟩
    refine ⟨wipe1, yes_it ?_⟩
    refine he i x _ hx _ ⟨_, upd_same, ?_, ?_⟩
    · rw [List.length_map, List.length_range]
      exact Nat.lt_of_lt_of_le hi nz
    · rw [upd_upd, List.range_succ, List.map_append] <;> rfl
  · rintro H2 rfl
    exact hd
abbrev rListOf (K : PySem.W.Frag) : List V → Hp → VK → Prop := fun xs H Q => ∃ p ys, xs = [V.ref p] ∧ (SqL K H p ys ∨ SqT K H p ys) ∧ ∀ l, H l = none → Q (.ref l) (upd H l (.lst ys))
/-- [list(x) for x in xs], xs lists: new lists with the same items -/
theorem lcCopy {K : PySem.W.Frag} {T : List (Addr × Str)} {b : Addr} {as : List Addr} {rv : Nat → List V} {s : Nat} {σ : L2.St} {H1 : Hp} {D : Addr} {Qd : Hp → Prop} (hs : s < σ.length) (hb : H1 b = some (.lst (as.map V.ref))) (hr : ∀ (i : Nat) (a : Addr), as[i]? = some a → H1 a = some (.lst (rv i))) (nz : as.length ≤ sizeLine) (nD : H1 D = none)
    (hd : ∀ H' (as2 : List Addr), H' D = some (.lst (as2.map V.ref)) → as2.length = as.length → (∀ (i : Nat) (a : Addr), as2[i]? = some a → H' a = some (.lst (rv i))) → as2.Nodup → (∀ a ∈ as2, Nw H1 a) → Fr T [] H1 H' → Qd H') :
    ∃ W : Nat → Nat → Hp → Prop, (∃ m, W 0 m (upd H1 D (.lst []))) ∧ ∀ i m H, W i m H →
      ((Itl K b).stop i H ∧ Qd H) ∨ ((Itl K b).go i H ∧ ∃ Nx : Hp → Prop, (∀ H', Nx H' → ∃ m', m' < m ∧ W (i + 1) m' H') ∧ ∀ x H', (Itl K b).yld i H x H' → gName s x (wipe σ [s]) H' fun σ2 H2 => wipe σ2 [s] = wipe σ [s] ∧ tYes σ2 H2 fun b H3 =>
        if b = true then tCB (rListOf K) (tCons (tVar s) tNil) σ2 H3 fun y H4 => ∃ acc, H4 D = some (.lst acc) ∧ acc.length < sizeLine ∧ Nx (upd H4 D (.lst (acc ++ [y]))) else Nx H3) := by
  have hl : (as.map V.ref).length = as.length := List.length_map ..
  refine lc_list (fun i H' => ∃ as2 : List Addr, as2.length = i ∧ H' D = some (.lst (as2.map V.ref)) ∧ (∀ (j : Nat) (a : Addr), as2[j]? = some a → H' a = some (.lst (rv j))) ∧ as2.Nodup ∧ (∀ a ∈ as2, Nw H1 a ∧ a ≠ D) ∧ Fr T [] H1 H') ⟨[], rfl, upd_same, fun _ _ z => by simp at z, by simp, fun _ z => by simp at z, Fr.new nD⟩ (fun i H' _ ⟨_, _, _, _, _, _, f⟩ => SqL.of (f.l hb (by simp))) ?_ ?_
  · rintro i x H2 hx ⟨as2, hlen, hD, hR, hn, hw, f⟩
    obtain ⟨a, ha, rfl⟩ : ∃ a, as[i]? = some a ∧ x = V.ref a := by
      rw [List.getElem?_map] at hx
      cases e : as[i]? with
      | none => rw [e] at hx; cases hx
      | some q => rw [e] at hx; exact ⟨q, rfl, (Option.some.inj hx).symm⟩
    have hi : i < as.length := (List.getElem?_eq_some_iff.mp ha).1
    refine ⟨wipe1, yes_it ?_⟩
    have hsv : ((wipe σ [s]).set s (some (V.ref a)))[s]? = some (some (V.ref a)) := by
      rw [List.getElem?_set_self (by rw [wipe_length]; exact hs)]
    refine ⟨_, hsv, _, _, rfl, .inl (SqL.of (f.l (hr i a ha) (by simp))), fun l nl => ?_⟩
    have hD2 := (upd_ne (o := .lst (rv i)) (ne_of_none hD nl)).trans hD
    have nlD : l ≠ D := (ne_of_none hD nl).symm
    have nin : l ∉ as2 := fun m => by
      obtain ⟨j, hj⟩ := List.getElem?_of_mem m
      have := hR j l hj
      rw [nl] at this
      cases this
    refine ⟨_, hD2, ?_, as2 ++ [l], by simp [hlen], ?_, fun j c hc => ?_, ?_, fun c hc => ?_, ?_⟩
    · rw [List.length_map, hlen]
      exact Nat.lt_of_lt_of_le hi nz
    · rw [List.map_append]
      exact upd_same
    · by_cases e : j < as2.length
      · rw [List.getElem?_append_left e] at hc
        have h2 := hR j c hc
        exact (upd_ne (hw c (List.mem_of_getElem? hc)).2).trans ((upd_ne (ne_of_none h2 nl)).trans h2)
      · rw [List.getElem?_append_right (Nat.le_of_not_lt e)] at hc
        have e0 : j - as2.length = 0 := by
          obtain ⟨z, _⟩ := List.getElem?_eq_some_iff.mp hc
          have z' : j - as2.length < 1 := z
          omega
        have ej : j = i := by omega
        rw [e0] at hc
        cases hc
        rw [ej]
        exact (upd_ne nlD).trans upd_same
    · rw [List.nodup_append]
      exact ⟨hn, by simp, fun x hx y hy z => nin (by rw [List.mem_singleton.mp hy] at z; rw [← z]; exact hx)⟩
    · rcases List.mem_append.mp hc with z | z
      · exact hw c z
      · rw [List.mem_singleton.mp z]
        exact ⟨Nw.of f nl (by simp), nlD⟩
    · exact f.transW ((Fr.new nl (S := [D])).trans (Fr.upd hD2 rfl (List.mem_singleton.mpr rfl))) fun c hc => .inr (by rw [List.mem_singleton.mp hc]; exact Nw.none nD)
  · rintro H2 ⟨as2, hlen, hD, hR, hn, hw, f⟩
    rw [hl] at hlen
    exact hd H2 as2 hD hlen hR hn (fun a ha => (hw a ha).1) f
end Cn
namespace Cn
open PySem PySem.Spec PyProof.Rows L2
theorem gname_ap {i : Nat} {v : V} {σ : L2.St} {H : Hp} {Q : L2.St → Hp → Prop} (h : Q (σ.set i (some v)) H) : gName i v σ H Q := h
end Cn
namespace Cn
open PySem PySem.Spec PyProof.Rows L2
/-! lists of ints as data -/
def dI (ns : List Int) : PyData := .list (ns.map PyData.int)
theorem dpAll_ints {K : PySem.W.Frag} {H : Hp} : ∀ ns : List Int, DpAll K H (ns.map V.int) (ns.map PyData.int)
  | [] => .nil
  | n :: r => .cons (.int n) (dpAll_ints r)
theorem dp_ints {K : PySem.W.Frag} {H : Hp} {a : Addr} {ns : List Int} (h : SqL K H a (ns.map V.int)) : Dp K H (.ref a) (dI ns) := .lst h (dpAll_ints ns)
theorem can_ints : ∀ ns : List Int, PyData.canLayAll0 (ns.map PyData.int) = true
  | [] => rfl
  | n :: r => by
    show (PyData.canLay0 (.int n) && PyData.canLayAll0 (r.map PyData.int)) = true
    rw [can_ints r] <;> rfl
theorem depth_ints : ∀ ns : List Int, PyData.depthAll (ns.map PyData.int) ≤ 1
  | [] => Nat.zero_le _
  | n :: r => by
    show max (PyData.depth (.int n)) (PyData.depthAll (r.map PyData.int)) ≤ 1
    have := depth_ints r
    have : PyData.depth (.int n) ≤ 1 := by simp [PyData.depth]
    omega
theorem can_dI (ns : List Int) : PyData.canLay0 (dI ns) = true := by
  show PyData.canLayAll0 (ns.map PyData.int) = true
  exact can_ints ns
theorem shaped_ints (ns : List Int) : SeqAt.shaped (dI ns) = true := by
  unfold SeqAt.shaped
  rw [can_dI, Bool.true_and]
  refine decide_eq_true ?_
  have h := depth_ints ns
  unfold dI
  simp only [PyData.depth]
  omega
theorem eqv_ints (ns : List Int) : PyData.eqv (dI ns) (dI ns) = true := SeqAt.eqv_refl _ (can_dI ns)
theorem ite_no {c : Bool} {P Q : Prop} (h : c = false) (q : Q) : if c = true then P else Q := by
  rw [h]
  exact q
theorem ite_yes {c : Bool} {P Q : Prop} (h : c = true) (q : P) : if c = true then P else Q := by
  rw [h]
  exact q
end Cn
namespace Cn
open PySem PySem.Spec PyProof.Rows L2
theorem ne_said {s : Str} {F n : Int} (h : F < n) : (!decide (V.bl (decide (V.str s = V.str s)) = V.bl (decide (n > F)))) = false := by simp [h]
theorem ne_non {s : Str} {F n : Int} (h : n ≤ F) : (!decide (V.bl (decide (V.non = V.str s)) = V.bl (decide (n > F)))) = false := by
  have : ¬ n > F := by omega
  simp [this]
theorem ne_int {a b : Int} (h : a = b) : (!decide (V.int a = V.int b)) = false := by simp [h]
theorem ne_same (v : V) : (!decide (v = v)) = false := by simp
theorem not_eqv {d : PyData} (h : d.canLay0 = true) : (!PyData.eqv d d) = false := by rw [SeqAt.eqv_refl d h] <;> rfl
end Cn
/-! lambdas in a list, told in a comprehension -/
namespace Cn
open PySem PySem.Spec PyProof.Rows L2 LamX
theorem PE.weak {X : Cx} {e : Expr} {t t' : TE} (h : PE X e t) (w : ∀ σ H Q, t' σ H Q → t σ H Q) : PE X e t' := ⟨fun pins s σ H Q I q => h.run pins s σ H Q I (w σ H Q q)⟩
theorem cap_blk {X : Cx} {σ : L2.St} {s : Shared} {H : Hp} {fp : List Addr} {scope lsc : Scope} {C : Addr} {cl : List (Str × Addr)} (B : Began X σ s H fp) (L : LamS X.env.scope lsc) {pins : List (Addr × Obj)} {σ' : L2.St} {H' : Hp} {s' : Shared} (I : Inv (Blk X scope s H C cl fp) pins σ' H' s') :
    X.Ok ∧ σ.length = X.N.length ∧ CapAt X lsc σ s'.heap H' := by
  obtain ⟨⟨pins0, I0⟩, ap⟩ := B
  exact ⟨I0.ok, I0.len, (CapAt.of I0 L).un I.base (fun y c e m => ap c m y c e rfl)⟩
def lamPr (d : Arguments) : Expr → Arguments
  | .Lambda p _ _ _ => p
  | _ => d
def lamBd : Expr → Expr
  | .Lambda _ b _ _ => b
  | e => e
def lamSc (d : Scope) : Expr → Scope
  | .Lambda _ _ s _ => s
  | _ => d
def listEs : Stmt → List Expr
  | .Assign _ (.List es _) _ => es
  | _ => []
/-- lambdas stand at the addresses fs -/
def LamsAt (q : Str) (cells : List (Str × Addr)) (da : Arguments) (ds : Scope) (E : Nat → Expr) (H : Hp) (fs : List Addr) : Prop :=
  ∀ (i : Nat) (f : Addr), fs[i]? = some f → ∃ c', H f = some (LamO f q (lamPr da (E i)) (lamBd (E i)) (lamSc ds (E i)) (cloFrom cells (lamSc ds (E i)).names []) c') ∧ H c' = some (CodeO c' q)
theorem LamsAt.nil {q : Str} {cells : List (Str × Addr)} {da : Arguments} {ds : Scope} {E : Nat → Expr} {H : Hp} : LamsAt q cells da ds E H [] := fun i f h => by simp at h
theorem LamsAt.ext {q : Str} {cells : List (Str × Addr)} {da : Arguments} {ds : Scope} {E : Nat → Expr} {H H1 : Hp} {fs : List Addr} (h : LamsAt q cells da ds E H fs) (e : ExtN H H1) : LamsAt q cells da ds E H1 fs := fun i f hf => by
  obtain ⟨c', h1, h2⟩ := h i f hf
  exact ⟨c', e _ _ h1 fun ps => lamO_ne ps, e _ _ h2 fun ps z => by unfold CodeO at z; cases z⟩
theorem LamsAt.snoc {q : Str} {cells : List (Str × Addr)} {da : Arguments} {ds : Scope} {E : Nat → Expr} {H H1 : Hp} {fs : List Addr} {f c' : Addr} (h : LamsAt q cells da ds E H fs) (e : ExtN H H1)
    (h1 : H1 f = some (LamO f q (lamPr da (E fs.length)) (lamBd (E fs.length)) (lamSc ds (E fs.length)) (cloFrom cells (lamSc ds (E fs.length)).names []) c')) (h2 : H1 c' = some (CodeO c' q)) : LamsAt q cells da ds E H1 (fs ++ [f]) := fun i g hg => by
  by_cases z : i < fs.length
  · rw [List.getElem?_append_left z] at hg
    exact h.ext e i g hg
  · rw [List.getElem?_append_right (Nat.le_of_not_lt z)] at hg
    have z0 : i - fs.length = 0 := by
      obtain ⟨q, _⟩ := List.getElem?_eq_some_iff.mp hg
      have q' : i - fs.length < 1 := q
      omega
    have ei : i = fs.length := by omega
    rw [z0] at hg
    cases hg
    rw [ei]
    exact ⟨c', h1, h2⟩
theorem pe_toldB {X : Cx} {σ : L2.St} {s0 : Shared} {H0 : Hp} {fp : List Addr} {bsc : Scope} {C : Addr} {cl : List (Str × Addr)} {ι : Type} {d : He.DefD} {CS : Addr} {x a ret en : Str} {k j : Nat} {params : ι → Arguments} {body : ι → Expr} {lsc : ι → Scope} {tb : ι → XK → TE} {te : TE} {e : Expr} {p pos : Pos} {Ng : List Str} {jj : Nat} {q1 q2 q3 q4 q5 q6 q7 q8 : Pos} (B : Began X σ s0 H0 fp)
    (F : ∃ fd, FunD X.K d.name d.qual d.params d.body d.scope (d.dvs X.K) (d.kws X.K) (He.fAd X.K d.at_) fd) (hdf : d.dfl = []) (hm : X.mg x = some (.ref (He.fAd X.K d.at_))) (hqx : d.qual = x) (hnx : d.name = x)
    (hb : ∀ (kV doc pm : Value) (an : Option Addr) (cdv ct : Value) (us : List Value), us.length = 1 → bindArgs (PySem.W.fnOf d.name d.qual d.params d.body d.scope .none kV doc pm an cdv ct) ⟨us, []⟩ = pure ([a].zip us))
    (Sg : FnScope Ng [a] d.scope) (hNg : Ng[0]? = some a) (h0 : ∀ f : Addr, (L2.start Ng [V.ref f])[0]? = some (some (V.ref f))) (hva : Vis d.scope a)
    (hbd : d.body = [.Try [.Return (some (.Call (.Name a q1) [] [] q2)) q3] [.ExceptHandler (some (.Name en q4)) none [.Return (some (.Constant (.str ret) jj q5)) q6] q7] [] [] q8])
    (hge : d.scope.names.lookup en = some .globalImplicit) (hme : X.mg en = some (.ref CS)) (hde : (en == ("__debug__" : Str)) = false)
    (hr : Room j X.A) (hkj : k + 2 ≤ j) (hL : ∀ i, lamSB X.env.scope (lsc i) = true)
    (hbind : ∀ (i : ι) (q : Str) (cl : List (Str × Addr)) (pm cv ctv : Value), bindArgs (PySem.W.kla_fn "<lambda>" q (params i) (body i) (lsc i) cl pm cv ctv) ⟨[], []⟩ = pure [])
    (hbody : ∀ (i : ι) (A : Around) (outer : List Env) (s : Shared) (H : Hp) (E : XK) (f c' : Addr), Room k (A.deeper (lamEnv X (lsc i) s.heap.objs.size f c')) → PE (lamCx X A outer s H E (lsc i) f c') (body i) (tb i E))
    (i0 : ι) (he : PE (Blk X bsc s0 H0 C cl fp) e te) (hg : Gl (Blk X bsc s0 H0 C cl fp) x) (hst : starEach [e] (compEnvC bsc cl C X.env) = (false, eval e (compEnvC bsc cl C X.env)) :: starEach [] (compEnvC bsc cl C X.env) := by rfl) (hdb : (x == ("__debug__" : Str)) = false := by decide) (hda : (a == ("__debug__" : Str)) = false := by decide) (hdc : (a == ("__classdict__" : Str)) = false := by decide) :
    PE (Blk X bsc s0 H0 C cl fp) (.Call (.Name x p) [e] [] pos) (tTold X CS ret (X.env.qual ++ "<lambda>") (fun _ => σ) params body lsc tb te) :=
  pe_told (X := X) F hdf hm hqx hnx hb Sg hNg h0 hva hbd hge hme hde hr hkj rfl hL (fun i cl pm cv ctv => hbind i _ cl pm cv ctv)
    (fun pins σ' H s I => ⟨(cap_blk B (lamS_by (hL i0)) I).1, (cap_blk B (lamS_by (hL i0)) I).2.1, fun i => (cap_blk B (lamS_by (hL i)) I).2.2⟩) hbody he hg hdb hda hdc hst
end Cn
namespace Cn
open PySem PySem.Spec PyProof.Rows L2 LamX
theorem nx_ap2 {t : L2.St → Hp → Prop} {rt : VK} {bk ct : L2.St → Hp → Prop} {σ : L2.St} {H : Hp} (H1 : Hp) (e : H1 = H) (h : t σ H1) : (Ends.mk t rt bk ct).nx σ H := by
  subst e
  exact h
def tLamL (T : List (Addr × Str)) (q : Str) (cells : List (Str × Addr)) : List Expr → TA
  | [] => tNil
  | .Lambda p b s _ :: r => tCons (tLamV T q p b s (cloFrom cells s.names [])) (tLamL T q cells r)
  | _ :: _ => fun _ _ _ => False
def LamOk (X : Cx) : List Expr → Prop
  | [] => True
  | .Lambda p _ s _ :: r => (lamSB X.env.scope s = true ∧ defaultsOf p X.env = ([], [])) ∧ LamOk X r
  | _ :: _ => False
theorem pa_lams {X : Cx} {T : List (Addr × Str)} {c P : Addr} (TB : TabB X.base X.mg c P) (hcode : X.env.code = .ref c) (hmT : (P, X.env.qual ++ "<lambda>") ∈ T) (hu : ∀ p ∈ T, p.1 = P → p.2 = X.env.qual ++ "<lambda>") :
    ∀ Es : List Expr, LamOk X Es → PA X Es (tLamL T (X.env.qual ++ "<lambda>") X.env.cells Es)
  | [], _ => pa_nil
  | e :: r, h => by
    cases e with
    | Lambda p b s pos => exact pa_cons (pe_lam TB hcode hmT hu h.1.1 h.1.2) (pa_lams TB hcode hmT hu r h.2) rfl
    | _ => exact False.elim h
theorem lams_rd {T : List (Addr × Str)} {q : Str} {cells : List (Str × Addr)} {da : Arguments} {ds : Scope} {d0 : Expr} {X : Cx} {σ : L2.St} : ∀ (Es all : List Expr) (H : Hp) (fs : List Addr) (Q : List V → Hp → Prop), LamOk X Es → (∀ i, all.getD (fs.length + i) d0 = Es.getD i d0) → LamsAt q cells da ds (fun i => all.getD i d0) H fs → LamX.Tabs T H →
    (∀ H' hs, Fr T [] H H' → LamX.Tabs T H' → hs.length = Es.length → LamsAt q cells da ds (fun i => all.getD i d0) H' (fs ++ hs) → Q (hs.map V.ref) H') → tLamL T q cells Es σ H Q
  | [], all, H, fs, Q, ok, he, ha, ht, k => k H [] Fr.refl ht rfl (by rw [List.append_nil]; exact ha)
  | e :: r, all, H, fs, Q, ok, he, ha, ht, k => by
    cases e with
    | Lambda p b s pos =>
      refine ⟨ht, fun f c' H1 nf e t h1 h2 => ?_⟩
      have e0 : all.getD fs.length d0 = .Lambda p b s pos := he 0
      have a1 := ha.snoc e (f := f) (c' := c') (by simp only [e0]; exact h1) h2
      refine lams_rd r all H1 (fs ++ [f]) (fun vs H2 => Q (V.ref f :: vs) H2) ok.2 (fun i => ?_) a1 t (fun H' hs f2 t2 l2 a2 => k H' (f :: hs) ((Fr.of_ext e fun _ => t).trans f2) t2 (by simp [l2]) (by rw [List.append_assoc] at a2; exact a2))
      have := he (i + 1)
      have hl : (fs ++ [f]).length + i = fs.length + (i + 1) := by simp; omega
      rw [hl, this] <;> rfl
    | _ => exact False.elim ok
end Cn
namespace Cn
open PySem PySem.Spec PyProof.Rows L2
theorem asg_lst {t : TA} {g : TG} {u : TS} {nx bk ct : L2.St → Hp → Prop} {rt : VK} {σ : L2.St} {H : Hp} (h : t σ H (fun xs H1 => xs.length ≤ sizeLine ∧ ∀ p, H1 p = none → g (.ref p) σ (upd H1 p (.lst xs)) (u ⟨nx, rt, bk, ct⟩))) : tSeq (tAsg (tLst t) g) u ⟨nx, rt, bk, ct⟩ σ H := h
end Cn
namespace Cn
open PySem PySem.Spec PyProof.Rows L2
/-- the law's def, its record told -/
theorem mk_fnT {P : Program} {w : World} {K : PySem.W.Frag} {mg : Str → Option Value} {base : Heap} {d : He.DefD} {N ps : List Str} {k : Nat} {sp : Sp} (hd : d.dfl = []) (S : FnScope N ps d.scope)
    (len : ∀ vs H Q E, sp vs H Q E → vs.length = ps.length)
    (hbody : ∀ (A : Around) (outer : List Env) (s : Shared) (H : Hp) (vs : List V) (Q : VK) (E : XK), Room k (A.deeper (envOfC d.qual d.scope s.heap.objs.size (He.fAd K d.at_) (.ref (He.cT K d.at_).1))) → sp vs H Q E →
      ∃ t, PSs (cxOf (L2.CX P w) P w K mg base N d.qual d.scope (He.fAd K d.at_) (.ref (He.cT K d.at_).1) A outer s H E) d.body t ∧ t { nx := fun _ H' => Q .non H', rt := Q } (start N vs) H) :
    ∀ fd, FunD K d.name d.qual d.params d.body d.scope (d.dvs K) (d.kws K) (He.fAd K d.at_) fd → FnOk P w K mg base (L2.CX P w) (k + 1) (He.fAd K d.at_) fd ps sp := by
  intro fd F
  obtain ⟨oc, od, dV, kV, doc, pm, an, cdv, ct, osl, rfl, lk, hcd, _, _⟩ := F.ex
  obtain ⟨c, rfl⟩ := He.codeIn_ref hcd
  have ec : He.codeOf K d.at_ = c := He.codeOf_eq lk rfl
  refine fn_of lk hcd S len fun A outer s H vs Q E hr hsp => ?_
  have q := hbody A outer s H vs Q E
  have e1 : (He.cT K d.at_).1 = c := ec
  rw [e1] at q
  exact q hr hsp
theorem dvs_nil {d : He.DefD} {K : PySem.W.Frag} (h : d.dfl = []) : d.dvs K = [] := by
  unfold He.DefD.dvs
  rw [h] <;> rfl
end Cn
/-! the least of a list of data, < of data -/
namespace Cn
open PySem PySem.Spec PyProof.Rows L2 PySem.SeqAt PySem.W
section
variable {prog : Program} {w : World} {A : Around} {E : Value → Shared → Prop} {s : Shared}
open SeqAt PySem.W in
theorem min_at {l : Addr} {vs : Array Value} {x : PyData} {xs : List PyData} {as : List Addr} {Q : Value → Shared → Prop} (hd : A.handled = none) (hl : s.heap.IsList l vs) (hr : ReadsAll s.heap vs.toList (x :: xs) as) (al : AlikeAll (x :: xs)) (hu : A.units + 1 + PyData.depthAll (x :: xs) < cLine)
    (q : ∀ (i : Nat) v h' tk, vs[i]? = some v → (x :: xs).getD i PyData.none = minD x xs → (∀ b o, s.heap.get? b = some o → h'.get? b = some o) → Q v { s with heap := h', toks := tk }) :
    wpAny (model prog w) A (call (.builtin "min") [.ref l]) Q E s := by
  have len : vs.size = xs.length + 1 := readsAll_len hr
  refine call_min_walkH (iter_listW (A := A.in1) hd hl fun s2 e W st hfp hw hk => ⟨_, _, _, _, _, _, _, s.heap, _, rfl, W, st, hfp, by omega, hw, hk, cmpIn_lt (A := A.in1) hr al hu, fun v s3 hP m => ?_⟩)
  obtain ⟨h3, tk, rfl, k3⟩ := moved_old e rfl m
  have best := (argBest_fold dataLt PyData.none x xs xs.length (Nat.le_refl _)).2
  rw [List.take_length] at best
  have en : vs.size - 1 = xs.length := by omega
  refine q _ v h3 tk hP ?_ k3
  rw [en]
  exact best
end
def rMinD (K : PySem.W.Frag) : List V → Hp → VK → Prop := fun vs H Q => ∃ (a : Addr) (xs : List V) (d : PyData) (ds : List PyData), vs = [V.ref a] ∧ SqL K H a xs ∧ DpAll K H xs (d :: ds) ∧ PySem.W.AlikeAll (d :: ds) ∧ PyData.depthAll (d :: ds) ≤ 8 ∧
  ∀ (i : Nat) (v : V), xs[i]? = some v → (d :: ds).getD i PyData.none = PySem.W.minD d ds → Q v H
theorem cr_minD {X : Cx} (hc : X.calm = true) (hu : X.A.units + 64 < cLine) : CallR X (.builtin "min") (rMinD X.K) := by
  intro pins s σ H vs us Q I r h
  obtain ⟨a, xs, d, ds, rfl, hs, hd, al, dp, q⟩ := h
  obtain ⟨its, rv, hl, _⟩ := I.list hs
  obtain ⟨as, rr⟩ := Dp.readsAll I (d :: ds) xs its hd rv
  rw [Vals.ref1 r]
  refine min_at (I.ok.hd hc) hl.isList (by simpa using rr) al (by omega) fun i v h' tk hv e k => ?_
  have hv' : its[i]? = some v := by simpa using hv
  have hi : i < xs.length := by
    rw [rv.length]
    exact (List.getElem?_eq_some_iff.mp hv').1
  obtain ⟨u, hu', ru⟩ := rv.get (List.getElem?_eq_getElem hi)
  rw [hv'] at hu'
  cases hu'
  exact ⟨_, H, I.kept k, ru, q i _ (List.getElem?_eq_getElem hi) e⟩
/-- < of alike data -/
def rLtD (K : PySem.W.Frag) : R2 := fun x y H Q => ∃ d e, Dp K H x d ∧ Dp K H y e ∧ alike d e = true ∧ d ≠ .none ∧ d.depth ≤ 64 ∧ Q (.bl (dataLt d e)) H
theorem op_ltD {X : Cx} (hu : X.A.units + 64 < cLine) : OpR X (compareOp .Lt) (rLtD X.K) := by
  intro pins s σ H x y v u Q I rx ry h
  obtain ⟨d, e, hd, he, al, nn, dp, q⟩ := h
  obtain ⟨as, r1⟩ := Dp.reads I d x v hd rx
  obtain ⟨bs, r2⟩ := Dp.reads I e y u he ry
  exact lt_data r1 r2 al nn (by have := Nat.min_le_left d.depth e.depth; omega) ⟨.bl _, H, I, rfl, q⟩
/-- l.remove(x): the first equal one goes -/
def rRemD (K : PySem.W.Frag) : V → List V → Hp → VK → Prop := fun x vs H Q => ∃ (a : Addr) (ys : List V) (y : V) (d : PyData) (ds : List PyData) (j : Nat) (z : PyData), x = V.ref a ∧ vs = [y] ∧ H a = some (.lst ys) ∧ DpAll K H ys ds ∧ Dp K H y d ∧
  SeqAt.shaped (.list ds) = true ∧ SeqAt.shaped d = true ∧ ds[j]? = some z ∧ PyData.eqv z d = true ∧ (∀ (m : Nat) (z' : PyData), m < j → ds[m]? = some z' → PyData.eqv z' d = false) ∧ Q .non (upd H a (.lst (ys.eraseIdx j)))
theorem mt_removeD {X : Cx} (hu : X.A.units + 65 < cLine) : MtM X "list.remove" (rRemD X.K) := by
  intro pins s σ H x xs v us Q I rx rxs h
  obtain ⟨a, ys, y, d, ds, j, z, rfl, rfl, hl, hd, hy, sl, sd, hz, hzj, hno, q⟩ := h
  cases rx
  obtain ⟨uy, rfl, ry⟩ := rxs.one
  obtain ⟨bs, r1⟩ := Dp.reads I d y uy hy ry
  obtain ⟨zl, its, n, rv, hlen, ho⟩ := I.lstM hl
  have can : PyData.canLayAll0 ds = true := SeqAt.canLay_of_shaped sl
  have room : X.A.units + 1 + min (PyData.depthAll ds) d.depth < cLine := room_in_shaped sd hu
  obtain ⟨as, ra⟩ := Dp.readsAll I ds _ its hd rv
  have hn : its.length = ds.length := SeqAt.ReadsAll.length ds its as ra
  have hmap : its.map (SeqAt.readOf s.heap) = ds := SeqAt.readsAll_map ds its as can ra
  have hvl := rv.length
  obtain ⟨hjd, _⟩ := List.getElem?_eq_some_iff.mp hz
  have hj : j < its.toArray.size := by simp; omega
  have told : ∀ (m : Nat) (hm : m < its.toArray.size) (z' : PyData), ds[m]? = some z' → SeqAt.readOf s.heap its.toArray[m] = z' := fun m hm z' hz' => by
    have hml : m < its.length := by simpa using hm
    rw [← hmap, List.getElem?_map, List.getElem?_eq_getElem hml] at hz'
    have e1 := Option.some.inj (show some (SeqAt.readOf s.heap its[m]) = some z' from hz')
    simpa using e1
  refine call_meets PySem.F.slot_list_remove ⟨_, ho, rfl⟩ PySem.F.entry_list_remove (PySem.F.args_list_remove_2 _ _)
    (SeqAt.list_removeAt a its.toArray n none #[] uy (fun u => PyData.eqv (SeqAt.readOf s.heap u) d) j hj ?_ ?_ (by rw [List.size_toArray]; omega)) ⟨ho, SeqAt.items_eqAt (vs := its.toArray) (show ReadsAll s.heap its.toArray.toList ds as from ra) r1 can (SeqAt.canLay_of_shaped sd) room, ?_⟩
  · rw [told j hj z hz]
    exact hzj
  · intro m hm hmj
    have hmd : m < ds.length := by
      have : m < its.length := by simpa using hm
      omega
    rw [told m hm _ (List.getElem?_eq_getElem hmd)]
    exact hno m _ hmj (List.getElem?_eq_getElem hmd)
  · refine ⟨.non, _, I.lset (its' := its.eraseIdx j) (t' := s.toks) hl ho ?_ (rv.eraseIdx j) ?_, rfl, q⟩
    · show its.toArray.eraseIdxIfInBounds j = (its.eraseIdx j).toArray
      rw [List.eraseIdxIfInBounds_toArray]
    · have := List.length_eraseIdx_le ys j
      omega
theorem each_vals : ∀ {bs : List (V × PyData)} {us : List Value}, Vals (bs.map (·.1)) us → EachIs (fun u (b : V × PyData) => RelV b.1 u) us bs
  | [], us, h => by
    cases h
    exact .nil
  | b :: r, us, h => by
    cases h with
    | cons a t => exact .cons a (each_vals t)
theorem vals_each {us : List Value} {bs : List (V × PyData)} (h : EachIs (fun u (b : V × PyData) => RelV b.1 u) us bs) : Vals (bs.map (·.1)) us := by
  induction h with
  | nil => exact .nil
  | cons a t ih => exact .cons a ih
theorem each_reads {h : Heap} : ∀ {bs : List (V × PyData)} {us : List Value} {as : List Addr}, ReadsAll h us (bs.map (·.2)) as → EachIs (fun u (b : V × PyData) => ∃ as, Reads h u b.2 as) us bs := fun r => readsAll_each (fun b : V × PyData => b.2) r
/-- sorted(xs), alike data -/
def rSortedD (K : PySem.W.Frag) : List V → Hp → VK → Prop := fun vs H Q => ∃ (a : Addr) (bs : List (V × PyData)), vs = [V.ref a] ∧ SqL K H a (bs.map (·.1)) ∧ DpAll K H (bs.map (·.1)) (bs.map (·.2)) ∧ AllAlike (bs.map (·.2)) ∧ Sortable (bs.map (·.2)) ∧ bs.length ≤ sizeLine ∧ (∀ b ∈ bs, b.2.depth ≤ 8) ∧
  ∀ p, H p = none → Q (.ref p) (upd H p (.lst ((bs.mergeSort (dataLe false Prod.snd)).map (·.1))))
theorem cr_sortedD {X : Cx} (hu : X.A.units + 64 < cLine) : CallR X (.builtin "sorted") (rSortedD X.K) := by
  intro pins s σ H vs us Q I r h
  obtain ⟨a, bs, rfl, hs, hd, al, so, hz, dp, q⟩ := h
  obtain ⟨its, rv, hl, _⟩ := I.list hs
  obtain ⟨as, rr⟩ := Dp.readsAll I _ _ its hd rv
  rw [Vals.ref1 r]
  refine sorted_data (enc := Prod.snd) hl.isList (each_vals rv) (each_reads rr) al so hz (fun b hb => by have := dp b hb; omega) fun out hlen e => ?_
  obtain ⟨ep, he'⟩ := PyProof.Rows.sortedAll_at s.heap its out.toArray
  have rv2 := vals_each e
  have hl2 : ((bs.mergeSort (dataLe false Prod.snd)).map (·.1)).length ≤ sizeLine := by
    rw [List.length_map, List.length_mergeSort]
    exact hz
  exact ⟨.ref _, upd H (s.heap.objs.size + 1) (.lst ((bs.mergeSort (dataLe false Prod.snd)).map (·.1))), I.laid (t' := s.toks) (fun _ _ => PyProof.Rows.sortedAll_old) (Nat.le_succ _) ⟨hl2, out, ep, rv2, he'⟩, rfl, q _ (I.hok.fresh (Nat.le_succ _))⟩
/-- a target o.f -/
def gFld (K : PySem.W.Frag) (ta : TE) (f : Str) : TG := fun v σ H Q => ta σ H fun x H1 => ∃ a C dx fs, x = .ref a ∧ H1 a = some (.ins C dx fs) ∧ Cls K C ∧ NoAttr K C f ∧ fs.length < 1000 ∧ Q σ (upd H1 a (.ins C dx (putF f v fs)))
theorem pg_fld {X : Cx} {o : Expr} {f : Str} {pos : Pos} {ta : TE} (ha : PE X o ta) : PG X (.Attribute o f pos) (gFld X.K ta f) := by
  refine ⟨fun pins s σ H v u Q I r h => ?_⟩
  rw [assign_Attribute]
  refine wpAny_bind (wpAny_holding (thn (ha.run pins s σ H _ I h) fun ov s1 ⟨x, H1, I1, rx, a, C, dx, fs, ex, ea, c, n, l, q⟩ => ?_))
  subst ex
  obtain rfl : ov = Value.ref a := rx
  refine wpAny_bind (wpAny_standAt (wpAny_bind (wpAny_holding (setattr_ok I1 ea c n l r fun s3 I3 => ?_))))
  exact wpAny_release ⟨σ, _, I3, q⟩
end Cn
/-! more of a generator's elements -/
namespace Cn
open PySem PySem.Spec PyProof.Rows L2
section
variable {X : Cx} {scope : Scope}
theorem peg_str {x : Str} {j : Nat} {pos : Pos} : PEg X scope (.Constant (.str x) j pos) (tC (.str x)) := fun _ _ _ _ H s _ _ I h =>
  wpAny_Constant_str ⟨.str x, H, I.keeps (keeps_tok s _), keeps_tok s _, ⟨_, rfl⟩, h⟩
/-- t[i], a tuple tracked -/
def rIxG : R2 := fun x y H Q => ∃ p xs i v, x = .ref p ∧ y = .int i ∧ H p = some (.tup xs) ∧ atI xs i = some v ∧ Q v H
theorem peg_ix {a b : Expr} {pos : Pos} {ta tb : TE} (ha : PEg X scope a ta) (hb : PEg X scope b tb) (hs : PlainIx b) : PEg X scope (.Subscript a b pos) (tOp rIxG ta tb) := by
  intro cenv A E σ H s Q hA I h
  refine Subscript_ (thn (ha cenv A E σ H s _ hA I h) fun u s1 ⟨x, H1, I1, k1, rx, q1⟩ => thn (hb cenv A E σ H1 s1 _ hA I1 q1) fun v s2 ⟨y, H2, I2, k2, ry, q2⟩ => ?_)
  obtain ⟨p, xs, i, z, rfl, rfl, hp, he, q⟩ := q2
  cases rx
  obtain ⟨t, rfl⟩ := ry
  obtain ⟨hz, its, r, pl⟩ : xs.length ≤ sizeLine ∧ ∃ its, Vals xs its ∧ IsTup s2.heap p its.toArray := I2.hok p _ hp
  obtain ⟨j, h1, h2, h3, h4, h5⟩ := atI_get he
  obtain ⟨w, ew, rw'⟩ := r.get h2
  have hl := r.length
  have hn := line63
  exact subscriptTail_builtinR (x := w) pl.typeIs slot_tuple_getitem.lookup
    (getItem_tuple (j := j) (Q := fun r s' => r = w ∧ _) pl (by omega) (by omega) (by rw [List.size_toArray, ← hl]; exact h1) (by simpa using ew) ⟨rfl, ⟨z, H2, I2, Keeps.trans' k1 k2, rw', q⟩⟩) (hs _ _)
def rEqS : R2 := fun x y H Q => ∃ i j : Str, x = .str i ∧ y = .str j ∧ Q (.bl (decide (V.str i = V.str j))) H
theorem peg_eqS {a b : Expr} {pos : Pos} {ta tb : TE} (ha : PEg X scope a ta) (hb : PEg X scope b tb) (hm : behindInMarks .Eq b = false) : PEg X scope (.Compare a [.Eq] [b] pos) (tOp rEqS ta tb) := by
  intro cenv A E σ H s Q hA I h
  refine wpAny_Compare1 (thn (ha cenv A E σ H s _ hA I h) fun u s1 ⟨x, H1, I1, k1, rx, q1⟩ => thn (hb cenv A E σ H1 s1 _ hA I1 q1) fun v s2 ⟨y, H2, I2, k2, ry, q2⟩ => ?_) hm
  obtain ⟨i, j, rfl, rfl, q⟩ := q2
  obtain ⟨t, rfl⟩ := rx
  obtain ⟨t', rfl⟩ := ry
  refine eq_str ⟨.bl _, H2, I2, Keeps.trans' k1 k2, ?_, q⟩
  show Value.bool _ = Value.bool _
  rw [dec_str]
end
theorem tif_p {σ : L2.St} {H : Hp} {c : TT} {ta tb : TE} {b : Bool} {v u : V} (h : BP c σ H b) (h1 : b = true → VP ta σ H v) (h2 : b = false → VP tb σ H u) : VP (tIf c ta tb) σ H (if b = true then v else u) := fun Q k => h _ (by
  cases b with
  | false => exact ite_ff (h2 rfl _ (by simpa using k))
  | true => exact ite_tt (h1 rfl _ (by simpa using k)))
end Cn
/-! defs with defaults -/
namespace Cn
open PySem PySem.Spec PyProof.Rows L2
structure PrD (P : Program) (w : World) (K : PySem.W.Frag) (mg : Str → Option Value) (base : Heap) (k : Nat) (f : Addr) (ps : List Str) (sp : Sp) (dvs : List V) : Prop where
  ex : ∃ (fd : FuncData) (ds : List Value), FnOk P w K mg base (L2.CX P w) k f fd ps sp ∧ Vals dvs ds ∧ Binds K fd ps ds
  kp : PySem.W.keepIn K (.ref f) = true
theorem PrD.full {P : Program} {w : World} {K : PySem.W.Frag} {mg : Str → Option Value} {base : Heap} {k : Nat} {f : Addr} {ps : List Str} {sp : Sp} (h : PrD P w K mg base k f ps sp []) : Pr P w K mg base k f ps sp := by
  obtain ⟨⟨fd, ds, F, v, b⟩, kp⟩ := h
  cases v
  exact ⟨⟨fd, F, b⟩, kp⟩
section
variable {X : Cx} {k j : Nat} {f C : Addr} {ps : List Str} {sp : Sp} {dvs : List V} {E : XK} {x m : Str} {p pos apos : Pos} {e o : Expr} {es : List Expr} {ta : TE} {t : TA}
abbrev PrXD (X : Cx) (k : Nat) (f : Addr) (ps : List Str) (sp : Sp) (dvs : List V) : Prop := PrD X.prog X.w X.K X.mg X.base k f ps sp dvs
theorem pe_mkD (M : Mk X.K C f) (F : PrXD X k f ps sp dvs) (hr : Room j X.A) (hk : k + 1 ≤ j) (hx : Lets X E) (hm : X.mg x = some (.ref C)) (ha : PA X (e :: es) t) (hg : Gl X x := by rfl) (hdb : (x == ("__debug__" : Str)) = false := by decide)
    (he : starEach (e :: es) X.env = (false, eval e X.env) :: starEach es X.env := by rfl) (hpl : (backTo pos (starEach es X.env)).any (·.1) = false := by rfl) :
    PE X (.Call (.Name x p) (e :: es) [] pos) (tMake C sp dvs E t) := by
  obtain ⟨fd, ds, F1, v, b⟩ := F.ex
  exact pe_make M F1 (hr.mono hk) hg hm b v hx ha hdb he hpl
end
section
variable {P : Program} {w : World} {K : PySem.W.Frag} {mg : Str → Option Value} {base : Heap}
/-- how the parameters are bound: n written, the defaults behind the first j fill up -/
def BindD (K : PySem.W.Frag) (d : He.DefD) (ps : List Str) (n j : Nat) : Prop := ∀ (T : Addr) (kV doc pm : Value) (an : Option Addr) (cdv ct : Value) (us its : List Value), us.length = n → its.length = (d.dvs K).length →
  ∃ k, bindArgs (PySem.W.fnOf d.name d.qual d.params d.body d.scope (.ref T) kV doc pm an cdv ct) ⟨us, []⟩ = seqItems? (.ref T) >>= k ∧ k (some its.toArray) = pure (ps.zip (us ++ its.drop j))
/-- a def with defaults by its body: at every number of written arguments -/
theorem mk_prD {d : He.DefD} {N ps : List Str} {k : Nat} {sp : Sp} (F : ∃ fd, FunD K d.name d.qual d.params d.body d.scope (d.dvs K) (d.kws K) (He.fAd K d.at_) fd) (hd : d.dvs K ≠ []) (S : FnScope N ps d.scope)
    (len : ∀ vs H Q E, sp vs H Q E → vs.length = ps.length)
    (hbody : ∀ (cdv : Value) (A : Around) (outer : List Env) (s : Shared) (H : Hp) (vs : List V) (Q : VK) (E : XK), Room k (A.deeper (envOfC d.qual d.scope s.heap.objs.size (He.fAd K d.at_) cdv)) → sp vs H Q E →
      ∃ t, PSs (cxOf (L2.CX P w) P w K mg base N d.qual d.scope (He.fAd K d.at_) cdv A outer s H E) d.body t ∧ t { nx := fun _ H' => Q .non H', rt := Q } (start N vs) H)
    (n j : Nat) (hn : n + ((d.dvs K).length - j) = ps.length)
    (hb : BindD K d ps n j) :
    PrD P w K mg base (k + 1) (He.fAd K d.at_) ps sp ((d.dvs K).drop j) := by
  obtain ⟨fd, F⟩ := F
  obtain ⟨ds, v, b⟩ := F.binds1 n j hd hn hb
  exact ⟨⟨fd, ds, FunD.ok F S len hbody, v, b⟩, F.kp⟩
end
end Cn
/-! lists of things as data -/
namespace Cn
open PySem PySem.Spec PyProof.Rows L2 PySem.W
section
variable {α : Type} {K : PySem.W.Frag} {H : Hp}
theorem dpAll_map {g : α → V} {f : α → PyData} : ∀ {l : List α}, (∀ a ∈ l, Dp K H (g a) (f a)) → DpAll K H (l.map g) (l.map f)
  | [], _ => .nil
  | a :: r, h => .cons (h a (List.mem_cons_self ..)) (dpAll_map fun b hb => h b (List.mem_cons_of_mem _ hb))
theorem canAll_map {f : α → PyData} : ∀ {l : List α}, (∀ a ∈ l, (f a).canLay0 = true) → PyData.canLayAll0 (l.map f) = true
  | [], _ => rfl
  | a :: r, h => by
    show (PyData.canLay0 (f a) && PyData.canLayAll0 (r.map f)) = true
    rw [h a (List.mem_cons_self ..), canAll_map fun b hb => h b (List.mem_cons_of_mem _ hb)] <;> rfl
theorem depthAll_map {f : α → PyData} {n : Nat} : ∀ {l : List α}, (∀ a ∈ l, (f a).depth ≤ n) → PyData.depthAll (l.map f) ≤ n
  | [], _ => Nat.zero_le _
  | a :: r, h => by
    show max (PyData.depth (f a)) (PyData.depthAll (r.map f)) ≤ n
    have := depthAll_map (f := f) (n := n) (l := r) fun b hb => h b (List.mem_cons_of_mem _ hb)
    have := h a (List.mem_cons_self ..)
    omega
theorem shaped_of {d : PyData} (c : d.canLay0 = true) (n : d.depth ≤ 64) : SeqAt.shaped d = true := by
  unfold SeqAt.shaped
  rw [c, Bool.true_and]
  exact decide_eq_true n
theorem can_list {f : α → PyData} {l : List α} (h : ∀ a ∈ l, (f a).canLay0 = true) : (PyData.list (l.map f)).canLay0 = true := by
  show PyData.canLayAll0 (l.map f) = true
  exact canAll_map h
theorem shaped_list {f : α → PyData} {l : List α} (h : ∀ a ∈ l, (f a).canLay0 = true) (k : ∀ a ∈ l, (f a).depth ≤ 60) : SeqAt.shaped (.list (l.map f)) = true := by
  refine shaped_of (can_list h) ?_
  have := depthAll_map k
  simp only [PyData.depth]
  omega
/-! the least of a list, and the first of the sorted list -/
theorem dataLt_irr (d : PyData) : dataLt d d = false := lex_irrefl _
theorem dataLt_trans {a b c : PyData} (h : dataLt a b = true) (k : dataLt b c = true) : dataLt a c = true := lex_trans _ _ _ h k
theorem dataLt_tot {a b : PyData} (h : dataLt a b = false) (k : dataLt b a = false) : keyToks a = keyToks b := lex_total _ _ h k
theorem dataLt_asym {a b : PyData} (h : dataLt a b = true) : dataLt b a = false := by
  cases k : dataLt b a with
  | false => rfl
  | true =>
    have := dataLt_trans h k
    rw [dataLt_irr] at this
    cases this
/-- not less, transitive -/
theorem notLt_trans {a b c : PyData} (h : dataLt b a = false) (k : dataLt c b = false) : dataLt c a = false := by
  cases e : dataLt c a with
  | false => rfl
  | true =>
    cases f : dataLt a b with
    | true =>
      have := dataLt_trans e f
      rw [k] at this
      cases this
    | false =>
      have z := dataLt_tot h f
      unfold dataLt at e k
      rw [← z] at e
      rw [k] at e
      cases e
theorem minD_le : ∀ (xs : List PyData) (x : PyData), dataLt x (minD x xs) = false ∧ ∀ y ∈ xs, dataLt y (minD x xs) = false
  | [], x => ⟨dataLt_irr x, fun y hy => by cases hy⟩
  | z :: xs, x => by
    have e : minD x (z :: xs) = minD (if dataLt z x then z else x) xs := rfl
    rw [e]
    obtain ⟨i1, i2⟩ := minD_le xs (if dataLt z x then z else x)
    cases c : dataLt z x with
    | true =>
      rw [c] at i1 i2
      refine ⟨notLt_trans i1 (dataLt_asym c), fun y hy => ?_⟩
      rcases List.mem_cons.mp hy with e | m
      · rw [e]
        exact i1
      · exact i2 y m
    | false =>
      rw [c] at i1 i2
      refine ⟨i1, fun y hy => ?_⟩
      rcases List.mem_cons.mp hy with e | m
      · rw [e]
        exact notLt_trans i1 c
      · exact i2 y m
theorem minD_mem : ∀ (xs : List PyData) (x : PyData), minD x xs ∈ x :: xs
  | [], x => List.mem_cons_self ..
  | z :: xs, x => by
    have e : minD x (z :: xs) = minD (if dataLt z x then z else x) xs := rfl
    rw [e]
    have m := minD_mem xs (if dataLt z x then z else x)
    rcases List.mem_cons.mp m with e | m
    · rw [e]
      cases dataLt z x
      · exact List.mem_cons_self ..
      · exact List.mem_cons_of_mem _ (List.mem_cons_self ..)
    · exact List.mem_cons_of_mem _ (List.mem_cons_of_mem _ m)
/-- the first of the sorted list is one of the least -/
theorem sorted_head {β : Type} (enc : β → PyData) {l : List β} {h : β} {t : List β} (e : l.mergeSort (dataLe false enc) = h :: t) : ∀ x ∈ l, dataLt (enc x) (enc h) = false := by
  have p : (h :: t).Pairwise fun a b => dataLe false enc a b = true := by
    rw [← e]
    refine List.pairwise_mergeSort (fun a b c h k => ?_) (fun a b => ?_) l
    · have h' : (!dataLt (enc b) (enc a)) = true := h
      have k' : (!dataLt (enc c) (enc b)) = true := k
      show (!dataLt (enc c) (enc a)) = true
      rw [Bool.not_eq_true'] at h' k' ⊢
      exact notLt_trans h' k'
    · show ((!dataLt (enc b) (enc a)) || (!dataLt (enc a) (enc b))) = true
      cases c : dataLt (enc b) (enc a) with
      | false => rfl
      | true => rw [dataLt_asym c] <;> rfl
  intro x hx
  have m : x ∈ l.mergeSort (dataLe false enc) := List.mem_mergeSort.mpr hx
  rw [e] at m
  rcases List.mem_cons.mp m with z | m
  · rw [z]
    exact dataLt_irr _
  · have := List.rel_of_pairwise_cons p m
    have h' : (!dataLt (enc x) (enc h)) = true := this
    rwa [Bool.not_eq_true'] at h'
theorem min_head {β : Type} (enc : β → PyData) {x : β} {xs : List β} {h : β} {t : List β} (e : (x :: xs).mergeSort (dataLe false enc) = h :: t) : keyToks (enc h) = keyToks (minD (enc x) (xs.map enc)) := by
  have hm : h ∈ x :: xs := by
    have : h ∈ (x :: xs).mergeSort (dataLe false enc) := by rw [e]; exact List.mem_cons_self ..
    exact List.mem_mergeSort.mp this
  obtain ⟨i1, i2⟩ := minD_le (xs.map enc) (enc x)
  refine dataLt_tot ?_ ?_
  · rcases List.mem_cons.mp hm with z | m
    · rw [z]
      exact i1
    · exact i2 _ (List.mem_map.mpr ⟨h, m, rfl⟩)
  · have k := minD_mem (xs.map enc) (enc x)
    have : minD (enc x) (xs.map enc) ∈ (x :: xs).map enc := k
    obtain ⟨b, hb, eb⟩ := List.mem_map.mp this
    rw [← eb]
    exact sorted_head enc e b hb
end
end Cn
/-! readings that only lay new objects -/
namespace Cn
open PySem PySem.Spec PyProof.Rows L2 LamX
def VX (T : List (Addr × Str)) (te : TE) (σ : L2.St) (H : Hp) (v : V) : Prop := ∀ Q : VK, (∀ H', Fr T [] H H' → Q v H') → te σ H Q
def BX (T : List (Addr × Str)) (t : TT) (σ : L2.St) (H : Hp) (b : Bool) : Prop := ∀ Q : Bool → Hp → Prop, (∀ H', Fr T [] H H' → Q b H') → t σ H Q
section
variable {T : List (Addr × Str)} {σ : L2.St} {H : Hp} {t u : TT} {ta tb tc te : TE} {b c : Bool} {x y z v : V} {r r' : R2}
theorem VP.up (h : VP te σ H v) : VX T te σ H v := fun Q k => h _ (k _ .refl)
theorem BP.up (h : BP t σ H b) : BX T t σ H b := fun Q k => h _ (k _ .refl)
theorem test_x (h : VX T te σ H (.bl b)) : BX T (tTest te) σ H b := fun Q k => h _ fun H' f => ⟨b, rfl, k _ f⟩
theorem val_x (h : VX T te σ H (.bl b)) : BX T (tB te) σ H b := fun Q k => h _ fun H' f => ⟨b, rfl, k _ f⟩
theorem not_x (h : BX T t σ H b) : BX T (tNot t) σ H (!b) := fun Q k => h _ fun H' f => k _ f
theorem or_x (h : BX T t σ H b) (h2 : b = false → ∀ H', Fr T [] H H' → BX T u σ H' c) : BX T (tOr t u) σ H (b || c) := fun Q k => h _ fun H' f => by
  cases b with
  | false => exact ite_ff (h2 rfl H' f _ fun H2 g => k _ (f.trans g))
  | true => exact ite_tt (k _ f)
theorem and_x (h : BX T t σ H b) (h2 : b = true → ∀ H', Fr T [] H H' → BX T u σ H' c) : BX T (tAnd t u) σ H (b && c) := fun Q k => h _ fun H' f => by
  cases b with
  | false => exact ite_ff (k _ f)
  | true => exact ite_tt (h2 rfl H' f _ fun H2 g => k _ (f.trans g))
theorem orv_x (h : VX T ta σ H (.bl b)) (h2 : b = false → ∀ H', Fr T [] H H' → VX T tb σ H' (.bl c)) : VX T (tOrV ta tb) σ H (.bl (b || c)) := fun Q k => h _ fun H' f => ⟨b, rfl, by
  cases b with
  | false => exact ite_ff (h2 rfl H' f _ fun H2 g => k _ (f.trans g))
  | true => exact ite_tt (k _ f)⟩
theorem andv_x (h : VX T ta σ H (.bl b)) (h2 : b = true → ∀ H', Fr T [] H H' → VX T tb σ H' (.bl c)) : VX T (tAndV ta tb) σ H (.bl (b && c)) := fun Q k => h _ fun H' f => ⟨b, rfl, by
  cases b with
  | false => exact ite_ff (k _ f)
  | true => exact ite_tt (h2 rfl H' f _ fun H2 g => k _ (f.trans g))⟩
theorem ifs_x {D : Ends} {p q : TS} (h : BX T t σ H b) (h1 : b = true → ∀ H', Fr T [] H H' → p D σ H') (h2 : b = false → ∀ H', Fr T [] H H' → q D σ H') : tIfS t p q D σ H := h _ fun H' f => by
  cases b with
  | false => exact ite_ff (h2 rfl H' f)
  | true => exact ite_tt (h1 rfl H' f)
theorem tif_x {t : TT} {v u : V} (h : BX T t σ H b) (h1 : b = true → ∀ H', Fr T [] H H' → VX T ta σ H' v) (h2 : b = false → ∀ H', Fr T [] H H' → VX T tb σ H' u) : VX T (tIf t ta tb) σ H (if b = true then v else u) := fun Q k => h _ fun H' f => by
  cases b with
  | false => exact ite_ff (h2 rfl H' f _ fun H2 g => by simpa using k _ (f.trans g))
  | true => exact ite_tt (h1 rfl H' f _ fun H2 g => by simpa using k _ (f.trans g))
/-- constants in a row -/
def TP (t : TA) (σ : L2.St) (H : Hp) (vs : List V) : Prop := ∀ Q : List V → Hp → Prop, Q vs H → t σ H Q
theorem nil_t : TP tNil σ H [] := fun _ k => k
theorem cons_t {tr : TA} {vs : List V} (h : VP te σ H v) (k : TP tr σ H vs) : TP (tCons te tr) σ H (v :: vs) := fun Q q => h _ (k _ q)
theorem c_p {v : V} : VP (tC v) σ H v := fun _ k => k
/-- x in (a, b, ..) -/
theorem in_x {K : PySem.W.Frag} {tl : TA} {vs : List V} {neg : Bool} (h : VP ta σ H x) (k : TP tl σ H vs) (n : vs.length ≤ 1000) (fx : flatV x = true) (fs : vs.all flatV = true) : VX T (tOp (rIn K neg) ta (tTup tl)) σ H (.bl (if neg then !inV x vs else inV x vs)) :=
  fun Q q => h _ (k _ ⟨Nat.le_trans n (by decide +kernel), fun p hp => ⟨p, vs, rfl, .inr (SqT.of upd_same), fx, fs, q _ (.new hp)⟩⟩)
theorem any_x {K : PySem.W.Frag} {ix : Nat} {te tel : TE} {a : Addr} {xs : List V} {f : Nat → Bool} (h : VP te σ H (.ref a)) (hq : SqL K H a xs ∨ SqT K H a xs) (ht : Tabs T H) (hf : ∀ (i : Nat) (y : V) (Hg : Hp), xs[i]? = some y → ExtN H Hg → tel (σ.set ix (some y)) Hg fun v _ => v = .bl (f i)) :
    VX T (tAnyG K T ix te tel) σ H (.bl ((List.range xs.length).any f)) := fun Q q => h _ ⟨a, xs, f, rfl, hq, ht, hf, fun H2 e t2 => q _ (.of_ext e fun _ => t2)⟩
/-- a new object -/
def OX (T : List (Addr × Str)) (te : TE) (σ : L2.St) (H : Hp) (o : HO) : Prop := ∀ Q : VK, (∀ H' p, Fr T [] H H' → Nw H p → H' p = some o → Q (.ref p) H') → te σ H Q
theorem tup_o {tl : TA} {vs : List V} (k : TP tl σ H vs) (n : vs.length ≤ 1000) : OX T (tTup tl) σ H (.tup vs) := fun Q q => k _ ⟨Nat.le_trans n (by decide +kernel), fun p hp => q _ p (.new hp) (.none hp) upd_same⟩
theorem lst_o {tl : TA} {vs : List V} (k : TP tl σ H vs) (n : vs.length ≤ 1000) : OX T (tLst tl) σ H (.lst vs) := fun Q q => k _ ⟨Nat.le_trans n (by decide +kernel), fun p hp => q _ p (.new hp) (.none hp) upd_same⟩
theorem map_get {α : Type} {f : α → V} {l : List α} {i : Nat} {x : V} (h : (l.map f)[i]? = some x) : ∃ q, l[i]? = some q ∧ x = f q := by
  rw [List.getElem?_map] at h
  cases e : l[i]? with
  | none => rw [e] at h; cases h
  | some q => rw [e] at h; exact ⟨q, rfl, (Option.some.inj h).symm⟩
theorem any_range {α : Type} (g : α → Bool) (l : List α) : ((List.range l.length).any fun i => ((l[i]?).map g).getD false) = l.any g := by
  rw [Bool.eq_iff_iff, List.any_eq_true, List.any_eq_true]
  constructor
  · rintro ⟨i, hi, h⟩
    have hi' := List.mem_range.mp hi
    rw [List.getElem?_eq_getElem hi'] at h
    exact ⟨_, List.getElem_mem hi', h⟩
  · rintro ⟨a, ha, h⟩
    obtain ⟨i, hi⟩ := List.getElem?_of_mem ha
    refine ⟨i, List.mem_range.mpr (List.getElem?_eq_some_iff.mp hi).1, ?_⟩
    rw [hi]
    exact h
end
section
variable {J : It} {G : Hp → Prop} {xs : List V} {vs : List Nat} {g : TG} {te : TE} {σ : L2.St} {H1 : Hp} {D : Addr} {Qd : Hp → Prop}
/-- a comprehension of new objects -/
theorem lcO (w : Walk J xs.length G (YAt xs)) (T : List (Addr × Str)) (o : Nat → HO) (no : ∀ i ps, o i ≠ .tbl ps) (nz : xs.length ≤ sizeLine) (nD : H1 D = none) (hG : ∀ H', Fr T [] H1 H' → G H')
    (he : ∀ i x H' (R : L2.St → Hp → Prop), xs[i]? = some x → Fr T [] H1 H' → (∀ σ2, wipe σ2 vs = wipe σ vs → OX T te σ2 H' (o i) → R σ2 H') → g x (wipe σ vs) H' R)
    (hd : ∀ H' (as : List Addr), H' D = some (.lst (as.map V.ref)) → as.length = xs.length → (∀ (i : Nat) (a : Addr), as[i]? = some a → H' a = some (o i)) → as.Nodup → (∀ a ∈ as, Nw H1 a) → Fr T [] H1 H' → Qd H') :
    ∃ W : Nat → Nat → Hp → Prop, (∃ m, W 0 m (upd H1 D (.lst []))) ∧ ∀ i m H, W i m H →
      (J.stop i H ∧ Qd H) ∨ (J.go i H ∧ ∃ Nx : Hp → Prop, (∀ H', Nx H' → ∃ m', m' < m ∧ W (i + 1) m' H') ∧ ∀ x H', J.yld i H x H' → g x (wipe σ vs) H' fun σ2 H2 => wipe σ2 vs = wipe σ vs ∧ tYes σ2 H2 fun b H3 =>
        if b = true then te σ2 H3 fun y H4 => ∃ acc, H4 D = some (.lst acc) ∧ acc.length < sizeLine ∧ Nx (upd H4 D (.lst (acc ++ [y]))) else Nx H3) := by
  refine lc_it w (fun i H' => ∃ as : List Addr, as.length = i ∧ H' D = some (.lst (as.map V.ref)) ∧ (∀ (j : Nat) (a : Addr), as[j]? = some a → H' a = some (o j)) ∧ as.Nodup ∧ (∀ a ∈ as, Nw H1 a ∧ a ≠ D) ∧ Fr T [] H1 H') ⟨[], rfl, upd_same, fun _ _ z => by simp at z, by simp, fun _ z => by simp at z, Fr.new nD⟩ (fun i H' _ ⟨_, _, _, _, _, _, f⟩ => hG H' f) ?_ ?_
  · rintro i x H2 H3 hi ⟨as, hlen, hD, hR, hn, hw, f⟩ ⟨rfl, hx⟩
    refine he i x _ _ hx f fun σ2 hwp ox => ⟨hwp, yes_it (ox _ fun H4 p f4 np hp => ?_)⟩
    have hD4 : H4 D = some (.lst (as.map V.ref)) := f4.l hD (by simp)
    have pD : p ≠ D := fun e => by
      obtain ⟨ps, z⟩ := np _ (e ▸ hD)
      cases z
    have nin : p ∉ as := fun m => by
      obtain ⟨j, hj⟩ := List.getElem?_of_mem m
      obtain ⟨ps, z⟩ := np _ (hR j p hj)
      exact no _ _ z
    refine ⟨_, hD4, ?_, as ++ [p], by simp [hlen], ?_, fun j c hc => ?_, ?_, fun c hc => ?_, ?_⟩
    · rw [List.length_map, hlen]
      exact Nat.lt_of_lt_of_le hi nz
    · rw [List.map_append]
      exact upd_same
    · by_cases e : j < as.length
      · rw [List.getElem?_append_left e] at hc
        exact (upd_ne (hw c (List.mem_of_getElem? hc)).2).trans (f4.keep c _ (hR j c hc) (no j) (by simp))
      · rw [List.getElem?_append_right (Nat.le_of_not_lt e)] at hc
        have e0 : j - as.length = 0 := by
          obtain ⟨z, _⟩ := List.getElem?_eq_some_iff.mp hc
          have z' : j - as.length < 1 := z
          omega
        have ej : j = i := by omega
        rw [e0] at hc
        cases hc
        rw [ej]
        exact (upd_ne pD).trans hp
    · rw [List.nodup_append]
      exact ⟨hn, by simp, fun x hx y hy z => nin (by rw [List.mem_singleton.mp hy] at z; rw [← z]; exact hx)⟩
    · rcases List.mem_append.mp hc with z | z
      · exact hw c z
      · rw [List.mem_singleton.mp z]
        refine ⟨fun u hu => ?_, pD⟩
        by_cases q : ∃ ps, u = .tbl ps
        · exact q
        · exact np u (f.keep p u hu (fun ps w => q ⟨ps, w⟩) (by simp))
    · exact (f.trans f4).transW (Fr.upd (S := [D]) hD4 rfl (List.mem_singleton.mpr rfl)) fun c hc => .inr (by rw [List.mem_singleton.mp hc]; exact Nw.none nD)
  · rintro H2 ⟨as, hlen, hD, hR, hn, hw, f⟩
    exact hd H2 as hD hlen hR hn (fun a ha => (hw a ha).1) f
/-- a comprehension of values -/
theorem lcV (w : Walk J xs.length G (YAt xs)) (T : List (Addr × Str)) (f : Nat → V) (nz : xs.length ≤ sizeLine) (nD : H1 D = none) (hG : ∀ H', Fr T [] H1 H' → G H')
    (he : ∀ i x H' (R : L2.St → Hp → Prop), xs[i]? = some x → Fr T [] H1 H' → (∀ σ2, wipe σ2 vs = wipe σ vs → VX T te σ2 H' (f i) → R σ2 H') → g x (wipe σ vs) H' R)
    (hd : ∀ H', H' D = some (.lst ((List.range xs.length).map f)) → Fr T [] H1 H' → Qd H') :
    ∃ W : Nat → Nat → Hp → Prop, (∃ m, W 0 m (upd H1 D (.lst []))) ∧ ∀ i m H, W i m H →
      (J.stop i H ∧ Qd H) ∨ (J.go i H ∧ ∃ Nx : Hp → Prop, (∀ H', Nx H' → ∃ m', m' < m ∧ W (i + 1) m' H') ∧ ∀ x H', J.yld i H x H' → g x (wipe σ vs) H' fun σ2 H2 => wipe σ2 vs = wipe σ vs ∧ tYes σ2 H2 fun b H3 =>
        if b = true then te σ2 H3 fun y H4 => ∃ acc, H4 D = some (.lst acc) ∧ acc.length < sizeLine ∧ Nx (upd H4 D (.lst (acc ++ [y]))) else Nx H3) := by
  refine lc_it w (fun i H' => H' D = some (.lst ((List.range i).map f)) ∧ Fr T [] H1 H') ⟨upd_same, Fr.new nD⟩ (fun i H' _ ⟨_, f⟩ => hG H' f) ?_ ?_
  · rintro i x H2 H3 hi ⟨hD, fr⟩ ⟨rfl, hx⟩
    refine he i x _ _ hx fr fun σ2 hwp ox => ⟨hwp, yes_it (ox _ fun H4 f4 => ?_)⟩
    have hD4 := f4.l hD (by simp)
    refine ⟨_, hD4, ?_, ?_, ?_⟩
    · rw [List.length_map, List.length_range]
      exact Nat.lt_of_lt_of_le hi nz
    · rw [List.range_succ, List.map_append]
      exact upd_same
    · exact (fr.trans f4).transW (Fr.upd (S := [D]) hD4 rfl (List.mem_singleton.mpr rfl)) fun c hc => .inr (by rw [List.mem_singleton.mp hc]; exact Nw.none nD)
  · rintro H2 ⟨hD, fr⟩
    exact hd H2 hD fr
end
end Cn
namespace Cn
open PySem PySem.Spec PyProof.Rows L2
theorem tif_str {σ : L2.St} {H : Hp} {c : TT} {ta tb : TE} {b : Bool} {v u : Str} (h : BP c σ H b) (h1 : b = true → VP ta σ H (.str v)) (h2 : b = false → VP tb σ H (.str u)) : VP (tIf c ta tb) σ H (.str (if b = true then v else u)) := by
  have := tif_p h h1 h2
  cases b
  · simpa using this
  · simpa using this
theorem tif_int {σ : L2.St} {H : Hp} {c : TT} {ta tb : TE} {b : Bool} {v u : Int} (h : BP c σ H b) (h1 : b = true → VP ta σ H (.int v)) (h2 : b = false → VP tb σ H (.int u)) : VP (tIf c ta tb) σ H (.int (if b = true then v else u)) := by
  have := tif_p h h1 h2
  cases b
  · simpa using this
  · simpa using this
end Cn
namespace Cn
open PySem PySem.Spec PyProof.Rows L2
theorem ru65 {k : Nat} {A : Around} (r : Room k A) : A.units + 65 < cLine := by have := r.un; omega
end Cn
namespace Cn
open PySem PySem.Spec PyProof.Rows L2 LamX
theorem strOk_of (s : String) : PyData.strOk (Str.ofString s) = true := by
  rw [Str.ofString_eq_toList]
  unfold PyData.strOk
  rw [← Array.all_toList, List.all_eq_true]
  intro n hn
  obtain ⟨c, _, rfl⟩ := List.mem_map.mp (show n ∈ s.toList.map Char.toNat by simpa using hn)
  have h := c.valid
  refine decide_eq_true ?_
  rcases h with h | h
  · show c.val.toNat < _
    exact Nat.lt_trans h (by decide)
  · exact h.2
theorem strOk_app {a b : Str} (ha : PyData.strOk a = true) (hb : PyData.strOk b = true) : PyData.strOk (a ++ b) = true := by
  unfold PyData.strOk at *
  show (a.cps ++ b.cps).all _ = true
  rw [Array.all_append, ha, hb] <;> rfl
/-- enumerate of a list or of a tuple -/
def iEnE (K : PySem.W.Frag) (ta : TA) : TI := fun σ H R => iEnum K ta σ H R ∨ iEnT K ta σ H R
theorem pi_enE {X : Cx} {e : Expr} {ta : TA} {p pos tpos : Pos} {elts : List Expr} {kk : Nat} (hg : Gl X "enumerate") (hm : X.mg "enumerate" = none) (ha : PA X [e] ta) (hs : starEach [e] X.env = [(false, eval e X.env)] := by rfl) :
    PI X (.Tuple elts kk tpos) (.Call (.Name "enumerate" p) [e] [] pos) (iEnE X.K ta) :=
  ⟨fun pins s σ H R I h => h.elim ((pi_enum hg hm ha hs).run pins s σ H R I) ((pi_enT hg hm ha hs).run pins s σ H R I)⟩
theorem enE {K : PySem.W.Frag} {H : Hp} {a : Addr} {ys : List V} (hq : H a = some (.lst ys) ∨ H a = some (.tup ys)) :
    ∃ (J : It) (G : Hp → Prop), Walk J ys.length G (YPair (fun i => some (.int (i : Nat))) (fun i => ys[i]?)) ∧ (∀ H', H' a = H a → G H') ∧ ∀ (ta : TA) (σ : L2.St) (R : It → Hp → Prop), TP ta σ H [.ref a] → R J H → iEnE K ta σ H R := by
  rcases hq with hq | hq
  · exact ⟨Ite K a, _, walk_enum, fun H' f => SqL.of (f.trans hq), fun ta σ R h r => .inl (h _ ⟨a, ys, rfl, SqL.of hq, r⟩)⟩
  · exact ⟨IteT K a, _, walk_enT, fun H' f => SqT.of (f.trans hq), fun ta σ R h r => .inr (h _ ⟨a, ys, rfl, SqT.of hq, r⟩)⟩
/-- a walk over a list or a tuple -/
def iSeqE (K : PySem.W.Frag) (te : TE) : TI := fun σ H R => iList K te σ H R ∨ iTup K te σ H R
end Cn
namespace Cn
open PySem PySem.Spec PyProof.Rows L2 LamX
theorem pi_seqE {X : Cx} {tg l : Expr} {tl : TE} (hl : PE X l tl) : PI X tg l (iSeqE X.K tl) :=
  ⟨fun pins s σ H R I h => h.elim ((pi_list hl).run pins s σ H R I) ((pi_tup hl).run pins s σ H R I)⟩
theorem seqE {K : PySem.W.Frag} {H : Hp} {a : Addr} {ys : List V} (hq : H a = some (.lst ys) ∨ H a = some (.tup ys)) :
    ∃ (J : It) (G : Hp → Prop), Walk J ys.length G (YAt ys) ∧ (∀ H', H' a = H a → G H') ∧ ∀ (te : TE) (σ : L2.St) (R : It → Hp → Prop), VP te σ H (.ref a) → R J H → iSeqE K te σ H R := by
  rcases hq with hq | hq
  · exact ⟨Itl K a, _, walk_list, fun H' f => SqL.of (f.trans hq), fun te σ R h r => .inl (h _ ⟨a, rfl, ⟨ys, SqL.of hq⟩, r⟩)⟩
  · exact ⟨Itt K a, _, walk_tup, fun H' f => SqT.of (f.trans hq), fun te σ R h r => .inr (h _ ⟨a, rfl, ⟨ys, SqT.of hq⟩, r⟩)⟩
theorem ite_int {c : Bool} {a b : Int} : (if c = true then V.int a else V.int b) = V.int (if c = true then a else b) := by cases c <;> rfl
theorem small_log {i : Nat} (h : i ≤ 1000) : (i : Int).natAbs.log2 < 1920 := Nat.lt_of_le_of_lt (Nat.log2_le_self _) (by omega)
end Cn
namespace Cn
open PySem PySem.Spec PyProof.Rows L2 LamX
theorem Fr.same {T : List (Addr × Str)} {S : List Addr} {H H' : Hp} {a : Addr} {ys : List V} (f : Fr T S H H') (hq : H a = some (.lst ys) ∨ H a = some (.tup ys)) (n : a ∉ S) : H' a = H a :=
  hq.elim (fun h => (f.l h n).trans h.symm) fun h => (f.t h n).trans h.symm
end Cn
namespace Cn
open PySem PySem.Spec PyProof.Rows L2 LamX
theorem catA_o {K : PySem.W.Frag} {T : List (Addr × Str)} {H : Hp} {a b : Addr} {xs ys : List V} (ha : H a = some (.tup xs)) (hb : H b = some (.tup ys)) (n : xs.length + ys.length ≤ 1000) {Q : VK}
    (h : ∀ H' p, Fr T [] H H' → H' p = some (.tup (xs ++ ys)) → Q (.ref p) H') : rCatA K (.ref a) (.ref b) H Q :=
  ⟨a, b, xs, ys, rfl, rfl, SqT.of ha, SqT.of hb, Nat.le_trans n (by decide +kernel), fun z => h H b .refl (by rw [z]; exact hb), fun _ z => h H a .refl (by rw [z, List.append_nil]; exact ha), fun _ _ p np => h _ p (.new np) upd_same⟩
end Cn
namespace Cn
open PySem PySem.Spec PyProof.Rows L2 LamX
theorem cat_ox {K : PySem.W.Frag} {T : List (Addr × Str)} {H : Hp} {σ : L2.St} {tl : TA} {tb : TE} {b : Addr} {xs ys : List V} (ht : TP tl σ H xs) (hx : xs ≠ []) (hb : H b = some (.tup ys)) (htb : ∀ H', Fr T [] H H' → VP tb σ H' (.ref b)) (n : xs.length + ys.length ≤ 1000) :
    OX T (tOp (rCatA K) (tTup tl) tb) σ H (.tup (xs ++ ys)) := fun Q q => ht _ ⟨Nat.le_trans (by omega) (by decide +kernel : 1000 ≤ sizeLine), fun p np => htb _ (.new np) _ ⟨p, b, xs, ys, rfl, rfl, SqT.of upd_same, SqT.of ((upd_ne (ne_of_none hb np)).trans hb), Nat.le_trans n (by decide +kernel), fun z => absurd z hx,
    fun _ z => q _ p (.new np) (.none np) (by rw [z, List.append_nil]; exact upd_same), fun _ _ p2 np2 => q _ p2 ((Fr.new np).trans (.new np2)) (Nw.of (Fr.new (T := T) (S := []) np) np2 (by simp)) upd_same⟩⟩
/-- no promise: what a recursion's depth 0 gives -/
theorem mk_none {P : Program} {w : World} {K : PySem.W.Frag} {mg : Str → Option Value} {base : Heap} {d : He.DefD} {ps : List Str} {sp : Sp} (F : ∃ fd, FunD K d.name d.qual d.params d.body d.scope (d.dvs K) (d.kws K) (He.fAd K d.at_) fd) (hd : d.dfl = [])
    (hb : ∀ (kV doc pm : Value) (an : Option Addr) (cdv ct : Value) (us : List Value), us.length = ps.length → bindArgs (PySem.W.fnOf d.name d.qual d.params d.body d.scope .none kV doc pm an cdv ct) ⟨us, []⟩ = pure (ps.zip us))
    (no : ∀ vs H Q E, ¬ sp vs H Q E) : Pr P w K mg base 0 (He.fAd K d.at_) ps sp := by
  obtain ⟨fd, F⟩ := F
  have e : d.dvs K = [] := by unfold He.DefD.dvs; rw [hd] <;> rfl
  refine ⟨⟨fd, ⟨fun vs H Q E h => (no _ _ _ _ h).elim, fun A outer s H args us vs Q E _ _ _ _ h => (no _ _ _ _ h).elim⟩, ?_⟩, F.kp⟩
  rw [e] at F
  exact FunD.bindsN F hb
theorem fr_S {T : List (Addr × Str)} {S : List Addr} {H H1 H2 : Hp} (f : Fr T [] H H1) (g : Fr T S H1 H2) (h : ∀ b ∈ S, Nw H b) : Fr T [] H H2 := f.transW g fun b hb => .inr (h b hb)
end Cn
namespace Cn
open PySem PySem.Spec PyProof.Rows L2 LamX
theorem range_map {α β : Type} (l : List α) (g : α → β) (d : β) : (List.range l.length).map (fun i => ((l[i]?).map g).getD d) = l.map g := by
  apply List.ext_getElem?
  intro i
  rw [List.getElem?_map, List.getElem?_map]
  by_cases h : i < l.length
  · rw [List.getElem?_range h, List.getElem?_eq_getElem h] <;> simp [h]
  · rw [List.getElem?_eq_none (by rw [List.length_range]; omega), List.getElem?_eq_none (by omega)] <;> rfl
theorem inV_strs (x : Str) (l : List Str) : inV (.str x) (l.map V.str) = l.any fun y => decide (V.str y = V.str x) := by
  unfold inV
  rw [List.any_map]
  congr 1
  funext y
  show (y == x) = _
  by_cases h : y = x <;> simp [h]
end Cn
namespace K2
open PySem PySem.Spec PyProof.Rows L2 Cn
def top (i : Nat) : Stmt := PySem.Challenge.pw_canalstack_k02_locks_and_who_goes_next.main.body.getD i (.Pass ⟨0, 0, 0, 0⟩)
abbrev s_Lock_init : Stmt := inClass (top 6) 0
abbrev s_Lock_join : Stmt := inClass (top 6) 1
abbrev s_Lock_next_row : Stmt := inClass (top 6) 2
abbrev s_Lock_is_ready : Stmt := inClass (top 6) 3
abbrev s_Lock_needs : Stmt := inClass (top 6) 4
abbrev s_Lock_gives : Stmt := inClass (top 6) 5
abbrev s_Lock_passage : Stmt := inClass (top 6) 6
abbrev s_Lock_begin : Stmt := inClass (top 6) 7
abbrev s_Lock_minute : Stmt := inClass (top 6) 8
abbrev s_water_for : Stmt := top 7
abbrev s_best_ways : Stmt := top 8
abbrev s_law_dice : Stmt := top 10
abbrev s_law_roll : Stmt := top 11
abbrev s_law_rounds : Stmt := top 12
abbrev s_law_told : Stmt := top 13
abbrev s_law_next : Stmt := top 14
abbrev s_law_turns : Stmt := top 15
abbrev s_law_ways : Stmt := top 16
abbrev s_law_plain : Stmt := top 17
abbrev s_law : Stmt := top 18
theorem sc_Lock_init : FnScope ["self", "fill", "side"] ["self", "fill", "side"] (defScope s_Lock_init) := ⟨rfl, rfl, rfl, by decide +kernel, rfl, by decide +kernel, by decide +kernel⟩
theorem sc_Lock_join : FnScope ["self", "time", "way", "boat", "row"] ["self", "time", "way", "boat"] (defScope s_Lock_join) := ⟨rfl, rfl, rfl, by decide +kernel, rfl, by decide +kernel, by decide +kernel⟩
theorem sc_Lock_next_row : FnScope ["self", "rows", "time", "way", "boat", "turn"] ["self"] (defScope s_Lock_next_row) := ⟨rfl, rfl, rfl, by decide +kernel, rfl, by decide +kernel, by decide +kernel⟩
theorem sc_Lock_is_ready : FnScope ["self", "way"] ["self", "way"] (defScope s_Lock_is_ready) := ⟨rfl, rfl, rfl, by decide +kernel, rfl, by decide +kernel, by decide +kernel⟩
theorem sc_Lock_needs : FnScope ["self", "way"] ["self", "way"] (defScope s_Lock_needs) := ⟨rfl, rfl, rfl, by decide +kernel, rfl, by decide +kernel, by decide +kernel⟩
theorem sc_Lock_gives : FnScope ["self", "way"] ["self", "way"] (defScope s_Lock_gives) := ⟨rfl, rfl, rfl, by decide +kernel, rfl, by decide +kernel, by decide +kernel⟩
theorem sc_Lock_passage : FnScope ["self", "way"] ["self", "way"] (defScope s_Lock_passage) := ⟨rfl, rfl, rfl, by decide +kernel, rfl, by decide +kernel, by decide +kernel⟩
theorem sc_Lock_begin : FnScope ["self", "row"] ["self", "row"] (defScope s_Lock_begin) := ⟨rfl, rfl, rfl, by decide +kernel, rfl, by decide +kernel, by decide +kernel⟩
theorem sc_Lock_minute : FnScope ["self", "found"] ["self"] (defScope s_Lock_minute) := ⟨rfl, rfl, rfl, by decide +kernel, rfl, by decide +kernel, by decide +kernel⟩
theorem sc_water_for : FnScope ["ways", "fill", "side", "lock", "taken", "place", "way", "through"] ["ways", "fill", "side"] (defScope s_water_for) := ⟨rfl, rfl, rfl, by decide +kernel, rfl, by decide +kernel, by decide +kernel⟩
theorem sc_best_ways : FnScope ["many_up", "many_down", "side", "best", "left", "ways", "ups", "downs", "row"] ["many_up", "many_down", "side"] (defScope s_best_ways) := ⟨rfl, rfl, rfl, by decide +kernel, rfl, by decide +kernel, by decide +kernel⟩
theorem sc_law_dice : FnScope ["cell"] ["cell"] (defScope s_law_dice) := ⟨rfl, rfl, rfl, by decide +kernel, rfl, by decide +kernel, by decide +kernel⟩
theorem sc_law_roll : FnScope ["dice", "many", "found"] ["dice", "many"] (defScope s_law_roll) := ⟨rfl, rfl, rfl, by decide +kernel, rfl, by decide +kernel, by decide +kernel⟩
theorem sc_law_rounds : FnScope ["script", "most", "cells", "cell"] ["script", "most"] (defScope s_law_rounds) := ⟨rfl, rfl, rfl, by decide +kernel, rfl, by decide +kernel, by decide +kernel⟩
theorem sc_law_told : FnScope ["what"] ["what"] (defScope s_law_told) := ⟨rfl, rfl, rfl, by decide +kernel, rfl, by decide +kernel, by decide +kernel⟩
theorem sc_law_next : FnScope ["own", "rows", "time", "way", "boat"] ["own"] (defScope s_law_next) := ⟨rfl, rfl, rfl, by decide +kernel, rfl, by decide +kernel, by decide +kernel⟩
theorem sc_law_turns : FnScope ["ways", "side", "fills", "turns", "way", "ready"] ["ways", "side"] (defScope s_law_turns) := ⟨rfl, rfl, rfl, by decide +kernel, rfl, by decide +kernel, by decide +kernel⟩
theorem sc_law_ways : FnScope ["ups", "downs", "found", "rest"] ["ups", "downs"] (defScope s_law_ways) := ⟨rfl, rfl, rfl, by decide +kernel, rfl, by decide +kernel, by decide +kernel⟩
theorem sc_law_plain : FnScope ["lock", "bad", "f"] [] (defScope s_law_plain) := ⟨rfl, rfl, rfl, by decide +kernel, rfl, by decide +kernel, by decide +kernel⟩
theorem sc_law : FnScope ["script", "dice", "fill", "side", "time", "lock", "own", "step", "sort", "way", "boat", "good", "row", "asked", "ready", "one", "due", "ways", "k", "fills", "turns", "ups", "downs", "rows"] ["script"] (defScope s_law) := ⟨rfl, rfl, rfl, by decide +kernel, rfl, by decide +kernel, by decide +kernel⟩
def d_Lock_init : He.DefD := ⟨("Lock", some "__init__"), "__init__", "Lock.__init__", defArgs s_Lock_init, defBody s_Lock_init, defScope s_Lock_init, [.str "down"], []⟩
def d_Lock_join : He.DefD := ⟨("Lock", some "join"), "join", "Lock.join", defArgs s_Lock_join, defBody s_Lock_join, defScope s_Lock_join, [], []⟩
def d_Lock_next_row : He.DefD := ⟨("Lock", some "next_row"), "next_row", "Lock.next_row", defArgs s_Lock_next_row, defBody s_Lock_next_row, defScope s_Lock_next_row, [], []⟩
def d_Lock_is_ready : He.DefD := ⟨("Lock", some "is_ready"), "is_ready", "Lock.is_ready", defArgs s_Lock_is_ready, defBody s_Lock_is_ready, defScope s_Lock_is_ready, [], []⟩
def d_Lock_needs : He.DefD := ⟨("Lock", some "needs"), "needs", "Lock.needs", defArgs s_Lock_needs, defBody s_Lock_needs, defScope s_Lock_needs, [], []⟩
def d_Lock_gives : He.DefD := ⟨("Lock", some "gives"), "gives", "Lock.gives", defArgs s_Lock_gives, defBody s_Lock_gives, defScope s_Lock_gives, [], []⟩
def d_Lock_passage : He.DefD := ⟨("Lock", some "passage"), "passage", "Lock.passage", defArgs s_Lock_passage, defBody s_Lock_passage, defScope s_Lock_passage, [], []⟩
def d_Lock_begin : He.DefD := ⟨("Lock", some "begin"), "begin", "Lock.begin", defArgs s_Lock_begin, defBody s_Lock_begin, defScope s_Lock_begin, [], []⟩
def d_Lock_minute : He.DefD := ⟨("Lock", some "minute"), "minute", "Lock.minute", defArgs s_Lock_minute, defBody s_Lock_minute, defScope s_Lock_minute, [], []⟩
def d_water_for : He.DefD := ⟨("water_for", none), "water_for", "water_for", defArgs s_water_for, defBody s_water_for, defScope s_water_for, [], []⟩
def d_best_ways : He.DefD := ⟨("best_ways", none), "best_ways", "best_ways", defArgs s_best_ways, defBody s_best_ways, defScope s_best_ways, [], []⟩
def d_law_dice : He.DefD := ⟨("_law_dice", none), "_law_dice", "_law_dice", defArgs s_law_dice, defBody s_law_dice, defScope s_law_dice, [], []⟩
def d_law_roll : He.DefD := ⟨("_law_roll", none), "_law_roll", "_law_roll", defArgs s_law_roll, defBody s_law_roll, defScope s_law_roll, [], []⟩
def d_law_rounds : He.DefD := ⟨("_law_rounds", none), "_law_rounds", "_law_rounds", defArgs s_law_rounds, defBody s_law_rounds, defScope s_law_rounds, [], []⟩
def d_law_told : He.DefD := ⟨("_law_told", none), "_law_told", "_law_told", defArgs s_law_told, defBody s_law_told, defScope s_law_told, [], []⟩
def d_law_next : He.DefD := ⟨("_law_next", none), "_law_next", "_law_next", defArgs s_law_next, defBody s_law_next, defScope s_law_next, [], []⟩
def d_law_turns : He.DefD := ⟨("_law_turns", none), "_law_turns", "_law_turns", defArgs s_law_turns, defBody s_law_turns, defScope s_law_turns, [], []⟩
def d_law_ways : He.DefD := ⟨("_law_ways", none), "_law_ways", "_law_ways", defArgs s_law_ways, defBody s_law_ways, defScope s_law_ways, [], []⟩
def d_law_plain : He.DefD := ⟨("_law_plain", none), "_law_plain", "_law_plain", defArgs s_law_plain, defBody s_law_plain, defScope s_law_plain, [], []⟩
def d_law : He.DefD := ⟨("law", none), "law", "law", defArgs s_law, defBody s_law, defScope s_law, [], []⟩
def fn : List He.DefD := [d_Lock_init, d_Lock_join, d_Lock_next_row, d_Lock_is_ready, d_Lock_needs, d_Lock_gives, d_Lock_passage, d_Lock_begin, d_Lock_minute, d_water_for, d_best_ways, d_law_dice, d_law_roll, d_law_rounds, d_law_told, d_law_next, d_law_turns, d_law_ways, d_law_plain, d_law]
def fa_0 : List He.Fa := [.glo "CanalError", .exc "CanalError", .glo "LockError", .exc "LockError", .glo "Lock", .cls "Lock", .mkr "Lock", .noat "Lock" "fill", .noat "Lock" "side", .noat "Lock" "waiting", .noat "Lock" "boat", .noat "Lock" "way", .noat "Lock" "left", .noat "Lock" "turns", .meth "Lock" "join", .meth "Lock" "next_row", .meth "Lock" "is_ready", .meth "Lock" "needs", .meth "Lock" "gives", .meth "Lock" "passage", .meth "Lock" "begin", .meth "Lock" "minute", .exm "CanalError" "CanalError" true, .exm "CanalError" "LockError" false, .exm "LockError" "CanalError" true, .exm "LockError" "LockError" true, .glo "water_for", .glo "best_ways", .glo "_law_dice", .glo "_law_roll"]
def fa_1 : List He.Fa := [.glo "_law_rounds", .glo "_law_told", .glo "_law_next", .glo "_law_turns", .glo "_law_ways", .glo "_law_plain", .glo "law", .int "TURN" 12, .int "PASS" 6, .free "ValueError", .free "abs", .free "any", .free "enumerate", .free "int", .free "min", .free "range", .free "sorted", .free "str", .free "tuple"]
def fa : List He.Fa := fa_0 ++ fa_1
def tf : List He.Defn := [("Lock", some "join"), ("_law_plain", none), ("law", none)]
def FL (K : PySem.W.Frag) : List (Addr × Str) := [((He.cT K ("Lock", some "join")).2, (d_Lock_join.qual ++ ".<locals>." ++ "<genexpr>" : Str)), ((He.cT K ("_law_plain", none)).2, (d_law_plain.qual ++ ".<locals>." ++ "<lambda>" : Str)), ((He.cT K ("law", none)).2, (d_law.qual ++ ".<locals>." ++ "<lambda>" : Str))]
def exB (K : PySem.W.Frag) : Bool := decide ((FL K).map (·.1)).Nodup
def loose : List Str := ["CanalError", "LockError", "TURN", "PASS", "Lock", "water_for", "best_ways", "_law_dice", "_law_roll", "_law_rounds", "_law_told", "_law_next", "_law_turns", "_law_ways", "_law_plain"]
structure Txt (K : PySem.W.Frag) (mg : Str → Option Value) (base : Heap) : Prop where
  g_CanalError : mg "CanalError" = some (.ref (He.ga K "CanalError"))
  e_CanalError : PySem.W.excIn K (He.ga K "CanalError") He.veBase "ValueError.__new__" = true ∧ PySem.W.keepIn K (.ref (He.ga K "CanalError")) = true ∧ PySem.W.subIn K (.ref (He.ga K "CanalError")) (.type "BaseException") = some true ∧ PySem.W.typeIn K (.ref (He.ga K "CanalError")) = some (.type "type")
  g_LockError : mg "LockError" = some (.ref (He.ga K "LockError"))
  e_LockError : PySem.W.excIn K (He.ga K "LockError") He.veBase "ValueError.__new__" = true ∧ PySem.W.keepIn K (.ref (He.ga K "LockError")) = true ∧ PySem.W.subIn K (.ref (He.ga K "LockError")) (.type "BaseException") = some true ∧ PySem.W.typeIn K (.ref (He.ga K "LockError")) = some (.type "type")
  g_Lock : mg "Lock" = some (.ref (He.ga K "Lock"))
  k_Lock : Cls K (He.ga K "Lock")
  m_Lock : Mk K (He.ga K "Lock") (He.fAd K ("Lock", some "__init__"))
  n_Lock_fill : NoAttr K (He.ga K "Lock") "fill"
  n_Lock_side : NoAttr K (He.ga K "Lock") "side"
  n_Lock_waiting : NoAttr K (He.ga K "Lock") "waiting"
  n_Lock_boat : NoAttr K (He.ga K "Lock") "boat"
  n_Lock_way : NoAttr K (He.ga K "Lock") "way"
  n_Lock_left : NoAttr K (He.ga K "Lock") "left"
  n_Lock_turns : NoAttr K (He.ga K "Lock") "turns"
  me_Lock_join : Meth K (He.ga K "Lock") "join" (He.fAd K ("Lock", some "join"))
  me_Lock_next_row : Meth K (He.ga K "Lock") "next_row" (He.fAd K ("Lock", some "next_row"))
  me_Lock_is_ready : Meth K (He.ga K "Lock") "is_ready" (He.fAd K ("Lock", some "is_ready"))
  me_Lock_needs : Meth K (He.ga K "Lock") "needs" (He.fAd K ("Lock", some "needs"))
  me_Lock_gives : Meth K (He.ga K "Lock") "gives" (He.fAd K ("Lock", some "gives"))
  me_Lock_passage : Meth K (He.ga K "Lock") "passage" (He.fAd K ("Lock", some "passage"))
  me_Lock_begin : Meth K (He.ga K "Lock") "begin" (He.fAd K ("Lock", some "begin"))
  me_Lock_minute : Meth K (He.ga K "Lock") "minute" (He.fAd K ("Lock", some "minute"))
  x_CanalError_CanalError : PySem.W.exmOne K (.ref (He.ga K "CanalError")) (.ref (He.ga K "CanalError")) = some true
  x_CanalError_LockError : PySem.W.exmOne K (.ref (He.ga K "CanalError")) (.ref (He.ga K "LockError")) = some false
  x_LockError_CanalError : PySem.W.exmOne K (.ref (He.ga K "LockError")) (.ref (He.ga K "CanalError")) = some true
  x_LockError_LockError : PySem.W.exmOne K (.ref (He.ga K "LockError")) (.ref (He.ga K "LockError")) = some true
  g_water_for : mg "water_for" = some (.ref (He.ga K "water_for"))
  g_best_ways : mg "best_ways" = some (.ref (He.ga K "best_ways"))
  g_law_dice : mg "_law_dice" = some (.ref (He.ga K "_law_dice"))
  g_law_roll : mg "_law_roll" = some (.ref (He.ga K "_law_roll"))
  g_law_rounds : mg "_law_rounds" = some (.ref (He.ga K "_law_rounds"))
  g_law_told : mg "_law_told" = some (.ref (He.ga K "_law_told"))
  g_law_next : mg "_law_next" = some (.ref (He.ga K "_law_next"))
  g_law_turns : mg "_law_turns" = some (.ref (He.ga K "_law_turns"))
  g_law_ways : mg "_law_ways" = some (.ref (He.ga K "_law_ways"))
  g_law_plain : mg "_law_plain" = some (.ref (He.ga K "_law_plain"))
  g_law : mg "law" = some (.ref (He.ga K "law"))
  c_TURN : ∃ t, mg "TURN" = some (.int 12 t)
  c_PASS : ∃ t, mg "PASS" = some (.int 6 t)
  f_ValueError : mg "ValueError" = none
  f_abs : mg "abs" = none
  f_any : mg "any" = none
  f_enumerate : mg "enumerate" = none
  f_int : mg "int" = none
  f_min : mg "min" = none
  f_range : mg "range" = none
  f_sorted : mg "sorted" = none
  f_str : mg "str" = none
  f_tuple : mg "tuple" = none
  d_Lock_init : ∃ fd, FunD K d_Lock_init.name d_Lock_init.qual d_Lock_init.params d_Lock_init.body d_Lock_init.scope (d_Lock_init.dvs K) (d_Lock_init.kws K) (He.fAd K d_Lock_init.at_) fd
  d_Lock_join : ∃ fd, FunD K d_Lock_join.name d_Lock_join.qual d_Lock_join.params d_Lock_join.body d_Lock_join.scope (d_Lock_join.dvs K) (d_Lock_join.kws K) (He.fAd K d_Lock_join.at_) fd
  d_Lock_next_row : ∃ fd, FunD K d_Lock_next_row.name d_Lock_next_row.qual d_Lock_next_row.params d_Lock_next_row.body d_Lock_next_row.scope (d_Lock_next_row.dvs K) (d_Lock_next_row.kws K) (He.fAd K d_Lock_next_row.at_) fd
  d_Lock_is_ready : ∃ fd, FunD K d_Lock_is_ready.name d_Lock_is_ready.qual d_Lock_is_ready.params d_Lock_is_ready.body d_Lock_is_ready.scope (d_Lock_is_ready.dvs K) (d_Lock_is_ready.kws K) (He.fAd K d_Lock_is_ready.at_) fd
  d_Lock_needs : ∃ fd, FunD K d_Lock_needs.name d_Lock_needs.qual d_Lock_needs.params d_Lock_needs.body d_Lock_needs.scope (d_Lock_needs.dvs K) (d_Lock_needs.kws K) (He.fAd K d_Lock_needs.at_) fd
  d_Lock_gives : ∃ fd, FunD K d_Lock_gives.name d_Lock_gives.qual d_Lock_gives.params d_Lock_gives.body d_Lock_gives.scope (d_Lock_gives.dvs K) (d_Lock_gives.kws K) (He.fAd K d_Lock_gives.at_) fd
  d_Lock_passage : ∃ fd, FunD K d_Lock_passage.name d_Lock_passage.qual d_Lock_passage.params d_Lock_passage.body d_Lock_passage.scope (d_Lock_passage.dvs K) (d_Lock_passage.kws K) (He.fAd K d_Lock_passage.at_) fd
  d_Lock_begin : ∃ fd, FunD K d_Lock_begin.name d_Lock_begin.qual d_Lock_begin.params d_Lock_begin.body d_Lock_begin.scope (d_Lock_begin.dvs K) (d_Lock_begin.kws K) (He.fAd K d_Lock_begin.at_) fd
  d_Lock_minute : ∃ fd, FunD K d_Lock_minute.name d_Lock_minute.qual d_Lock_minute.params d_Lock_minute.body d_Lock_minute.scope (d_Lock_minute.dvs K) (d_Lock_minute.kws K) (He.fAd K d_Lock_minute.at_) fd
  d_water_for : ∃ fd, FunD K d_water_for.name d_water_for.qual d_water_for.params d_water_for.body d_water_for.scope (d_water_for.dvs K) (d_water_for.kws K) (He.fAd K d_water_for.at_) fd
  d_best_ways : ∃ fd, FunD K d_best_ways.name d_best_ways.qual d_best_ways.params d_best_ways.body d_best_ways.scope (d_best_ways.dvs K) (d_best_ways.kws K) (He.fAd K d_best_ways.at_) fd
  d_law_dice : ∃ fd, FunD K d_law_dice.name d_law_dice.qual d_law_dice.params d_law_dice.body d_law_dice.scope (d_law_dice.dvs K) (d_law_dice.kws K) (He.fAd K d_law_dice.at_) fd
  d_law_roll : ∃ fd, FunD K d_law_roll.name d_law_roll.qual d_law_roll.params d_law_roll.body d_law_roll.scope (d_law_roll.dvs K) (d_law_roll.kws K) (He.fAd K d_law_roll.at_) fd
  d_law_rounds : ∃ fd, FunD K d_law_rounds.name d_law_rounds.qual d_law_rounds.params d_law_rounds.body d_law_rounds.scope (d_law_rounds.dvs K) (d_law_rounds.kws K) (He.fAd K d_law_rounds.at_) fd
  d_law_told : ∃ fd, FunD K d_law_told.name d_law_told.qual d_law_told.params d_law_told.body d_law_told.scope (d_law_told.dvs K) (d_law_told.kws K) (He.fAd K d_law_told.at_) fd
  d_law_next : ∃ fd, FunD K d_law_next.name d_law_next.qual d_law_next.params d_law_next.body d_law_next.scope (d_law_next.dvs K) (d_law_next.kws K) (He.fAd K d_law_next.at_) fd
  d_law_turns : ∃ fd, FunD K d_law_turns.name d_law_turns.qual d_law_turns.params d_law_turns.body d_law_turns.scope (d_law_turns.dvs K) (d_law_turns.kws K) (He.fAd K d_law_turns.at_) fd
  d_law_ways : ∃ fd, FunD K d_law_ways.name d_law_ways.qual d_law_ways.params d_law_ways.body d_law_ways.scope (d_law_ways.dvs K) (d_law_ways.kws K) (He.fAd K d_law_ways.at_) fd
  d_law_plain : ∃ fd, FunD K d_law_plain.name d_law_plain.qual d_law_plain.params d_law_plain.body d_law_plain.scope (d_law_plain.dvs K) (d_law_plain.kws K) (He.fAd K d_law_plain.at_) fd
  d_law : ∃ fd, FunD K d_law.name d_law.qual d_law.params d_law.body d_law.scope (d_law.dvs K) (d_law.kws K) (He.fAd K d_law.at_) fd
  tb : ∀ p ∈ tf, LamX.TabB base mg (He.cT K p).1 (He.cT K p).2
  nt : ((FL K).map (·.1)).Nodup
theorem tm_Lock_join : (("Lock", some "join") : He.Defn) ∈ tf := by decide +kernel
theorem tl_Lock_join {K : PySem.W.Frag} : ((He.cT K ("Lock", some "join")).2, (d_Lock_join.qual ++ ".<locals>." ++ "<genexpr>" : Str)) ∈ FL K := by unfold FL; simp
theorem tm_law_plain : (("_law_plain", none) : He.Defn) ∈ tf := by decide +kernel
theorem tl_law_plain {K : PySem.W.Frag} : ((He.cT K ("_law_plain", none)).2, (d_law_plain.qual ++ ".<locals>." ++ "<lambda>" : Str)) ∈ FL K := by unfold FL; simp
theorem tm_law : (("law", none) : He.Defn) ∈ tf := by decide +kernel
theorem tl_law {K : PySem.W.Frag} : ((He.cT K ("law", none)).2, (d_law.qual ++ ".<locals>." ++ "<lambda>" : Str)) ∈ FL K := by unfold FL; simp
theorem txt_of {w : World} {K : PySem.W.Frag} {mg : Str → Option Value} {base h : Heap} (X : K.In h) (G : h.Ns mainGlobals mg) (c : He.SaysX fa fn [] tf exB w h K) (tb : ∀ p ∈ tf.map (He.cT K), LamX.TabB base mg p.1 p.2) : Txt K mg base :=
  ⟨He.glo_ok X G (c.t.d.fact 0 (f := .glo "CanalError") rfl),
   He.exc_ok (c.t.d.fact 1 (f := .exc "CanalError") rfl),
   He.glo_ok X G (c.t.d.fact 2 (f := .glo "LockError") rfl),
   He.exc_ok (c.t.d.fact 3 (f := .exc "LockError") rfl),
   He.glo_ok X G (c.t.d.fact 4 (f := .glo "Lock") rfl),
   He.cls_ok (c.t.d.fact 5 (f := .cls "Lock") rfl),
   He.mkr_ok (c.t.d.fact 6 (f := .mkr "Lock") rfl),
   He.noat_ok (c.t.d.fact 7 (f := .noat "Lock" "fill") rfl),
   He.noat_ok (c.t.d.fact 8 (f := .noat "Lock" "side") rfl),
   He.noat_ok (c.t.d.fact 9 (f := .noat "Lock" "waiting") rfl),
   He.noat_ok (c.t.d.fact 10 (f := .noat "Lock" "boat") rfl),
   He.noat_ok (c.t.d.fact 11 (f := .noat "Lock" "way") rfl),
   He.noat_ok (c.t.d.fact 12 (f := .noat "Lock" "left") rfl),
   He.noat_ok (c.t.d.fact 13 (f := .noat "Lock" "turns") rfl),
   He.meth_ok (c.t.d.fact 14 (f := .meth "Lock" "join") rfl),
   He.meth_ok (c.t.d.fact 15 (f := .meth "Lock" "next_row") rfl),
   He.meth_ok (c.t.d.fact 16 (f := .meth "Lock" "is_ready") rfl),
   He.meth_ok (c.t.d.fact 17 (f := .meth "Lock" "needs") rfl),
   He.meth_ok (c.t.d.fact 18 (f := .meth "Lock" "gives") rfl),
   He.meth_ok (c.t.d.fact 19 (f := .meth "Lock" "passage") rfl),
   He.meth_ok (c.t.d.fact 20 (f := .meth "Lock" "begin") rfl),
   He.meth_ok (c.t.d.fact 21 (f := .meth "Lock" "minute") rfl),
   He.exm_ok (c.t.d.fact 22 (f := .exm "CanalError" "CanalError" true) rfl),
   He.exm_ok (c.t.d.fact 23 (f := .exm "CanalError" "LockError" false) rfl),
   He.exm_ok (c.t.d.fact 24 (f := .exm "LockError" "CanalError" true) rfl),
   He.exm_ok (c.t.d.fact 25 (f := .exm "LockError" "LockError" true) rfl),
   He.glo_ok X G (c.t.d.fact 26 (f := .glo "water_for") rfl),
   He.glo_ok X G (c.t.d.fact 27 (f := .glo "best_ways") rfl),
   He.glo_ok X G (c.t.d.fact 28 (f := .glo "_law_dice") rfl),
   He.glo_ok X G (c.t.d.fact 29 (f := .glo "_law_roll") rfl),
   He.glo_ok X G (c.t.d.fact 30 (f := .glo "_law_rounds") rfl),
   He.glo_ok X G (c.t.d.fact 31 (f := .glo "_law_told") rfl),
   He.glo_ok X G (c.t.d.fact 32 (f := .glo "_law_next") rfl),
   He.glo_ok X G (c.t.d.fact 33 (f := .glo "_law_turns") rfl),
   He.glo_ok X G (c.t.d.fact 34 (f := .glo "_law_ways") rfl),
   He.glo_ok X G (c.t.d.fact 35 (f := .glo "_law_plain") rfl),
   He.glo_ok X G (c.t.d.fact 36 (f := .glo "law") rfl),
   He.int_ok X G (c.t.d.fact 37 (f := .int "TURN" 12) rfl),
   He.int_ok X G (c.t.d.fact 38 (f := .int "PASS" 6) rfl),
   He.free_ok X G (c.t.d.fact 39 (f := .free "ValueError") rfl),
   He.free_ok X G (c.t.d.fact 40 (f := .free "abs") rfl),
   He.free_ok X G (c.t.d.fact 41 (f := .free "any") rfl),
   He.free_ok X G (c.t.d.fact 42 (f := .free "enumerate") rfl),
   He.free_ok X G (c.t.d.fact 43 (f := .free "int") rfl),
   He.free_ok X G (c.t.d.fact 44 (f := .free "min") rfl),
   He.free_ok X G (c.t.d.fact 45 (f := .free "range") rfl),
   He.free_ok X G (c.t.d.fact 46 (f := .free "sorted") rfl),
   He.free_ok X G (c.t.d.fact 47 (f := .free "str") rfl),
   He.free_ok X G (c.t.d.fact 48 (f := .free "tuple") rfl),
   c.t.d.def_ 0 (d := d_Lock_init) rfl,
   c.t.d.def_ 1 (d := d_Lock_join) rfl,
   c.t.d.def_ 2 (d := d_Lock_next_row) rfl,
   c.t.d.def_ 3 (d := d_Lock_is_ready) rfl,
   c.t.d.def_ 4 (d := d_Lock_needs) rfl,
   c.t.d.def_ 5 (d := d_Lock_gives) rfl,
   c.t.d.def_ 6 (d := d_Lock_passage) rfl,
   c.t.d.def_ 7 (d := d_Lock_begin) rfl,
   c.t.d.def_ 8 (d := d_Lock_minute) rfl,
   c.t.d.def_ 9 (d := d_water_for) rfl,
   c.t.d.def_ 10 (d := d_best_ways) rfl,
   c.t.d.def_ 11 (d := d_law_dice) rfl,
   c.t.d.def_ 12 (d := d_law_roll) rfl,
   c.t.d.def_ 13 (d := d_law_rounds) rfl,
   c.t.d.def_ 14 (d := d_law_told) rfl,
   c.t.d.def_ 15 (d := d_law_next) rfl,
   c.t.d.def_ 16 (d := d_law_turns) rfl,
   c.t.d.def_ 17 (d := d_law_ways) rfl,
   c.t.d.def_ 18 (d := d_law_plain) rfl,
   c.t.d.def_ 19 (d := d_law) rfl,
   fun p hp => tb _ (List.mem_map_of_mem hp),
   of_decide_eq_true c.more⟩
end K2
namespace K2
open PySem PySem.Spec PyProof.Rows L2 Cn LamX
local macro_rules | `(tactic| walk_at "few") => `(tactic| exact Nat.le_of_ble_eq_true rfl)
local macro_rules | `(tactic| walk_at "ne") => `(tactic| first | assumption | (apply Ne.symm; assumption) | exact ne_of_none (by assumption) (by assumption) | exact (ne_of_none (by assumption) (by assumption)).symm)
local macro_rules | `(tactic| walk_at "hf") => `(tactic| first | assumption | exact upd_same | (refine Eq.trans (upd_ne (by walk_at "ne")) ?_; walk_at "hf"))
local macro_rules | `(tactic| walk_at "bk") => `(tactic| first | (dsimp only [blk_K, blk_w, blk_prog]; done) | exact rfl | (dsimp only [blk_K, blk_w, blk_prog]; exact rfl))
local macro_rules | `(tactic| walk_at "ht") => `(tactic| exact SqT.of (by walk_at "hf"))
local macro_rules | `(tactic| walk_at "at") => `(tactic| first | exact atI_nat (by assumption) | rfl)
local macro_rules | `(tactic| walk_at "nz") => `(tactic| first | omega | exact ⟨by omega, by omega⟩)
local macro_rules | `(tactic| walk_at "ix") => `(tactic| first | assumption | rfl)
local macro_rules | `(tactic| walk_at "sq") => `(tactic| first | exact .inl (SqL.of (by walk_at "hf")) | exact .inr (SqT.of (by walk_at "hf")))
/-! ### a lock -/
structure LkF where
  fill : Int
  side : Str
  wa : Addr
  boat : Option Str
  way : Option Str
  left : Int
  turns : Int
def oV : Option Str → V
  | some x => .str x
  | none => .non
def lockF (r : LkF) : List (Str × V) := [("fill", .int r.fill), ("side", .str r.side), ("waiting", .ref r.wa), ("boat", oV r.boat), ("way", oV r.way), ("left", .int r.left), ("turns", .int r.turns)]
theorem lk_Lock_fill (r : LkF) : (lockF r).lookup ("fill" : Str) = some (.int r.fill) := by kernel_rfl
theorem lk_Lock_side (r : LkF) : (lockF r).lookup ("side" : Str) = some (.str r.side) := by kernel_rfl
theorem pt_Lock_side (r : LkF) (v : Str) : putF "side" (.str v) (lockF r) = lockF { r with side := v } := by kernel_rfl
theorem lk_Lock_waiting (r : LkF) : (lockF r).lookup ("waiting" : Str) = some (.ref r.wa) := by kernel_rfl
theorem lk_Lock_boat (r : LkF) : (lockF r).lookup ("boat" : Str) = some (oV r.boat) := by kernel_rfl
theorem pt_Lock_boat (r : LkF) (v : Option Str) : putF "boat" (oV v) (lockF r) = lockF { r with boat := v } := by kernel_rfl
theorem lk_Lock_way (r : LkF) : (lockF r).lookup ("way" : Str) = some (oV r.way) := by kernel_rfl
theorem pt_Lock_way (r : LkF) (v : Option Str) : putF "way" (oV v) (lockF r) = lockF { r with way := v } := by kernel_rfl
theorem lk_Lock_left (r : LkF) : (lockF r).lookup ("left" : Str) = some (.int r.left) := by kernel_rfl
theorem pt_Lock_left (r : LkF) (v : Int) : putF "left" (.int v) (lockF r) = lockF { r with left := v } := by kernel_rfl
theorem lk_Lock_turns (r : LkF) : (lockF r).lookup ("turns" : Str) = some (.int r.turns) := by kernel_rfl
theorem pt_Lock_turns (r : LkF) (v : Int) : putF "turns" (.int v) (lockF r) = lockF { r with turns := v } := by kernel_rfl
theorem nm_Lock_join (r : LkF) : (lockF r).lookup ("join" : Str) = none := by kernel_rfl
theorem nm_Lock_next_row (r : LkF) : (lockF r).lookup ("next_row" : Str) = none := by kernel_rfl
theorem nm_Lock_is_ready (r : LkF) : (lockF r).lookup ("is_ready" : Str) = none := by kernel_rfl
theorem nm_Lock_needs (r : LkF) : (lockF r).lookup ("needs" : Str) = none := by kernel_rfl
theorem nm_Lock_gives (r : LkF) : (lockF r).lookup ("gives" : Str) = none := by kernel_rfl
theorem nm_Lock_passage (r : LkF) : (lockF r).lookup ("passage" : Str) = none := by kernel_rfl
theorem nm_Lock_begin (r : LkF) : (lockF r).lookup ("begin" : Str) = none := by kernel_rfl
theorem nm_Lock_minute (r : LkF) : (lockF r).lookup ("minute" : Str) = none := by kernel_rfl
abbrev LkO (K : PySem.W.Frag) (dx : Addr) (r : LkF) : HO := .ins (He.ga K "Lock") dx (lockF r)
abbrev LErr (K : PySem.W.Frag) : Value := .ref (He.ga K "LockError")
def rdy (side way : Str) : Bool := decide (decide (way = "down") = decide (side = "up"))
def spReady (K : PySem.W.Frag) : Sp := Sp2 fun x y H Q _ => ∃ a dx r way, x = .ref a ∧ y = .str way ∧ H a = some (LkO K dx r) ∧ Q (.bl (rdy r.side way)) H
section
variable {P : Program} {w : World} {K : PySem.W.Frag} {mg : Str → Option Value} {base : Heap}
theorem ok_Lock_is_ready (T : Txt K mg base) : Pr P w K mg base 1 (He.fAd K ("Lock", some "is_ready")) ["self", "way"] (spReady K) := by
  refine mk_pr T.d_Lock_is_ready rfl sc_Lock_is_ready (fun _ _ _ _ _ _ us hl => match us, hl with | [_, _], _ => rfl) len2 (fun cdv A outer s H vs Q E hr h => ?_)
  have nd := sc_Lock_is_ready.nd
  obtain ⟨x, y, rfl, a, dx, r, way, rfl, rfl, h1, k⟩ := h
  refine ⟨_, (pss_one (ps_ret (pe_cmpR op_eq (pe_cmpR op_eq (pv 1) pe_str (nomark _)) (pe_cmpR op_eq (pe_fld (pv 0) rfl) pe_str (nomark _)) (nomark _)))), ?_⟩
  refine ⟨_, rfl, rfl, _, rfl, _, _, _, _, _, rfl, h1, T.k_Lock, T.n_Lock_side, lk_Lock_side _, rfl, rfl, ?_⟩
  have e : decide (V.bl (decide (V.str way = V.str "down")) = V.bl (decide (V.str r.side = V.str "up"))) = rdy r.side way := by
    simp [rdy]
  exact e ▸ k
end
def needS (fill : Int) (side way : Str) : Int := if (decide (V.str way = V.str "down") && decide (V.str side = V.str "up")) = true then 0 else fill
def giveS (fill : Int) (side way : Str) : Int := if (decide (V.str way = V.str "up") && decide (V.str side = V.str "down")) = true then 0 else fill
def spNeeds (K : PySem.W.Frag) : Sp := Sp2 fun x y H Q _ => ∃ a dx r way, x = .ref a ∧ y = .str way ∧ H a = some (LkO K dx r) ∧ Q (.int (needS r.fill r.side way)) H
section
variable {P : Program} {w : World} {K : PySem.W.Frag} {mg : Str → Option Value} {base : Heap}
theorem ok_Lock_needs (T : Txt K mg base) : Pr P w K mg base 1 (He.fAd K ("Lock", some "needs")) ["self", "way"] (spNeeds K) := by
  refine mk_pr T.d_Lock_needs rfl sc_Lock_needs (fun _ _ _ _ _ _ us hl => match us, hl with | [_, _], _ => rfl) len2 (fun cdv A outer s H vs Q E hr h => ?_)
  have nd := sc_Lock_needs.nd
  obtain ⟨x, y, rfl, a, dx, r, way, rfl, rfl, h1, k⟩ := h
  refine ⟨_, (pss_one (ps_ret (pe_ifExp (PW.pt (pw_and (pt_cmpR op_eq (pv 1) pe_str (nomark _)) (pw_and1 (pt_cmpR op_eq (pe_fld (pv 0) rfl) pe_str (nomark _))))) pe_int (pe_fld (pv 0) rfl)))), ?_⟩
  refine (tif_p (and_p (test_p (fun _ k => ⟨_, rfl, rfl, k⟩)) (fun hg => (test_p (fun _ k => ⟨_, rfl, _, _, _, _, _, rfl, (by walk_at "hf"), T.k_Lock, T.n_Lock_side, lk_Lock_side _, rfl, k⟩)))) (fun hg => (fun _ k => k)) (fun hg => (fun _ k => ⟨_, rfl, _, _, _, _, _, rfl, (by walk_at "hf"), T.k_Lock, T.n_Lock_fill, lk_Lock_fill _, k⟩))) _ ?_
  rw [ite_int]
  exact k
end
def spGives (K : PySem.W.Frag) : Sp := Sp2 fun x y H Q _ => ∃ a dx r way, x = .ref a ∧ y = .str way ∧ H a = some (LkO K dx r) ∧ Q (.int (giveS r.fill r.side way)) H
section
variable {P : Program} {w : World} {K : PySem.W.Frag} {mg : Str → Option Value} {base : Heap}
theorem ok_Lock_gives (T : Txt K mg base) : Pr P w K mg base 1 (He.fAd K ("Lock", some "gives")) ["self", "way"] (spGives K) := by
  refine mk_pr T.d_Lock_gives rfl sc_Lock_gives (fun _ _ _ _ _ _ us hl => match us, hl with | [_, _], _ => rfl) len2 (fun cdv A outer s H vs Q E hr h => ?_)
  have nd := sc_Lock_gives.nd
  obtain ⟨x, y, rfl, a, dx, r, way, rfl, rfl, h1, k⟩ := h
  refine ⟨_, (pss_one (ps_ret (pe_ifExp (PW.pt (pw_and (pt_cmpR op_eq (pv 1) pe_str (nomark _)) (pw_and1 (pt_cmpR op_eq (pe_fld (pv 0) rfl) pe_str (nomark _))))) pe_int (pe_fld (pv 0) rfl)))), ?_⟩
  refine (tif_p (and_p (test_p (fun _ k => ⟨_, rfl, rfl, k⟩)) (fun hg => (test_p (fun _ k => ⟨_, rfl, _, _, _, _, _, rfl, (by walk_at "hf"), T.k_Lock, T.n_Lock_side, lk_Lock_side _, rfl, k⟩)))) (fun hg => (fun _ k => k)) (fun hg => (fun _ k => ⟨_, rfl, _, _, _, _, _, rfl, (by walk_at "hf"), T.k_Lock, T.n_Lock_fill, lk_Lock_fill _, k⟩))) _ ?_
  rw [ite_int]
  exact k
end
def pasS (r : LkF) (way : Str) : Int := 12 + 6 + (if rdy r.side way = true then 0 else 12)
def spPass (K : PySem.W.Frag) : Sp := Sp2 fun x y H Q _ => ∃ a dx r way, x = .ref a ∧ y = .str way ∧ H a = some (LkO K dx r) ∧ Q (.int (pasS r way)) H
section
variable {P : Program} {w : World} {K : PySem.W.Frag} {mg : Str → Option Value} {base : Heap}
theorem ok_Lock_passage (T : Txt K mg base) : Pr P w K mg base 2 (He.fAd K ("Lock", some "passage")) ["self", "way"] (spPass K) := by
  refine mk_pr T.d_Lock_passage rfl sc_Lock_passage (fun _ _ _ _ _ _ us hl => match us, hl with | [_, _], _ => rfl) len2 (fun cdv A outer s H vs Q E hr h => ?_)
  have nd := sc_Lock_passage.nd
  obtain ⟨x, y, rfl, a, dx, r, way, rfl, rfl, h1, k⟩ := h
  refine ⟨_, (pss_one (ps_ret (pe_op op_add (pe_op op_add ((pe_gint T.c_TURN)) ((pe_gint T.c_PASS))) (pe_ifExp (pt_val (pe_mt (pv 0) T.k_Lock T.me_Lock_is_ready (ok_Lock_is_ready T) hr (by decide) lets (pa_cons (pv 1) pa_nil))) pe_int ((pe_gint T.c_TURN)))))), ?_⟩
  refine ⟨_, _, rfl, rfl, ?_⟩
  refine ⟨_, rfl, _, _, _, rfl, h1, nm_Lock_is_ready _, _, rfl, _, _, rfl, a, dx, r, way, rfl, rfl, h1, _, rfl, ?_⟩
  unfold pasS at k
  cases hr : rdy r.side way with
  | true =>
    rw [hr] at k
    exact ite_tt ⟨_, _, rfl, rfl, k⟩
  | false =>
    rw [hr] at k
    exact ite_ff ⟨_, _, rfl, rfl, k⟩
end
end K2
namespace K2
open PySem PySem.Spec PyProof.Rows L2 Cn LamX
local macro_rules | `(tactic| walk_at "few") => `(tactic| exact Nat.le_of_ble_eq_true rfl)
local macro_rules | `(tactic| walk_at "ne") => `(tactic| first | assumption | (apply Ne.symm; assumption) | exact ne_of_none (by assumption) (by assumption) | exact (ne_of_none (by assumption) (by assumption)).symm)
local macro_rules | `(tactic| walk_at "hf") => `(tactic| first | assumption | exact upd_same | (refine Eq.trans (upd_ne (by walk_at "ne")) ?_; walk_at "hf"))
local macro_rules | `(tactic| walk_at "bk") => `(tactic| first | (dsimp only [blk_K, blk_w, blk_prog]; done) | exact rfl | (dsimp only [blk_K, blk_w, blk_prog]; exact rfl))
local macro_rules | `(tactic| walk_at "ht") => `(tactic| exact SqT.of (by walk_at "hf"))
local macro_rules | `(tactic| walk_at "at") => `(tactic| first | exact atI_nat (by assumption) | rfl)
local macro_rules | `(tactic| walk_at "nz") => `(tactic| first | omega | exact ⟨by omega, by omega⟩)
local macro_rules | `(tactic| walk_at "ix") => `(tactic| first | assumption | rfl)
local macro_rules | `(tactic| walk_at "sq") => `(tactic| first | exact .inl (SqL.of (by walk_at "hf")) | exact .inr (SqT.of (by walk_at "hf")))
theorem line1000 : 1000 ≤ sizeLine := by decide +kernel
theorem scal_oV {x : Str} {o : Option Str} : scal (.str x) (oV o) = true := by cases o <;> rfl
/-! ### rows that wait -/
structure Rw where
  t : Int
  way : Str
  boat : Str
deriving DecidableEq
def rwV (r : Rw) : List V := [.int r.t, .str r.way, .str r.boat]
def dRw (r : Rw) : PyData := .tuple [.int r.t, .str r.way, .str r.boat]
def okR (r : Rw) : Bool := PyData.strOk r.way && PyData.strOk r.boat
def RwsAt (H : Hp) (wa : Addr) (rs : List Rw) : Prop := ∃ pl : List (Addr × Rw), pl.map (·.2) = rs ∧ H wa = some (.lst (pl.map fun q => V.ref q.1)) ∧ ∀ q ∈ pl, H q.1 = some (.tup (rwV q.2))
structure LkS where
  fill : Int
  side : Str
  rs : List Rw
  boat : Option Str
  way : Option Str
  left : Int
  turns : Int
abbrev LkS.f (s : LkS) (wa : Addr) : LkF := ⟨s.fill, s.side, wa, s.boat, s.way, s.left, s.turns⟩
structure LkP where
  a : Addr
  dx : Addr
  wa : Addr
structure LockAt (K : PySem.W.Frag) (H : Hp) (p : LkP) (s : LkS) : Prop where
  o : H p.a = some (LkO K p.dx (s.f p.wa))
  w : RwsAt H p.wa s.rs
  k : ∀ r ∈ s.rs, okR r = true
def lfoot (p : LkP) : List Addr := [p.a, p.wa]
section
variable {K : PySem.W.Frag} {H H' : Hp} {p : LkP} {s : LkS} {wa : Addr} {rs : List Rw} {T : List (Addr × Str)} {S : List Addr}
theorem RwsAt.fr (h : RwsAt H wa rs) (f : Fr T S H H') (hw : wa ∉ S) (ht : ∀ b ∈ S, ∀ xs, H b ≠ some (.tup xs)) : RwsAt H' wa rs := by
  obtain ⟨pl, e, h1, h2⟩ := h
  exact ⟨pl, e, f.l h1 hw, fun q hq => f.t (h2 q hq) fun m => ht _ m _ (h2 q hq)⟩
theorem RwsAt.fr0 (h : RwsAt H wa rs) (f : Fr T [] H H') : RwsAt H' wa rs := h.fr f (by simp) (by simp)
theorem LockAt.fr0 (h : LockAt K H p s) (f : Fr T [] H H') : LockAt K H' p s := ⟨f.i h.o (by simp), h.w.fr0 f, h.k⟩
theorem LockAt.wn (h : LockAt K H p s) : p.wa ≠ p.a := fun e => by
  obtain ⟨pl, _, h1, _⟩ := h.w
  rw [e, h.o] at h1
  cases h1
theorem LockAt.nt (h : LockAt K H p s) : ∀ b ∈ lfoot p, ∀ xs, H b ≠ some (.tup xs) := fun b hb xs z => by
  obtain ⟨pl, _, h1, _⟩ := h.w
  rcases List.mem_cons.mp hb with e | hb
  · rw [e, h.o] at z
    cases z
  · rw [List.mem_singleton.mp hb, h1] at z
    cases z
/-- the instance alone is written -/
theorem LockAt.put (h : LockAt K H p s) (s' : LkS) (e : s'.rs = s.rs) : LockAt K (upd H p.a (LkO K p.dx (s'.f p.wa))) p s' := by
  obtain ⟨pl, e1, h1, h2⟩ := h.w
  refine ⟨upd_same, ⟨pl, e1.trans e.symm, (upd_ne h.wn).trans h1, fun q hq => (upd_ne fun z => ?_).trans (h2 q hq)⟩, by rw [e]; exact h.k⟩
  have := h2 q hq
  rw [z, h.o] at this
  cases this
theorem RwsAt.add (h : RwsAt H wa rs) {r : Rw} {q : Addr} (hq : H q = some (.tup (rwV r))) : ∃ xs : List V, H wa = some (.lst xs) ∧ xs.length = rs.length ∧ RwsAt (upd H wa (.lst (xs ++ [V.ref q]))) wa (rs ++ [r]) := by
  obtain ⟨pl, e, h1, h2⟩ := h
  refine ⟨_, h1, by rw [List.length_map, ← e, List.length_map], pl ++ [(q, r)], by rw [List.map_append, e] <;> rfl, by rw [List.map_append]; exact upd_same, fun c hc => ?_⟩
  have ht : H c.1 = some (.tup (rwV c.2)) := by
    rcases List.mem_append.mp hc with z | z
    · exact h2 c z
    · rw [List.mem_singleton.mp z]
      exact hq
  refine (upd_ne fun z => ?_).trans ht
  rw [z, h1] at ht
  cases ht
end
/-! ### data of rows -/
theorem dRw_can {r : Rw} (h : okR r = true) : (dRw r).canLay0 = true := by
  unfold okR at h
  rw [Bool.and_eq_true] at h
  simp [dRw, PyData.canLay0, PyData.canLayAll0, h.1, h.2]
theorem dRw_depth (r : Rw) : (dRw r).depth ≤ 1 := by simp [dRw, PyData.depth, PyData.depthAll]
theorem dRw_shaped {r : Rw} (h : okR r = true) : SeqAt.shaped (dRw r) = true := shaped_of (dRw_can h) (by have := dRw_depth r; omega)
theorem dRw_dp {K : PySem.W.Frag} {H : Hp} {q : Addr} {r : Rw} (h : H q = some (.tup (rwV r))) : Dp K H (.ref q) (dRw r) := .tup (SqT.of h) (.cons (.int _) (.cons (.str _) (.cons (.str _) .nil)))
theorem dRws_dp {K : PySem.W.Frag} {H : Hp} {pl : List (Addr × Rw)} (h : ∀ q ∈ pl, H q.1 = some (.tup (rwV q.2))) : DpAll K H (pl.map fun q => V.ref q.1) ((pl.map (·.2)).map dRw) := by
  rw [List.map_map]
  exact dpAll_map fun q hq => dRw_dp (h q hq)
theorem dRw_eqv (a b : Rw) : PyData.eqv (dRw a) (dRw b) = decide (a = b) := by
  obtain ⟨t, w, n⟩ := a
  obtain ⟨t', w', n'⟩ := b
  have e : PyData.eqv (dRw ⟨t, w, n⟩) (dRw ⟨t', w', n'⟩) = ((t == t') && ((w == w') && ((n == n') && true))) := by simp only [dRw, PyData.eqv, PyData.eqvAll]
  rw [e]
  by_cases h1 : t = t' <;> by_cases h2 : w = w' <;> by_cases h3 : n = n' <;> simp [h1, h2, h3]
theorem dRws_shaped {rs : List Rw} (h : ∀ r ∈ rs, okR r = true) : SeqAt.shaped (.list (rs.map dRw)) = true := shaped_list (fun a m => dRw_can (h a m)) fun a _ => by have := dRw_depth a; omega
/-! ### a new lock -/
def isSide (x : Str) : Bool := inV (.str x) [.str "up", .str "down"]
def badL (fill : Int) (side : Str) : Bool := decide (fill < 1) || !isSide side
theorem mk_Lock (fill : Int) (side : Str) (wa : Addr) : putF "turns" (.int 0) (putF "left" (.int 0) (putF "way" .non (putF "boat" .non (putF "waiting" (.ref wa) (putF "side" (.str side) (putF "fill" (.int fill) [])))))) = lockF ⟨fill, side, wa, none, none, 0, 0⟩ := by kernel_rfl
def spLInit (K : PySem.W.Frag) : Sp := Sp3 fun x y z H Q E => ∃ a dx fill side, x = .ref a ∧ y = .int fill ∧ z = .str side ∧ H a = some (.ins (He.ga K "Lock") dx []) ∧ (badL fill side = true → ∀ H', Fr (FL K) [] H H' → E (LErr K) none H') ∧
  (badL fill side = false → ∀ wa H', Fr (FL K) [a] H H' → LockAt K H' ⟨a, dx, wa⟩ ⟨fill, side, [], none, none, 0, 0⟩ → Nw H wa → Q .non H')
section
variable {P : Program} {w : World} {K : PySem.W.Frag} {mg : Str → Option Value} {base : Heap}
theorem okX_Lock_init (T : Txt K mg base) : ∀ (n j : Nat), n + ((d_Lock_init.dvs K).length - j) = ["self", "fill", "side"].length → BindD K d_Lock_init ["self", "fill", "side"] n j → PrD P w K mg base 1 (He.fAd K ("Lock", some "__init__")) ["self", "fill", "side"] (spLInit K) ((d_Lock_init.dvs K).drop j) := by
  refine mk_prD T.d_Lock_init (fun z => by cases z) sc_Lock_init len3 (fun cdv A outer s H vs Q E hr h => ?_)
  have nd := sc_Lock_init.nd
  obtain ⟨x, y, z, rfl, a, dx, fill, side, rfl, rfl, rfl, h1, e, k⟩ := h
  refine ⟨_, (pss_cons (ps_if (PW.pt (pw_or (pt_cmpR op_lt (pv 1) pe_int (nomark _)) (pw_or1 (pt_cmpR op_notIn_seq (pv 2) (pe_tup (pa_cons pe_str (pa_cons pe_str pa_nil))) (by rfl)))))
        (pss_one (ps_err takes T.e_LockError T.g_LockError))
        pss_nil)
      (pss_cons (ps_fld (pv 0) (pv 1) rfl)
      (pss_cons (ps_fld (pv 0) (pv 2) rfl)
      (pss_cons (ps_fld (pv 0) (pe_lst pa_nil) rfl)
      (pss_cons (ps_fld (pv 0) pe_non rfl)
      (pss_cons (ps_fld (pv 0) pe_non rfl)
      (pss_cons (ps_fld (pv 0) pe_int rfl)
      (pss_one (ps_fld (pv 0) pe_int rfl))))))))), ?_⟩
  refine ifs_x (T := FL K) (b := badL fill side) ?_ (fun hd H1 f1 => ?_) (fun hd H1 f1 => ?_)
  · refine or_x (BP.up (test_p (b := decide (fill < 1)) ?_)) fun hd H1 f1 => test_x (in_x (neg := true) (x := .str side) (fun _ k => ⟨_, rfl, k⟩) (cons_t c_p (cons_t c_p nil_t)) (by decide) rfl rfl)
    exact fun _ k => ⟨_, rfl, _, _, rfl, rfl, k⟩
  · exact e hd H1 f1
  · have h1' := f1.i h1 (by simp)
    refine ⟨_, rfl, _, rfl, _, _, _, _, rfl, h1', T.k_Lock, T.n_Lock_fill, (by walk_at "few"), ?_⟩
    refine ⟨_, rfl, _, rfl, _, _, _, _, rfl, upd_same, T.k_Lock, T.n_Lock_side, (by walk_at "few"), ?_⟩; rw [upd_upd]
    refine ⟨by decide, fun wa nw => ?_⟩
    have hne : a ≠ wa := (ne_of_none upd_same nw)
    refine ⟨_, rfl, _, _, _, _, rfl, (upd_ne hne).trans upd_same, T.k_Lock, T.n_Lock_waiting, (by walk_at "few"), ?_⟩
    refine ⟨_, rfl, _, _, _, _, rfl, upd_same, T.k_Lock, T.n_Lock_boat, (by walk_at "few"), ?_⟩; rw [upd_upd]
    refine ⟨_, rfl, _, _, _, _, rfl, upd_same, T.k_Lock, T.n_Lock_way, (by walk_at "few"), ?_⟩; rw [upd_upd]
    refine ⟨_, rfl, _, _, _, _, rfl, upd_same, T.k_Lock, T.n_Lock_left, (by walk_at "few"), ?_⟩; rw [upd_upd]
    refine ⟨_, rfl, _, _, _, _, rfl, upd_same, T.k_Lock, T.n_Lock_turns, (by walk_at "few"), ?_⟩; rw [upd_upd, mk_Lock]
    refine k hd wa _ ?_ ⟨upd_same, ⟨[], rfl, (upd_ne (Ne.symm hne)).trans upd_same, fun _ z => by simp at z⟩, fun _ z => by simp at z⟩ (Nw.of f1 ?_ (by simp))
    · exact (((f1.mono (by simp)).trans (Fr.upd h1' rfl (List.mem_singleton.mpr rfl))).trans (Fr.new nw)).trans (Fr.upd ((upd_ne hne).trans upd_same) rfl (List.mem_singleton.mpr rfl))
    · exact (upd_ne (Ne.symm hne)).symm.trans nw
theorem ok_Lock_init (T : Txt K mg base) : Pr P w K mg base 1 (He.fAd K ("Lock", some "__init__")) ["self", "fill", "side"] (spLInit K) := (okX_Lock_init T 3 1 rfl (fun T kV doc pm an cdv ct us its h1 h2 => match us, its, h1, h2 with | [_, _, _], [_], _, _ => ⟨_, rfl, rfl⟩)).full
theorem ok_Lock_init_1 (T : Txt K mg base) : PrD P w K mg base 1 (He.fAd K ("Lock", some "__init__")) ["self", "fill", "side"] (spLInit K) ((d_Lock_init.dvs K).drop 0) := okX_Lock_init T 2 0 rfl (fun T kV doc pm an cdv ct us its h1 h2 => match us, its, h1, h2 with | [_, _], [_], _, _ => ⟨_, rfl, rfl⟩)
end
/-! ### who waits -/
def badJ (s : LkS) (w b : Str) : Bool := !isSide w || (decide (V.str b = oV s.boat) || s.rs.any fun r => decide (V.str r.boat = V.str b))
def spJoin (K : PySem.W.Frag) : Sp := Sp4 fun x t y z H Q E => ∃ p s ti w b, x = .ref p.a ∧ t = .int ti ∧ y = .str w ∧ z = .str b ∧ okR ⟨ti, w, b⟩ = true ∧ LockAt K H p s ∧ Tabs (FL K) H ∧ s.rs.length < 1000 ∧ (badJ s w b = true → ∀ H', Fr (FL K) [] H H' → E (LErr K) none H') ∧
  (badJ s w b = false → ∀ H', Fr (FL K) [p.wa] H H' → LockAt K H' p { s with rs := s.rs ++ [⟨ti, w, b⟩] } → Q .non H')
section
variable {P : Program} {w : World} {K : PySem.W.Frag} {mg : Str → Option Value} {base : Heap}
theorem ok_Lock_join (T : Txt K mg base) : Pr P w K mg base 2 (He.fAd K ("Lock", some "join")) ["self", "time", "way", "boat"] (spJoin K) := by
  refine mk_prT T.d_Lock_join rfl sc_Lock_join (fun _ _ _ _ _ _ us hl => match us, hl with | [_, _, _, _], _ => rfl) len4 (fun A outer s H vs Q E hr h => ?_)
  have nd := sc_Lock_join.nd
  obtain ⟨x, t, y, z, rfl, p, s, ti, wy, bt, rfl, rfl, rfl, rfl, okr, L, ht, n, e, k⟩ := h
  refine ⟨_, (pss_cons (ps_if (PW.pt (pw_or (pt_cmpR op_notIn_seq (pv 2) (pe_tup (pa_cons pe_str (pa_cons pe_str pa_nil))) (by rfl)) (pw_or (pt_cmpR op_eq (pv 3) (pe_fld (pv 0) rfl) (nomark _)) (pw_or1 (pt_val (pe_anyG hr (T.tb _ tm_Lock_join) rfl tl_Lock_join (tab_uniq T.nt tl_Lock_join) T.f_any (pe_fld (pv 0) rfl) (peg_eqS (peg_ix (peg_var (i := 4)) peg_int (fun _ _ => rfl)) (peg_var (i := 3)) (nomark _)) (ix := 4) rfl (show gsB (defScope s_Lock_join) _ ["self", "time", "way", "boat", "row"] "row" = true from by rfl) nd (show (".0" : Str) ∉ (["self", "time", "way", "boat", "row"] : List Str) from by decide +kernel)))))))
        (pss_one (ps_err takes T.e_LockError T.g_LockError))
        pss_nil)
      (pss_one (ps_expr (pe_bm PySem.F.plainAttrs_list PySem.F.slot_list_append PySem.F.type_list_append mt_append (pe_fld (pv 0) rfl) (pa_cons (pe_tup (pa_cons (pv 1) (pa_cons (pv 2) (pa_cons (pv 3) pa_nil)))) pa_nil))))), ?_⟩
  refine ifs_x (T := FL K) (b := badJ s wy bt) ?_ (fun hd H1 f1 => e hd H1 f1) (fun hd H1 f1 => ?_)
  · refine or_x (test_x (in_x (neg := true) (x := .str wy) (fun _ k => ⟨_, rfl, k⟩) (cons_t c_p (cons_t c_p nil_t)) (by decide) rfl rfl)) fun _ H1 f1 => ?_
    have h1 := (L.fr0 f1).o
    refine or_x (BP.up (test_p (b := decide (V.str bt = oV s.boat)) fun _ k => ?_)) fun _ H2 f2 => ?_
    · exact ⟨_, rfl, _, rfl, _, _, _, _, _, rfl, h1, T.k_Lock, T.n_Lock_boat, lk_Lock_boat _, scal_oV, k⟩
    obtain ⟨pl, e1, hl, hr⟩ := ((L.fr0 f1).fr0 f2).w
    have h2 := ((L.fr0 f1).fr0 f2).o
    have ea : (s.rs.any fun r => decide (V.str r.boat = V.str bt)) = (List.range (pl.map fun q => V.ref q.1).length).any fun i => ((pl[i]?).map fun q : Addr × Rw => decide (V.str q.2.boat = V.str bt)).getD false := by
      rw [List.length_map, Cn.any_range, ← e1, List.any_map] <;> rfl
    rw [ea]
    refine val_x (any_x (a := p.wa) (fun _ k => ?_) (.inl (SqL.of hl)) (f2.tab (f1.tab ht)) fun i y Hg hy eg => ?_)
    · exact ⟨_, rfl, _, _, _, _, _, rfl, h2, T.k_Lock, T.n_Lock_waiting, lk_Lock_waiting _, k⟩
    · obtain ⟨q, hq, rfl⟩ := map_get hy
      rw [hq]
      have ht := eg _ _ (hr q (List.mem_of_getElem? hq)) (fun _ z => by cases z)
      exact ⟨_, rfl, _, _, _, _, rfl, rfl, ht, rfl, _, rfl, _, _, rfl, rfl, rfl⟩
  · have L1 := L.fr0 f1
    have h1 := L1.o
    obtain ⟨pl, e1, hl, hr⟩ := L1.w
    refine ⟨_, rfl, _, _, _, _, _, rfl, h1, T.k_Lock, T.n_Lock_waiting, lk_Lock_waiting _, .inl ⟨rfl, _, SqL.of hl⟩, ?_⟩
    refine ⟨_, rfl, _, rfl, _, rfl, (by walk_at "few"), fun pN np => ?_⟩
    obtain ⟨xs, hx, hxl, hA⟩ := (L1.fr0 (Fr.new (T := FL K) (o := .tup (rwV ⟨ti, wy, bt⟩)) np)).w.add (r := ⟨ti, wy, bt⟩) (q := pN) upd_same
    refine ⟨_, _, _, rfl, rfl, hx, Nat.lt_of_lt_of_le (by omega) line1000, ?_⟩
    refine k hd _ ((f1.mono (by simp)).trans ((Fr.new np).trans (Fr.upd hx rfl (List.mem_singleton.mpr rfl)))) ⟨(upd_ne (Ne.symm L1.wn)).trans ((upd_ne (ne_of_none h1 np)).trans h1), hA, fun r hr => ?_⟩
    rcases List.mem_append.mp hr with z | z
    · exact L1.k r z
    · rw [List.mem_singleton.mp z]
      exact okr
end
end K2
namespace K2
open PySem PySem.Spec PyProof.Rows L2 Cn LamX
local macro_rules | `(tactic| walk_at "few") => `(tactic| exact Nat.le_of_ble_eq_true rfl)
local macro_rules | `(tactic| walk_at "ne") => `(tactic| first | assumption | (apply Ne.symm; assumption) | exact ne_of_none (by assumption) (by assumption) | exact (ne_of_none (by assumption) (by assumption)).symm)
local macro_rules | `(tactic| walk_at "hf") => `(tactic| first | assumption | exact upd_same | (refine Eq.trans (upd_ne (by walk_at "ne")) ?_; walk_at "hf"))
local macro_rules | `(tactic| walk_at "bk") => `(tactic| first | (dsimp only [blk_K, blk_w, blk_prog]; done) | exact rfl | (dsimp only [blk_K, blk_w, blk_prog]; exact rfl))
local macro_rules | `(tactic| walk_at "ht") => `(tactic| exact SqT.of (by walk_at "hf"))
local macro_rules | `(tactic| walk_at "at") => `(tactic| first | exact atI_nat (by assumption) | rfl)
local macro_rules | `(tactic| walk_at "nz") => `(tactic| first | omega | exact ⟨by omega, by omega⟩)
local macro_rules | `(tactic| walk_at "ix") => `(tactic| first | assumption | rfl)
local macro_rules | `(tactic| walk_at "sq") => `(tactic| first | exact .inl (SqL.of (by walk_at "hf")) | exact .inr (SqT.of (by walk_at "hf")))
theorem scal_oV' {x : Str} {o : Option Str} : scal (oV o) (.str x) = true := by cases o <;> rfl
theorem ptn_boat (r : LkF) : putF "boat" .non (lockF r) = lockF { r with boat := none } := pt_Lock_boat r none
theorem ptn_way (r : LkF) : putF "way" .non (lockF r) = lockF { r with way := none } := pt_Lock_way r none
/-! ### a minute -/
def dneS (s : LkS) : LkS := { s with left := s.left - 1, side := if decide (oV s.way = V.str "up") = true then "up" else "down", boat := none, way := none }
def spMinute (K : PySem.W.Frag) : Sp := Sp1 fun x H Q _ => ∃ p s, x = .ref p.a ∧ LockAt K H p s ∧ (s.boat = none → Q .non H) ∧ (s.boat ≠ none → s.left - 1 > 0 → ∀ H', Fr (FL K) [p.a] H H' → LockAt K H' p { s with left := s.left - 1 } → Q .non H') ∧
  (s.boat ≠ none → ¬ s.left - 1 > 0 → ∀ H' q, Fr (FL K) [p.a] H H' → LockAt K H' p (dneS s) → H' q = some (.tup [oV s.boat, oV s.way]) → Nw H q → Q (.ref q) H')
section
variable {P : Program} {w : World} {K : PySem.W.Frag} {mg : Str → Option Value} {base : Heap}
theorem ok_Lock_minute (T : Txt K mg base) : Pr P w K mg base 1 (He.fAd K ("Lock", some "minute")) ["self"] (spMinute K) := by
  refine mk_pr T.d_Lock_minute rfl sc_Lock_minute (fun _ _ _ _ _ _ us hl => match us, hl with | [_], _ => rfl) len1 (fun cdv A outer s H vs Q E hr h => ?_)
  have nd := sc_Lock_minute.nd
  obtain ⟨x, rfl, p, s, rfl, L, k0, k1, k2⟩ := h
  refine ⟨_, (pss_cons (ps_if (pt_cmpR op_isN (pe_fld (pv 0) rfl) pe_non (nomark _))
        (pss_one (ps_ret pe_non))
        pss_nil)
      (pss_cons (ps_fldaug (pv 0) pe_int in_sub)
      (pss_cons (ps_if (pt_cmpR op_gt (pe_fld (pv 0) rfl) pe_int (nomark _))
        (pss_one (ps_ret pe_non))
        pss_nil)
      (pss_cons (ps_set (i := 1) nd rfl (Or.inl rfl) (pe_tup (pa_cons (pe_fld (pv 0) rfl) (pa_cons (pe_fld (pv 0) rfl) pa_nil))))
      (pss_cons (ps_fld (pv 0) (pe_ifExp (pt_cmpR op_eq (pe_fld (pv 0) rfl) pe_str (nomark _)) pe_str pe_str) rfl)
      (pss_cons (ps_asg (pe_tup (pa_cons pe_non (pa_cons pe_non pa_nil))) (pg_tup (n := 2) rfl (pgs_cons (pg_fld (pv 0)) (pgs_cons (pg_fld (pv 0)) pgs_nil))))
      (pss_one (ps_ret (pv 1))))))))), ?_⟩
  have h1 := L.o
  have nb : s.boat = none ∨ (oV s.boat ≠ .non ∧ s.boat ≠ none) := by
    cases h : s.boat with
    | none => exact .inl rfl
    | some b => exact .inr ⟨(fun z => by cases z), (fun z => by cases z)⟩
  (refine ifs_p (test_p (fun _ k => ⟨_, rfl, _, _, _, _, _, rfl, (by walk_at "hf"), T.k_Lock, T.n_Lock_boat, lk_Lock_boat _, rfl, k⟩)) (fun hd => ?_) (fun hd => ?_))
  · rcases nb with z | z
    · exact k0 z
    · exact absurd (of_decide_eq_true hd) z.1
  · have hb : s.boat ≠ none := by
      rcases nb with z | z
      · have : decide (oV s.boat = V.non) = false := hd
        rw [z] at this
        cases this
      · exact z.2
    refine nx_ap ?_
    (refine ⟨_, rfl, _, _, _, _, _, rfl, (by walk_at "hf"), T.k_Lock, T.n_Lock_left, lk_Lock_left _, ⟨_, _, rfl, rfl, _, _, (by walk_at "hf"), (by walk_at "few"), ?_⟩⟩; rw [pt_Lock_left])
    refine nx_ap ?_
    have L2' := L.put { s with left := s.left - 1 } rfl
    have f2 : Fr (FL K) [p.a] H (upd H p.a (LkO K p.dx (LkS.f { s with left := s.left - 1 } p.wa))) := Fr.upd h1 rfl (List.mem_singleton.mpr rfl)
    have h2 := L2'.o
    revert h2 L2' f2
    show (_ → _ → _ → tSeq _ _ _ _ (upd H p.a (LkO K p.dx (LkS.f { s with left := s.left - 1 } p.wa))))
    generalize upd H p.a (LkO K p.dx (LkS.f { s with left := s.left - 1 } p.wa)) = H2
    intro L2 f2 h2
    (refine ifs_p (test_p (fun _ k => ⟨_, rfl, _, _, _, _, _, rfl, (by walk_at "hf"), T.k_Lock, T.n_Lock_left, lk_Lock_left _, _, _, rfl, rfl, k⟩)) (fun hd => ?_) (fun hd => ?_))
    · exact k1 hb (of_decide_eq_true hd) _ f2 L2
    · refine nx_ap ?_
      (refine ⟨_, rfl, _, _, _, _, _, rfl, (by walk_at "hf"), T.k_Lock, T.n_Lock_boat, lk_Lock_boat _, _, rfl, _, _, _, _, _, rfl, (by walk_at "hf"), T.k_Lock, T.n_Lock_way, lk_Lock_way _, (by walk_at "few"), fun pN np => ?_⟩)
      refine nx_ap ?_
      have h3 := (Fr.new (T := FL K) (S := []) (o := .tup [oV s.boat, oV s.way]) np).i h2 (by simp)
      have L3 := L2.fr0 (Fr.new (T := FL K) (o := .tup [oV s.boat, oV s.way]) np)
      have f3 : Fr (FL K) [p.a] H (upd H2 pN (.tup [oV s.boat, oV s.way])) := f2.trans (Fr.new np)
      have hN : upd H2 pN (.tup [oV s.boat, oV s.way]) pN = some (.tup [oV s.boat, oV s.way]) := upd_same
      have nN : Nw H pN := by
        refine Nw.of f2 np fun m => ?_
        rw [List.mem_singleton.mp m, h2] at np
        cases np
      revert h3 L3 f3 hN
      show (_ → _ → _ → _ → tSeq _ _ _ _ (upd H2 pN (.tup [oV s.boat, oV s.way])))
      generalize upd H2 pN (.tup [oV s.boat, oV s.way]) = H3
      intro h3 L3 f3 hN
      refine tif_str (b := decide (oV s.way = V.str "up")) (test_p fun _ k => ⟨_, rfl, _, _, _, _, _, rfl, h3, T.k_Lock, T.n_Lock_way, lk_Lock_way _, scal_oV', k⟩) (fun _ => c_p) (fun _ => c_p) _ ?_
      refine ⟨_, rfl, _, _, _, _, rfl, h3, T.k_Lock, T.n_Lock_side, (by walk_at "few"), ?_⟩; rw [pt_Lock_side]
      refine nx_ap ?_
      refine ⟨by walk_at "few", fun pM nM => ?_⟩
      refine ⟨_, _, rfl, SqT.of upd_same, rfl, _, _, rfl, ?_⟩
      refine ⟨_, rfl, _, _, _, _, rfl, (upd_ne (ne_of_none upd_same nM)).trans upd_same, T.k_Lock, T.n_Lock_boat, (by walk_at "few"), ?_⟩
      rw [ptn_boat]
      refine ⟨_, _, rfl, _, rfl, _, _, _, _, rfl, upd_same, T.k_Lock, T.n_Lock_way, (by walk_at "few"), ?_⟩
      rw [ptn_way, upd_upd]
      refine ⟨rfl, nx_ap ?_⟩
      have M3 := L3.put { s with left := s.left - 1, side := if decide (oV s.way = V.str "up") = true then "up" else "down" } rfl
      have g3 := f3.trans (Fr.upd (u := LkO K p.dx (LkS.f { s with left := s.left - 1, side := if decide (oV s.way = V.str "up") = true then "up" else "down" } p.wa)) L3.o rfl (List.mem_singleton.mpr rfl))
      have M4 := (M3.fr0 (Fr.new (T := FL K) (o := .tup [V.non, V.non]) nM))
      have M5 := M4.put (dneS s) rfl
      have npa : pN ≠ p.a := fun e => by
        rw [e, L3.o] at hN
        cases hN
      refine ⟨_, rfl, k2 hb (of_decide_eq_false hd) _ pN ((g3.trans (Fr.new nM)).trans (Fr.upd M4.o rfl (List.mem_singleton.mpr rfl))) M5 ?_ nN⟩
      exact (upd_ne npa).trans ((upd_ne (ne_of_none ((upd_ne npa).trans hN) nM)).trans ((upd_ne npa).trans hN))
end
end K2
namespace K2
open PySem PySem.Spec PyProof.Rows L2 Cn LamX
local macro_rules | `(tactic| walk_at "few") => `(tactic| exact Nat.le_of_ble_eq_true rfl)
local macro_rules | `(tactic| walk_at "ne") => `(tactic| first | assumption | (apply Ne.symm; assumption) | exact ne_of_none (by assumption) (by assumption) | exact (ne_of_none (by assumption) (by assumption)).symm)
local macro_rules | `(tactic| walk_at "hf") => `(tactic| first | assumption | exact upd_same | (refine Eq.trans (upd_ne (by walk_at "ne")) ?_; walk_at "hf"))
local macro_rules | `(tactic| walk_at "bk") => `(tactic| first | (dsimp only [blk_K, blk_w, blk_prog]; done) | exact rfl | (dsimp only [blk_K, blk_w, blk_prog]; exact rfl))
local macro_rules | `(tactic| walk_at "ht") => `(tactic| exact SqT.of (by walk_at "hf"))
local macro_rules | `(tactic| walk_at "at") => `(tactic| first | exact atI_nat (by assumption) | rfl)
local macro_rules | `(tactic| walk_at "nz") => `(tactic| first | omega | exact ⟨by omega, by omega⟩)
local macro_rules | `(tactic| walk_at "ix") => `(tactic| first | assumption | rfl)
local macro_rules | `(tactic| walk_at "sq") => `(tactic| first | exact .inl (SqL.of (by walk_at "hf")) | exact .inr (SqT.of (by walk_at "hf")))
theorem map_erase {α β : Type} (f : α → β) : ∀ (l : List α) (i : Nat), (l.eraseIdx i).map f = (l.map f).eraseIdx i
  | [], _ => rfl
  | _ :: _, 0 => rfl
  | a :: r, i + 1 => by
    show f a :: (r.eraseIdx i).map f = f a :: (r.map f).eraseIdx i
    rw [map_erase f r i]
theorem idx_facts {rs : List Rw} {r : Rw} (h : r ∈ rs) : rs[rs.idxOf r]? = some r ∧ (∀ (m : Nat) (z : Rw), m < rs.idxOf r → rs[m]? = some z → z ≠ r) ∧ rs.erase r = rs.eraseIdx (rs.idxOf r) := by
  induction rs with
  | nil => cases h
  | cons a t ih =>
    by_cases e : a = r
    · subst e
      have : (a :: t).idxOf a = 0 := by simp
      rw [this]
      refine ⟨rfl, fun m z hm => absurd hm (Nat.not_lt_zero _), by simp⟩
    · have hm : r ∈ t := (List.mem_cons.mp h).elim (fun z => absurd z.symm e) id
      obtain ⟨i1, i2, i3⟩ := ih hm
      have : (a :: t).idxOf r = t.idxOf r + 1 := by
        rw [List.idxOf_cons]
        have : (a == r) = false := by simpa using e
        rw [this]
        rfl
      rw [this]
      refine ⟨by simpa using i1, fun m z hm hz => ?_, ?_⟩
      · cases m with
        | zero =>
          cases hz
          exact e
        | succ m => exact i2 m z (by omega) (by simpa using hz)
      · rw [List.erase_cons_tail (by simpa using e), i3] <;> rfl
theorem pts_boat (r : LkF) (x : Str) : putF "boat" (.str x) (lockF r) = lockF { r with boat := some x } := pt_Lock_boat r (some x)
theorem pts_way (r : LkF) (x : Str) : putF "way" (.str x) (lockF r) = lockF { r with way := some x } := pt_Lock_way r (some x)
/-! ### who begins -/
def badB (s : LkS) (r : Rw) : Bool := !decide (oV s.boat = V.non) || !s.rs.any fun z => decide (z = r)
def begS (s : LkS) (r : Rw) : LkS := { s with rs := s.rs.erase r, boat := some r.boat, way := some r.way, left := 12 + 6 + (if rdy s.side r.way = true then 0 else 12), turns := s.turns + (if rdy s.side r.way = true then 1 else 2) }
def spBegin (K : PySem.W.Frag) : Sp := Sp2 fun x y H Q E => ∃ p s q r, x = .ref p.a ∧ y = .ref q ∧ LockAt K H p s ∧ H q = some (.tup (rwV r)) ∧ okR r = true ∧ (badB s r = true → E (LErr K) none H) ∧
  (badB s r = false → ∀ H', Fr (FL K) [p.a, p.wa] H H' → LockAt K H' p (begS s r) → Q .non H')
section
variable {P : Program} {w : World} {K : PySem.W.Frag} {mg : Str → Option Value} {base : Heap}
theorem ok_Lock_begin (T : Txt K mg base) : Pr P w K mg base 3 (He.fAd K ("Lock", some "begin")) ["self", "row"] (spBegin K) := by
  refine mk_pr T.d_Lock_begin rfl sc_Lock_begin (fun _ _ _ _ _ _ us hl => match us, hl with | [_, _], _ => rfl) len2 (fun cdv A outer s H vs Q E hr h => ?_)
  have nd := sc_Lock_begin.nd
  obtain ⟨x, y, rfl, p, s, q, r, rfl, rfl, L, hq, okr, e, k⟩ := h
  refine ⟨_, (pss_cons (ps_set (i := 1) nd rfl (Or.inl rfl) (pe_callTy call_tupleT (by rfl) T.f_tuple (by decide +kernel) (pa_cons (pv 1) pa_nil)))
      (pss_cons (ps_if (PW.pt (pw_or (pt_cmpR op_notN (pe_fld (pv 0) rfl) pe_non (nomark _)) (pw_or1 (pt_cmpR (op_notInD (ru65 hr)) (pv 1) (pe_fld (pv 0) rfl) (by rfl)))))
        (pss_one (ps_err takes T.e_LockError T.g_LockError))
        pss_nil)
      (pss_cons (ps_expr (pe_bm PySem.F.plainAttrs_list PySem.F.slot_list_remove PySem.F.type_list_remove (mt_removeD (ru65 hr)) (pe_fld (pv 0) rfl) (pa_cons (pv 1) pa_nil)))
      (pss_cons (ps_asg (pe_tup (pa_cons (pe_ix ix_tup (pv 1) pe_int (fun _ _ => rfl)) (pa_cons (pe_ix ix_tup (pv 1) pe_int (fun _ _ => rfl)) pa_nil))) (pg_tup (n := 2) rfl (pgs_cons (pg_fld (pv 0)) (pgs_cons (pg_fld (pv 0)) pgs_nil))))
      (pss_cons (ps_fld (pv 0) (pe_mt (pv 0) T.k_Lock T.me_Lock_passage (ok_Lock_passage T) hr (by decide) lets (pa_cons (pe_ix ix_tup (pv 1) pe_int (fun _ _ => rfl)) pa_nil)) rfl)
      (pss_one (ps_fldaug (pv 0) (pe_ifExp (pt_val (pe_mt (pv 0) T.k_Lock T.me_Lock_is_ready (ok_Lock_is_ready T) hr (by decide) lets (pa_cons (pe_ix ix_tup (pv 1) pe_int (fun _ _ => rfl)) pa_nil))) pe_int pe_int) in_add))))))), ?_⟩
  have h1 := L.o
  obtain ⟨pl, e1, hl, hr⟩ := L.w
  refine ⟨_, rfl, _, _, rfl, SqT.of hq, ?_⟩
  refine nx_ap ?_
  have hdl : Dp K H (.ref p.wa) (.list (s.rs.map dRw)) := by
    rw [← e1]
    exact .lst (SqL.of hl) (dRws_dp hr)
  have ea : ((s.rs.map dRw).any fun z => PyData.eqv z (dRw r)) = s.rs.any fun z => decide (z = r) := by
    rw [List.any_map]
    congr 1
    funext z
    exact dRw_eqv z r
  refine ifs_p (b := badB s r) (or_p (test_p (b := !decide (oV s.boat = V.non)) fun _ k => ?_) fun hd => test_p fun _ k => ?_) (fun hd => e hd) (fun hd => ?_)
  · exact ⟨_, rfl, _, _, _, _, _, rfl, h1, T.k_Lock, T.n_Lock_boat, lk_Lock_boat _, rfl, k⟩
  · exact ⟨_, rfl, _, rfl, _, _, _, _, _, rfl, h1, T.k_Lock, T.n_Lock_waiting, lk_Lock_waiting _, _, _, dRw_dp hq, hdl, dRw_shaped okr, dRws_shaped L.k, by rw [ea]; exact k⟩
  · have hm : r ∈ s.rs := by
      unfold badB at hd
      rw [Bool.or_eq_false_iff] at hd
      obtain ⟨z, hz, e2⟩ := List.any_eq_true.mp (show (s.rs.any fun z => decide (z = r)) = true by simpa using hd.2)
      rw [← of_decide_eq_true e2]
      exact hz
    have hbn : s.boat = none := by
      unfold badB at hd
      rw [Bool.or_eq_false_iff] at hd
      cases h : s.boat with
      | none => rfl
      | some b =>
        rw [h] at hd
        cases hd.1
    obtain ⟨i1, i2, i3⟩ := idx_facts hm
    have hdl2 : DpAll K H (pl.map fun q => V.ref q.1) (s.rs.map dRw) := by
      rw [← e1]
      exact dRws_dp hr
    refine nx_ap ?_
    refine ⟨_, rfl, _, _, _, _, _, rfl, h1, T.k_Lock, T.n_Lock_waiting, lk_Lock_waiting _, .inl ⟨rfl, _, SqL.of hl⟩, _, rfl, _, _, _, _, _, s.rs.idxOf r, _, rfl, rfl, hl, hdl2, dRw_dp hq, dRws_shaped L.k, dRw_shaped okr, by rw [List.getElem?_map, i1] <;> rfl, (dRw_eqv r r).trans (by simp), fun m z' hm' hz => ?_, ?_⟩
    · rw [List.getElem?_map] at hz
      cases g : s.rs[m]? with
      | none =>
        rw [g] at hz
        cases hz
      | some z =>
        rw [g] at hz
        cases hz
        rw [dRw_eqv]
        exact decide_eq_false (i2 m z hm' g)
    refine nx_ap ?_
    have qn : q ≠ p.wa := fun z => by
      rw [z, hl] at hq
      cases hq
    have hq2 : upd H p.wa (.lst ((pl.map fun q => V.ref q.1).eraseIdx (s.rs.idxOf r))) q = some (.tup (rwV r)) := (upd_ne qn).trans hq
    have f2 : Fr (FL K) [p.a, p.wa] H (upd H p.wa (.lst ((pl.map fun q => V.ref q.1).eraseIdx (s.rs.idxOf r)))) := Fr.upd hl rfl (by simp)
    have L2 : LockAt K (upd H p.wa (.lst ((pl.map fun q => V.ref q.1).eraseIdx (s.rs.idxOf r)))) p { s with rs := s.rs.erase r } := by
      refine ⟨(upd_ne (Ne.symm L.wn)).trans h1, ⟨pl.eraseIdx (s.rs.idxOf r), ?_, ?_, fun c hc => ?_⟩, fun z hz => L.k z (List.mem_of_mem_erase hz)⟩
      · rw [map_erase, e1, i3]
      · rw [map_erase]
        exact upd_same
      · have hc' := List.mem_of_mem_eraseIdx hc
        refine (upd_ne fun z => ?_).trans (hr c hc')
        have := hr c hc'
        rw [z, hl] at this
        cases this
    revert hq2 f2 L2
    show (_ → _ → _ → tSeq _ _ _ _ (upd H p.wa (.lst ((pl.map fun q => V.ref q.1).eraseIdx (s.rs.idxOf r)))))
    generalize upd H p.wa (.lst ((pl.map fun q => V.ref q.1).eraseIdx (s.rs.idxOf r))) = H2
    intro hq2 f2 L2
    have h2 := L2.o
    refine ⟨_, rfl, _, _, _, _, rfl, rfl, SqT.of hq2, rfl, _, rfl, _, _, _, _, rfl, rfl, SqT.of hq2, rfl, by walk_at "few", fun pM nM => ?_⟩
    have h3 : upd H2 pM (.tup [.str r.boat, .str r.way]) p.a = some (LkO K p.dx (LkS.f { s with rs := s.rs.erase r } p.wa)) := (upd_ne (ne_of_none h2 nM)).trans h2
    have f3 : Fr (FL K) [p.a, p.wa] H (upd H2 pM (.tup [.str r.boat, .str r.way])) := f2.trans (Fr.new nM)
    have L3 := L2.fr0 (Fr.new (T := FL K) (o := .tup [.str r.boat, .str r.way]) nM)
    have hq3 : upd H2 pM (.tup [.str r.boat, .str r.way]) q = some (.tup (rwV r)) := (upd_ne (ne_of_none hq2 nM)).trans hq2
    have qa : q ≠ p.a := fun z => by
      rw [z, h1] at hq
      cases hq
    refine ⟨_, _, rfl, SqT.of upd_same, rfl, _, _, rfl, ?_⟩
    generalize upd H2 pM (.tup [.str r.boat, .str r.way]) = H3 at *
    refine ⟨_, rfl, _, _, _, _, rfl, h3, T.k_Lock, T.n_Lock_boat, (by walk_at "few"), ?_⟩
    rw [pts_boat]
    refine ⟨_, _, rfl, _, rfl, _, _, _, _, rfl, upd_same, T.k_Lock, T.n_Lock_way, (by walk_at "few"), ?_⟩
    rw [pts_way, upd_upd]
    refine ⟨rfl, nx_ap ?_⟩
    have L4 := L3.put { s with rs := s.rs.erase r, boat := some r.boat, way := some r.way } rfl
    have f4 : Fr (FL K) [p.a, p.wa] H (upd H3 p.a (LkO K p.dx (LkS.f { s with rs := s.rs.erase r, boat := some r.boat, way := some r.way } p.wa))) := f3.trans (Fr.upd h3 rfl (by simp))
    have hq4 : upd H3 p.a (LkO K p.dx (LkS.f { s with rs := s.rs.erase r, boat := some r.boat, way := some r.way } p.wa)) q = some (.tup (rwV r)) := (upd_ne qa).trans hq3
    show tSeq _ _ _ _ (upd H3 p.a (LkO K p.dx (LkS.f { s with rs := s.rs.erase r, boat := some r.boat, way := some r.way } p.wa)))
    generalize upd H3 p.a (LkO K p.dx (LkS.f { s with rs := s.rs.erase r, boat := some r.boat, way := some r.way } p.wa)) = H4 at *
    have h4 := L4.o
    refine ⟨_, rfl, _, _, _, rfl, h4, nm_Lock_passage _, _, rfl, _, _, _, _, rfl, rfl, SqT.of hq4, rfl, _, _, rfl, _, _, _, _, rfl, rfl, h4, ?_⟩
    refine ⟨_, rfl, _, _, _, _, rfl, h4, T.k_Lock, T.n_Lock_left, (by walk_at "few"), ?_⟩; rw [pt_Lock_left]
    refine nx_ap ?_
    have L5 := L4.put { s with rs := s.rs.erase r, boat := some r.boat, way := some r.way, left := 12 + 6 + (if rdy s.side r.way = true then 0 else 12) } rfl
    have f5 : Fr (FL K) [p.a, p.wa] H (upd H4 p.a (LkO K p.dx (LkS.f { s with rs := s.rs.erase r, boat := some r.boat, way := some r.way, left := 12 + 6 + (if rdy s.side r.way = true then 0 else 12) } p.wa))) := f4.trans (Fr.upd h4 rfl (by simp))
    have hq5 : upd H4 p.a (LkO K p.dx (LkS.f { s with rs := s.rs.erase r, boat := some r.boat, way := some r.way, left := 12 + 6 + (if rdy s.side r.way = true then 0 else 12) } p.wa)) q = some (.tup (rwV r)) := (upd_ne qa).trans hq4
    show sFldAug _ _ _ _ _ _ _ (upd H4 p.a (LkO K p.dx (LkS.f { s with rs := s.rs.erase r, boat := some r.boat, way := some r.way, left := 12 + 6 + (if rdy s.side r.way = true then 0 else 12) } p.wa)))
    generalize upd H4 p.a (LkO K p.dx (LkS.f { s with rs := s.rs.erase r, boat := some r.boat, way := some r.way, left := 12 + 6 + (if rdy s.side r.way = true then 0 else 12) } p.wa)) = H5 at *
    have h5 := L5.o
    refine ⟨_, rfl, _, _, _, _, _, rfl, h5, T.k_Lock, T.n_Lock_turns, lk_Lock_turns _, ?_⟩
    refine tif_int (b := rdy s.side r.way) (fun _ k => ⟨_, rfl, _, _, _, rfl, h5, nm_Lock_is_ready _, _, rfl, _, _, _, _, rfl, rfl, SqT.of hq5, rfl, _, _, rfl, _, _, _, _, rfl, rfl, h5, _, rfl, k⟩) (fun _ => c_p) (fun _ => c_p) _ ?_
    refine ⟨_, _, rfl, rfl, _, _, h5, (by walk_at "few"), ?_⟩
    rw [pt_Lock_turns]
    exact k hd _ (f5.trans (Fr.upd h5 rfl (by simp))) (L5.put (begS s r) rfl)
end
end K2
namespace K2
open PySem PySem.Spec PyProof.Rows L2 Cn LamX
local macro_rules | `(tactic| walk_at "few") => `(tactic| exact Nat.le_of_ble_eq_true rfl)
local macro_rules | `(tactic| walk_at "ne") => `(tactic| first | assumption | (apply Ne.symm; assumption) | exact ne_of_none (by assumption) (by assumption) | exact (ne_of_none (by assumption) (by assumption)).symm)
local macro_rules | `(tactic| walk_at "hf") => `(tactic| first | assumption | exact upd_same | (refine Eq.trans (upd_ne (by walk_at "ne")) ?_; walk_at "hf"))
local macro_rules | `(tactic| walk_at "bk") => `(tactic| first | (dsimp only [blk_K, blk_w, blk_prog]; done) | exact rfl | (dsimp only [blk_K, blk_w, blk_prog]; exact rfl))
local macro_rules | `(tactic| walk_at "ht") => `(tactic| exact SqT.of (by walk_at "hf"))
local macro_rules | `(tactic| walk_at "at") => `(tactic| first | exact atI_nat (by assumption) | rfl)
local macro_rules | `(tactic| walk_at "nz") => `(tactic| first | omega | exact ⟨by omega, by omega⟩)
local macro_rules | `(tactic| walk_at "ix") => `(tactic| first | assumption | rfl)
local macro_rules | `(tactic| walk_at "sq") => `(tactic| first | exact .inl (SqL.of (by walk_at "hf")) | exact .inr (SqT.of (by walk_at "hf")))
/-! ### who goes next -/
def turnS (side way : Str) : Int := if rdy side way = true then 0 else 1
def keyV (side : Str) (r : Rw) : List V := [.int r.t, .int (turnS side r.way), .str r.boat, .str r.way]
def dKey (side : Str) (r : Rw) : PyData := .tuple [.int r.t, .int (turnS side r.way), .str r.boat, .str r.way]
def minL : List PyData → PyData
  | [] => .none
  | d :: ds => PySem.W.minD d ds
def IsNext (side : Str) (rs : List Rw) (r0 : Rw) : Prop := r0 ∈ rs ∧ dKey side r0 = minL (rs.map (dKey side))
theorem dKey_can {side : Str} {r : Rw} (h : okR r = true) : (dKey side r).canLay0 = true := by
  unfold okR at h
  rw [Bool.and_eq_true] at h
  simp [dKey, PyData.canLay0, PyData.canLayAll0, h.1, h.2]
theorem dKey_depth (side : Str) (r : Rw) : (dKey side r).depth ≤ 1 := by simp [dKey, PyData.depth, PyData.depthAll]
theorem dKey_dp {K : PySem.W.Frag} {H : Hp} {q : Addr} {side : Str} {r : Rw} (h : H q = some (.tup (keyV side r))) : Dp K H (.ref q) (dKey side r) := .tup (SqT.of h) (.cons (.int _) (.cons (.int _) (.cons (.str _) (.cons (.str _) .nil))))
theorem dKey_alike (side : Str) (a b : Rw) : PySem.W.alike (dKey side a) (dKey side b) = true := by simp [dKey, PySem.W.alike, PySem.W.alikeAll]
theorem dKey_inj {side : Str} {a b : Rw} (h : dKey side a = dKey side b) : a = b := by
  obtain ⟨t, w, n⟩ := a
  obtain ⟨t', w', n'⟩ := b
  unfold dKey at h
  injection h with h
  injection h with h1 h
  injection h with h2 h
  injection h with h3 h
  injection h with h4 h
  injection h1 with h1
  injection h3 with h3
  injection h4 with h4
  subst h1 h3 h4
  rfl
theorem dp_objs {K : PySem.W.Frag} {H : Hp} {α : Type} {f : α → PyData} {as : List Addr} {rs : List α} (hl : as.length = rs.length) (h : ∀ (i : Nat) (a : Addr) (r : α), as[i]? = some a → rs[i]? = some r → Dp K H (.ref a) (f r)) : DpAll K H (as.map V.ref) (rs.map f) := by
  induction as generalizing rs with
  | nil =>
    cases rs with
    | nil => exact .nil
    | cons r t => cases hl
  | cons a as ih =>
    cases rs with
    | nil => cases hl
    | cons r t => exact .cons (h 0 a r rfl rfl) (ih (Nat.succ.inj hl) fun i a' r' h1 h2 => h (i + 1) a' r' h1 h2)
def spNext (K : PySem.W.Frag) : Sp := Sp1 fun x H Q _ => ∃ p s, x = .ref p.a ∧ LockAt K H p s ∧ s.rs.length ≤ 1000 ∧ (s.rs = [] → ∀ H', Fr (FL K) [] H H' → Q .non H') ∧
  (∀ r0 H' q, IsNext s.side s.rs r0 → Fr (FL K) [] H H' → H' q = some (.tup (rwV r0)) → Nw H q → Q (.ref q) H')
section
variable {P : Program} {w : World} {K : PySem.W.Frag} {mg : Str → Option Value} {base : Heap}
theorem ok_Lock_next_row (T : Txt K mg base) : Pr P w K mg base 2 (He.fAd K ("Lock", some "next_row")) ["self"] (spNext K) := by
  refine mk_pr T.d_Lock_next_row rfl sc_Lock_next_row (fun _ _ _ _ _ _ us hl => match us, hl with | [_], _ => rfl) len1 (fun cdv A outer s H vs Q E hr h => ?_)
  have nd := sc_Lock_next_row.nd
  obtain ⟨x, rfl, p, s, rfl, L, hz, k0, k1⟩ := h
  refine ⟨_, (pss_cons (ps_setLc (i := 1) (own := [("time", 2), ("way", 3), ("boat", 4)]) (by rfl) nd rfl rfl (sw_true rfl rfl rfl (by decide +kernel)) (pi_list (pe_fld (pv 0) rfl)) (blkOk_by (own := [("time", 2), ("way", 3), ("boat", 4)]) (N := ["self", "rows", "time", "way", "boat", "turn"]) (sc := defScope s_Lock_next_row) (by decide +kernel)) (fun _ _ _ _ _ => PG.at_ (pg_tup (n := 3) rfl (pgs_cons (pg_name (i := 2) nd rfl (.inl rfl)) (pgs_cons (pg_name (i := 3) nd rfl (.inl rfl)) (pgs_cons (pg_name (i := 4) nd rfl (.inl rfl)) pgs_nil)))) (by walk_at "bk")) (fun _ _ _ _ _ => PTs.at_ (pts_nil) (by walk_at "bk")) (fun _ _ _ _ _ => PE.at_ (pe_tup (pa_cons (pv 2) (pa_cons (pe_ifExp (pt_val (pe_mt (pv 0) T.k_Lock T.me_Lock_is_ready (ok_Lock_is_ready T) hr (by decide) passL (pa_cons (pv 3) pa_nil))) pe_int pe_int) (pa_cons (pv 4) (pa_cons (pv 3) pa_nil))))) (by walk_at "bk")))
      (pss_cons (ps_if (pt_cmpR (op_eqD hr.units) (pv 1) (pe_lst pa_nil) (nomark _))
        (pss_one (ps_ret pe_non))
        pss_nil)
      (pss_cons (ps_asg (pe_callB (cr_minD rfl hr.units) (by rfl) T.f_min (by decide +kernel) (pa_cons (pv 1) pa_nil)) (pg_tup (n := 4) rfl (pgs_cons (pg_name (i := 2) nd rfl (.inl rfl)) (pgs_cons (pg_name (i := 5) nd rfl (.inl rfl)) (pgs_cons (pg_name (i := 4) nd rfl (.inl rfl)) (pgs_cons (pg_name (i := 3) nd rfl (.inl rfl)) pgs_nil))))))
      (pss_one (ps_ret (pe_tup (pa_cons (pv 2) (pa_cons (pv 3) (pa_cons (pv 4) pa_nil))))))))), ?_⟩
  have h1 := L.o
  obtain ⟨pl, e1, hl, hr⟩ := L.w
  have hpl : pl.length = s.rs.length := by rw [← e1, List.length_map]
  refine ⟨_, rfl, _, _, _, _, _, rfl, h1, T.k_Lock, T.n_Lock_waiting, lk_Lock_waiting _, _, rfl, ⟨_, SqL.of hl⟩, fun D nD => ?_⟩
  refine lcO walk_list (FL K) (fun i => .tup (((s.rs[i]?).map (keyV s.side)).getD [])) (fun _ _ z => by cases z) (by rw [List.length_map, hpl]; exact Nat.le_trans hz line1000) nD (fun H' f => SqL.of (f.l hl (by simp))) (fun i x H' R hx f hR => ?_) (fun H' as hD hlen hA hn hw f => ?_)
  · obtain ⟨q, hq, rfl⟩ := map_get hx
    have hq2 : s.rs[i]? = some q.2 := by rw [← e1, List.getElem?_map, hq] <;> rfl
    have ht := f.t (hr q (List.mem_of_getElem? hq)) (by simp)
    have h1' := f.i h1 (by simp)
    refine ⟨_, _, rfl, SqT.of ht, rfl, _, _, rfl, _, _, rfl, _, _, rfl, rfl, hR _ rfl ?_⟩
    rw [hq2]
    exact tup_o (vs := keyV s.side q.2) (cons_t (fun _ k => ⟨_, rfl, k⟩) (cons_t (tif_int (b := rdy s.side q.2.way) (fun _ k => ⟨_, rfl, _, _, _, rfl, h1', nm_Lock_is_ready _, _, rfl, _, _, rfl, _, _, _, _, rfl, rfl, h1', _, rfl, k⟩) (fun _ => c_p) (fun _ => c_p)) (cons_t (fun _ k => ⟨_, rfl, k⟩) (cons_t (fun _ k => ⟨_, rfl, k⟩) nil_t)))) (by walk_at "few")
  · refine gname_ap (nx_ap ?_)
    rw [List.length_map, hpl] at hlen
    have hA2 : ∀ (i : Nat) (a : Addr) (r : Rw), as[i]? = some a → s.rs[i]? = some r → H' a = some (.tup (keyV s.side r)) := fun i a r h1 h2 => by
      have := hA i a h1
      rw [h2] at this
      exact this
    have hdp : DpAll K H' (as.map V.ref) (s.rs.map (dKey s.side)) := dp_objs hlen fun i a r h1 h2 => dKey_dp (hA2 i a r h1 h2)
    have hsh : SeqAt.shaped (.list (s.rs.map (dKey s.side))) = true := shaped_list (fun a m => dKey_can (L.k a m)) fun a _ => by have := dKey_depth s.side a; omega
    refine ifs_x (T := FL K) (b := PyData.eqv (.list (s.rs.map (dKey s.side))) (.list [])) (test_x fun Q k => ⟨_, rfl, by walk_at "few", fun pN np => ⟨_, _, .lst (SqL.of ((upd_ne (ne_of_none hD np)).trans hD)) (dp_objs hlen fun i a r h1 h2 => dKey_dp ((upd_ne (ne_of_none (hA2 i a r h1 h2) np)).trans (hA2 i a r h1 h2))), .lst (SqL.of upd_same) .nil, hsh, by decide +kernel, k _ (.new np)⟩⟩) (fun hd H2 f2 => ?_) (fun hd H2 f2 => ?_)
    · cases hrs : s.rs with
      | nil => exact k0 hrs _ (f.trans f2)
      | cons r t =>
        rw [hrs] at hd
        simp [PyData.eqv, PyData.eqvAll] at hd
    · refine nx_ap ?_
      cases hrs : s.rs with
      | nil =>
        rw [hrs] at hd
        simp [PyData.eqv, PyData.eqvAll] at hd
      | cons r0 t =>
        have hD2 := f2.l hD (by simp)
        have hdp2 : DpAll K H2 (as.map V.ref) (s.rs.map (dKey s.side)) := dp_objs hlen fun i a r h1 h2 => dKey_dp (f2.t (hA2 i a r h1 h2) (by simp))
        rw [hrs, List.map_cons] at hdp2
        refine ⟨_, rfl, _, _, _, _, rfl, SqL.of hD2, hdp2, ⟨fun a ha b hb => ?_, fun a ha => ?_⟩, ?_, fun i v hv e => ?_⟩
        · rw [← List.map_cons (f := dKey s.side)] at ha hb
          obtain ⟨a', _, rfl⟩ := List.mem_map.mp ha
          obtain ⟨b', _, rfl⟩ := List.mem_map.mp hb
          exact dKey_alike _ _ _
        · rw [← List.map_cons (f := dKey s.side)] at ha
          obtain ⟨a', _, rfl⟩ := List.mem_map.mp ha
          intro z
          cases z
        · rw [← List.map_cons (f := dKey s.side)]
          exact Nat.le_trans (depthAll_map (n := 1) fun a _ => dKey_depth s.side a) (by decide)
        · obtain ⟨c, hc, rfl⟩ := map_get hv
          have hi : i < s.rs.length := by
            rw [← hlen]
            exact (List.getElem?_eq_some_iff.mp hc).1
          have hri : s.rs[i]? = some s.rs[i] := List.getElem?_eq_getElem hi
          have hc2 := f2.t (hA2 i c _ hc hri) (by simp)
          have hn : IsNext s.side s.rs s.rs[i] := by
            refine ⟨List.getElem_mem hi, ?_⟩
            have e2 : ((r0 :: t).map (dKey s.side)).getD i .none = minL ((r0 :: t).map (dKey s.side)) := e
            rw [← hrs, List.getD_eq_getElem?_getD, List.getElem?_map, hri] at e2
            exact e2
          generalize s.rs[i] = rr at *
          refine ⟨_, _, rfl, SqT.of hc2, rfl, _, _, rfl, _, _, rfl, _, _, rfl, _, _, rfl, rfl, nx_ap ?_⟩
          refine ⟨_, rfl, _, rfl, _, rfl, by walk_at "few", fun pN np => ?_⟩
          exact k1 rr _ pN hn ((f.trans f2).trans (.new np)) upd_same (Nw.of (f.trans f2) np (by simp))
end
end K2
namespace K2
open PySem PySem.Spec PyProof.Rows L2 Cn LamX
local macro_rules | `(tactic| walk_at "few") => `(tactic| exact Nat.le_of_ble_eq_true rfl)
local macro_rules | `(tactic| walk_at "ne") => `(tactic| first | assumption | (apply Ne.symm; assumption) | exact ne_of_none (by assumption) (by assumption) | exact (ne_of_none (by assumption) (by assumption)).symm)
local macro_rules | `(tactic| walk_at "hf") => `(tactic| first | assumption | exact upd_same | (refine Eq.trans (upd_ne (by walk_at "ne")) ?_; walk_at "hf"))
local macro_rules | `(tactic| walk_at "bk") => `(tactic| first | (dsimp only [blk_K, blk_w, blk_prog]; done) | exact rfl | (dsimp only [blk_K, blk_w, blk_prog]; exact rfl))
local macro_rules | `(tactic| walk_at "ht") => `(tactic| exact SqT.of (by walk_at "hf"))
local macro_rules | `(tactic| walk_at "at") => `(tactic| first | exact atI_nat (by assumption) | rfl)
local macro_rules | `(tactic| walk_at "nz") => `(tactic| first | omega | exact ⟨by omega, by omega⟩)
local macro_rules | `(tactic| walk_at "ix") => `(tactic| first | assumption | rfl)
local macro_rules | `(tactic| walk_at "sq") => `(tactic| first | exact .inl (SqL.of (by walk_at "hf")) | exact .inr (SqT.of (by walk_at "hf")))
/-! ### water for ways -/
def runL (fill : Int) (side : Str) (r : Rw) (l turns : Int) : LkS := ⟨fill, side, [], some r.boat, some r.way, l, turns⟩
structure WS where
  side : Str
  taken : Int
  turns : Int
def wst (fill : Int) (s : WS) (way : Str) : WS := ⟨if decide (V.str way = V.str "up") = true then "up" else "down", s.taken + needS fill s.side way, s.turns + (if rdy s.side way = true then 1 else 2)⟩
def wrun (fill : Int) (s : WS) (ws : List Str) : WS := ws.foldl (wst fill) s
def wN (fill : Int) (side : Str) (ws : List Str) (i : Nat) : WS := wrun fill ⟨side, 0, 0⟩ (ws.take i)
theorem wN_succ {fill : Int} {side : Str} {ws : List Str} {i : Nat} {w : Str} (h : ws[i]? = some w) : wN fill side ws (i + 1) = wst fill (wN fill side ws i) w := by
  unfold wN wrun
  rw [List.take_add_one, h, List.foldl_append] <;> rfl
def stW (fill : Int) (s : WS) : LkS := ⟨fill, s.side, [], none, none, 0, s.turns⟩
def badW (ws : List Str) (fill : Int) (side : Str) : Bool := badL fill side || ws.any fun w => !isSide w
def spWater (K : PySem.W.Frag) : Sp := Sp3 fun x y z H Q E => ∃ a ws fill side, x = .ref a ∧ y = .int fill ∧ z = .str side ∧ (H a = some (.lst (ws.map V.str)) ∨ H a = some (.tup (ws.map V.str))) ∧ Tabs (FL K) H ∧ ws.length ≤ 1000 ∧ (∀ w ∈ ws, PyData.strOk w = true) ∧
  (badW ws fill side = true → ∀ H', Fr (FL K) [] H H' → E (LErr K) none H') ∧
  (badW ws fill side = false → ∀ H' q, Fr (FL K) [] H H' → H' q = some (.tup [.int (wrun fill ⟨side, 0, 0⟩ ws).taken, .int (wrun fill ⟨side, 0, 0⟩ ws).turns]) → Nw H q → Q (.ref q) H')
def leftN (H : Hp) (a : Addr) : Nat := match H a with
  | some (.ins _ _ fs) => match fs.lookup ("left" : Str) with
    | some (.int l) => l.toNat
    | _ => 0
  | _ => 0
theorem leftN_of {K : PySem.W.Frag} {H : Hp} {p : LkP} {s : LkS} (L : LockAt K H p s) : leftN H p.a = s.left.toNat := by
  unfold leftN
  rw [L.o]
  show (match (lockF (s.f p.wa)).lookup ("left" : Str) with | some (.int l) => l.toNat | _ => 0) = _
  rw [lk_Lock_left]
section
variable {P : Program} {w : World} {K : PySem.W.Frag} {mg : Str → Option Value} {base : Heap}
theorem ok_water_for (T : Txt K mg base) : Pr P w K mg base 4 (He.fAd K ("water_for", none)) ["ways", "fill", "side"] (spWater K) := by
  refine mk_pr T.d_water_for rfl sc_water_for (fun _ _ _ _ _ _ us hl => match us, hl with | [_, _, _], _ => rfl) len3 (fun cdv A outer s H vs Q E hr h => ?_)
  have nd := sc_water_for.nd
  obtain ⟨x, y, z, rfl, a, ws, fill, side, rfl, rfl, rfl, ha, ht, hlen, hok, e, k⟩ := h
  refine ⟨_, (pss_cons (ps_par (i := 3) (j := 4) rfl nd rfl rfl (by decide) rfl rfl (pa_cons (pe_mk T.m_Lock (ok_Lock_init T) hr (by decide) lets T.g_Lock (pa_cons (pv 1) (pa_cons (pv 2) pa_nil))) (pa_cons pe_int pa_nil)) (by rfl))
      (pss_cons (ps_for owns rfl (pi_enE (by rfl) T.f_enumerate (pa_cons (pv 0) pa_nil)) (pg_tup (n := 2) rfl (pgs_cons (pg_name (i := 5) nd rfl (.inl rfl)) (pgs_cons (pg_name (i := 6) nd rfl (.inl rfl)) pgs_nil)))
        (pss_cons (ps_expr (pe_mt (pv 3) T.k_Lock T.me_Lock_join (ok_Lock_join T) hr (by decide) lets (pa_cons (pv 5) (pa_cons (pv 6) (pa_cons (pe_callTy call_str_int (by rfl) T.f_str (by decide +kernel) (pa_cons (pv 5) pa_nil)) pa_nil)))))
        (pss_cons (ps_aug (i := 4) nd rfl (Or.inl rfl) (pe_mt (pv 3) T.k_Lock T.me_Lock_needs (ok_Lock_needs T) hr (by decide) lets (pa_cons (pv 6) pa_nil)) ip_add)
        (pss_cons (ps_expr (pe_mt (pv 3) T.k_Lock T.me_Lock_begin (ok_Lock_begin T) hr (by decide) lets (pa_cons (pe_mt0 (pv 3) T.k_Lock T.me_Lock_next_row (ok_Lock_next_row T) hr (by decide) lets) pa_nil)))
        (pss_cons (ps_set (i := 7) nd rfl (Or.inl rfl) pe_non)
        (pss_one (ps_while owns (pt_cmpR op_isN (pv 7) pe_non (nomark _))
          (pss_one (ps_set (i := 7) nd rfl (Or.inl rfl) (pe_mt0 (pv 3) T.k_Lock T.me_Lock_minute (ok_Lock_minute T) hr (by decide) lets))))))))))
      (pss_one (ps_ret (pe_tup (pa_cons (pv 4) (pa_cons (pe_fld (pv 3) rfl) pa_nil))))))), ?_⟩
  refine ⟨_, rfl, _, rfl, fun x dx nx ndx hne => ?_⟩
  have fm : ∀ o, Fr (FL K) [] H (upd (upd H dx (.own x)) x o) := fun o => Fr.make nx ndx hne
  refine ⟨_, _, _, rfl, x, dx, fill, side, rfl, rfl, rfl, upd_same, fun hb H' f => e (by unfold badW; rw [hb] <;> rfl) _ ((fm _).trans f), fun hb wa H1 f1 L1 nw => ⟨rfl, ?_⟩⟩
  have nwa : Nw H wa := by
    intro o ho
    by_cases z : ∃ ps, o = .tbl ps
    · exact z
    · exact nw o ((fm _).keep wa o ho (fun ps w => z ⟨ps, w⟩) (by simp))
  have f01 : Fr (FL K) [] H H1 := (fm _).transW f1 fun b hb => .inr (by rw [List.mem_singleton.mp hb]; exact Nw.none nx)
  have nxa : Nw H x := Nw.none nx
  refine ⟨_, _, rfl, nx_ap ?_⟩
  have ha1 : H1 a = some (.lst (ws.map V.str)) ∨ H1 a = some (.tup (ws.map V.str)) := ha.imp (fun h => f01.l h (by simp)) fun h => f01.t h (by simp)
  obtain ⟨J, G, wk, hG, hR⟩ := enE (K := K) ha1
  refine hR _ _ _ (cons_t (fun _ k => ⟨_, rfl, k⟩) nil_t) ?_
  generalize hp : (LkP.mk x dx wa) = p at *
  have hpa : p.a = x := by rw [← hp]
  have hpw : p.wa = wa := by rw [← hp]
  have hsame : ∀ H', Fr (FL K) [] H H' → H' a = H1 a := fun H' f => (f.same ha (by simp)).trans (f01.same ha (by simp)).symm
  have nf : ∀ b ∈ [p.a, p.wa], b ∈ ([] : List Addr) ∨ Nw H b := fun b hb => .inr (by
    rcases List.mem_cons.mp hb with z | hb
    · rw [z, hpa]
      exact nxa
    · rw [List.mem_singleton.mp hb, hpw]
      exact nwa)
  refine for_it wk (fun i σ H' => ∃ x5 x6 x7, σ = [some (.ref a), some (.int fill), some (.str side), some (.ref x), some (.int (wN fill side ws i).taken), x5, x6, x7] ∧ LockAt K H' p (stW fill (wN fill side ws i)) ∧ Fr (FL K) [] H H' ∧ (ws.take i).all isSide = true) ⟨none, none, none, rfl, L1, f01, rfl⟩ (fun i σ H' _ ⟨_, _, _, _, _, f, _⟩ => hG _ (hsame _ f)) ?_ ?_
  · rintro i y σ H2 H3 hi ⟨x5, x6, x7, rfl, M2, f2, hall⟩ ⟨T0, y0, z0, rfl, nT, rfl, e1, e2⟩
    cases e1
    obtain ⟨wy, hw, rfl⟩ := map_get e2
    have hil : i ≤ 1000 := by
      rw [List.length_map] at hi
      omega
    have f3 : Fr (FL K) [] H (upd H2 T0 (.tup [.int (i : Nat), .str wy])) := f2.trans (Fr.new nT)
    have M3 := M2.fr0 (Fr.new (T := FL K) (o := .tup [.int (i : Nat), .str wy]) nT)
    refine ⟨_, _, rfl, SqT.of upd_same, rfl, _, _, rfl, _, _, rfl, rfl, ?_⟩
    generalize upd H2 T0 (.tup [.int (i : Nat), .str wy]) = H3 at *
    have m3 := M3.o
    rw [hpa] at m3
    have hsr := wN_succ (fill := fill) (side := side) hw
    have htk : (ws.take (i + 1)).all isSide = (isSide wy) := by
      rw [List.take_add_one, hw, List.all_append, hall]
      simp
    generalize hS : wN fill side ws i = S at *
    refine ⟨_, rfl, _, _, _, rfl, m3, nm_Lock_join _, _, rfl, _, rfl, _, rfl, _, rfl, small_log hil, ?_⟩
    have hjs : isSide wy = true → badJ (stW fill S) wy (toString (i : Int)) = false := fun h => by
      unfold badJ
      rw [h]
      rfl
    refine ⟨_, _, _, _, rfl, p, stW fill S, (i : Nat), wy, _, by rw [hpa], rfl, rfl, rfl, ?_, M3, f3.tab ht, by show 0 < 1000; decide, fun hb H4 f4 => ?_, fun hb H4 f4 M4 => ?_⟩
    · unfold okR
      rw [hok wy (List.mem_of_getElem? hw), strOk_of] <;> rfl
    · refine e ?_ _ (f3.trans f4)
      unfold badW
      rw [Bool.or_eq_true]
      refine .inr (List.any_eq_true.mpr ⟨wy, List.mem_of_getElem? hw, ?_⟩)
      cases q : isSide wy with
      | false => rfl
      | true =>
        rw [hjs q] at hb
        cases hb
    · have hside : isSide wy = true := by
        cases q : isSide wy with
        | true => rfl
        | false =>
          unfold badJ at hb
          rw [q] at hb
          cases hb
      have f4' : Fr (FL K) [] H H4 := f3.transW f4 fun b hb => nf b (by rw [List.mem_singleton.mp hb]; simp)
      have m4 := M4.o
      rw [hpa] at m4
      refine nx_ap ?_
      have okr : okR ⟨(i : Nat), wy, toString (i : Int)⟩ = true := by
        unfold okR
        rw [hok wy (List.mem_of_getElem? hw), strOk_of] <;> rfl
      have M4 : LockAt K H4 p ⟨fill, S.side, [⟨(i : Nat), wy, toString (i : Int)⟩], none, none, 0, S.turns⟩ := M4
      have hrw : (Rw.mk (i : Nat) wy (toString (i : Int))).way = wy := rfl
      generalize (Rw.mk (i : Nat) wy (toString (i : Int))) = r at *
      have m4 := M4.o
      rw [hpa] at m4
      refine ⟨_, rfl, _, rfl, _, _, _, rfl, m4, nm_Lock_needs _, _, rfl, _, _, rfl, _, _, _, _, rfl, rfl, m4, _, _, rfl, rfl, nx_ap ?_⟩
      refine ⟨_, rfl, _, _, _, rfl, m4, nm_Lock_begin _, _, rfl, _, _, _, rfl, m4, nm_Lock_next_row _, _, rfl, p, _, by rw [hpa], M4, by show 1 ≤ 1000; decide, (fun z => by cases z), fun r0 H5 q hn f5 hq nq => ?_⟩
      obtain rfl : r0 = r := List.mem_singleton.mp hn.1
      have M5 := M4.fr0 f5
      refine ⟨_, _, rfl, p, _, q, _, by rw [hpa], rfl, M5, hq, okr, fun hb => ?_, fun hb H6 f6 M6 => ?_⟩
      · unfold badB at hb
        simp [oV] at hb
      · have f6' : Fr (FL K) [] H H6 := (f4'.trans f5).transW f6 nf
        have M6 : LockAt K H6 p (runL fill S.side r0 (12 + 6 + (if rdy S.side r0.way = true then 0 else 12)) (S.turns + (if rdy S.side r0.way = true then 1 else 2))) := by
          have e : begS ⟨fill, S.side, [r0], none, none, 0, S.turns⟩ r0 = runL fill S.side r0 (12 + 6 + (if rdy S.side r0.way = true then 0 else 12)) (S.turns + (if rdy S.side r0.way = true then 1 else 2)) := by
            unfold begS runL
            simp
          exact e ▸ M6
        refine nx_ap (gname_ap (nx_ap ?_))
        refine while_by (fun σ' H' => ∃ x7 s, σ' = [some (.ref a), some (.int fill), some (.str side), some (.ref x), some (.int (S.taken + needS fill S.side wy)), some (.int (i : Nat)), some (.str wy), some x7] ∧ LockAt K H' p s ∧ Fr (FL K) [] H H' ∧ ((x7 = .non ∧ ∃ l : Int, 1 ≤ l ∧ s = runL fill S.side r0 l (S.turns + (if rdy S.side r0.way = true then 1 else 2))) ∨ (∃ q, x7 = .ref q) ∧ s = stW fill (wst fill S wy))) (fun _ H' => leftN H' x) ?_ ?_ ?_
        · refine ⟨_, _, rfl, M6, f6', .inl ⟨rfl, _, ?_, rfl⟩⟩
          split <;> omega
        · rintro σ H7 ⟨x7, s, rfl, M7, f7, hc⟩
          refine ⟨_, rfl, rfl, _, rfl, ?_⟩
          rcases hc with ⟨rfl, l, hl, rfl⟩ | ⟨⟨q7, rfl⟩, rfl⟩
          · refine ite_tt ?_
            have m7 := M7.o
            rw [hpa] at m7
            have hlf := leftN_of M7
            rw [hpa] at hlf
            refine ⟨_, rfl, _, _, _, rfl, m7, nm_Lock_minute _, _, rfl, p, _, by rw [hpa], M7, (fun z => by cases z), fun _ hgt H8 f8 M8 => ?_, fun _ hgt H8 q8 f8 M8 hq8 nq8 => ?_⟩
            · have hgt : l - 1 > 0 := hgt
              have hlf8 := leftN_of M8
              rw [hpa] at hlf8
              refine gname_ap ⟨⟨_, _, rfl, M8, f7.transW f8 fun b hb => nf b (by rw [List.mem_singleton.mp hb]; simp), .inl ⟨rfl, l - 1, by omega, rfl⟩⟩, ?_⟩
              show leftN H8 x < leftN H7 x
              rw [hlf, hlf8]
              show (l - 1).toNat < l.toNat
              omega
            · have hgt : ¬ l - 1 > 0 := hgt
              have hl1 : l = 1 := by omega
              subst hl1
              have hlf8 := leftN_of M8
              rw [hpa] at hlf8
              refine gname_ap ⟨⟨_, _, rfl, M8, f7.transW f8 fun b hb => nf b (by rw [List.mem_singleton.mp hb]; simp), .inr ⟨⟨_, rfl⟩, ?_⟩⟩, ?_⟩
              · unfold dneS runL stW wst
                rw [hrw]
                rfl
              · show leftN H8 x < leftN H7 x
                rw [hlf, hlf8]
                show ((1 : Int) - 1).toNat < (1 : Int).toNat
                decide
          · refine ite_ff ?_
            show ∃ _, _
            rw [hsr, htk]
            exact ⟨_, _, _, rfl, M7, f7, hside⟩
        · rintro σ H7 R R' hm ⟨v, e7, z, k7, ez, q7⟩
          exact ⟨v, e7, z, k7, ez, hm _ _ q7⟩
  · rintro σ H2 ⟨x5, x6, x7, rfl, M2, f2, hall⟩
    rw [List.length_map] at M2 hall ⊢
    have m2 := M2.o
    rw [hpa] at m2
    refine nx_ap ?_
    refine ⟨_, rfl, _, rfl, _, _, _, _, _, rfl, m2, T.k_Lock, T.n_Lock_turns, lk_Lock_turns _, by walk_at "few", fun pN np => ?_⟩
    have htk : wN fill side ws ws.length = wrun fill ⟨side, 0, 0⟩ ws := by
      unfold wN
      rw [List.take_length]
    rw [List.take_length] at hall
    refine k ?_ _ pN (f2.trans (Fr.new np)) ?_ (Nw.of f2 np (by simp))
    · unfold badW
      rw [hb, Bool.false_or, List.any_eq_false]
      intro w hw h
      rw [List.all_eq_true.mp hall w hw] at h
      cases h
    · rw [← htk]
      exact upd_same
end
end K2
namespace K2
open PySem PySem.Spec PyProof.Rows L2 Cn LamX
local macro_rules | `(tactic| walk_at "few") => `(tactic| exact Nat.le_of_ble_eq_true rfl)
local macro_rules | `(tactic| walk_at "ne") => `(tactic| first | assumption | (apply Ne.symm; assumption) | exact ne_of_none (by assumption) (by assumption) | exact (ne_of_none (by assumption) (by assumption)).symm)
local macro_rules | `(tactic| walk_at "hf") => `(tactic| first | assumption | exact upd_same | (refine Eq.trans (upd_ne (by walk_at "ne")) ?_; walk_at "hf"))
local macro_rules | `(tactic| walk_at "bk") => `(tactic| first | (dsimp only [blk_K, blk_w, blk_prog]; done) | exact rfl | (dsimp only [blk_K, blk_w, blk_prog]; exact rfl))
local macro_rules | `(tactic| walk_at "ht") => `(tactic| exact SqT.of (by walk_at "hf"))
local macro_rules | `(tactic| walk_at "at") => `(tactic| first | exact atI_nat (by assumption) | rfl)
local macro_rules | `(tactic| walk_at "nz") => `(tactic| first | omega | exact ⟨by omega, by omega⟩)
local macro_rules | `(tactic| walk_at "ix") => `(tactic| first | assumption | rfl)
local macro_rules | `(tactic| walk_at "sq") => `(tactic| first | exact .inl (SqL.of (by walk_at "hf")) | exact .inr (SqT.of (by walk_at "hf")))
/-! ### the best of all orders -/
def allW : Nat → Nat → List (List Str)
  | 0, 0 => [[]]
  | 0, d + 1 => (allW 0 d).map (("down" : Str) :: ·)
  | u + 1, 0 => (allW u 0).map (("up" : Str) :: ·)
  | u + 1, d + 1 => (allW (u + 1) d).map (("down" : Str) :: ·) ++ (allW u (d + 1)).map (("up" : Str) :: ·)
termination_by u d => u + d
structure SE where
  ws : List Str
  u : Nat
  d : Nat
def seW (e : SE) : List (List Str) := (allW e.u e.d).map (e.ws ++ ·)
def stW3 (st : List SE) : List (List Str) := st.reverse.flatMap seW
def wt (st : List SE) : Nat := (st.map fun e => 3 ^ (e.u + e.d)).sum
def nxtE (e : SE) : List SE := (if e.u = 0 then [] else [⟨e.ws ++ [("up" : Str)], e.u - 1, e.d⟩]) ++ (if e.d = 0 then [] else [⟨e.ws ++ [("down" : Str)], e.u, e.d - 1⟩])
theorem seW_step (e : SE) (h : ¬ (e.u = 0 ∧ e.d = 0)) : seW e = stW3 (nxtE e) := by
  obtain ⟨ws, u, d⟩ := e
  unfold seW stW3 nxtE
  cases u with
  | zero =>
    cases d with
    | zero => exact absurd ⟨rfl, rfl⟩ h
    | succ d => simp [allW, seW, List.map_map, Function.comp_def]
  | succ u =>
    cases d with
    | zero => simp [allW, seW, List.map_map, Function.comp_def]
    | succ d => simp [allW, seW, List.map_map, Function.comp_def]
theorem seW_end (ws : List Str) : seW ⟨ws, 0, 0⟩ = [ws] := by simp [seW, allW]
theorem stW3_snoc (st : List SE) (e : SE) : stW3 (st ++ [e]) = seW e ++ stW3 st := by simp [stW3]
theorem stW3_app (st l : List SE) : stW3 (st ++ l) = stW3 l ++ stW3 st := by simp [stW3]
theorem wt_snoc (st : List SE) (e : SE) : wt (st ++ [e]) = wt st + 3 ^ (e.u + e.d) := by simp [wt]
theorem wt_app (st l : List SE) : wt (st ++ l) = wt st + wt l := by simp [wt]
theorem wt_nxt (e : SE) : wt (nxtE e) < 3 ^ (e.u + e.d) := by
  obtain ⟨ws, u, d⟩ := e
  unfold nxtE wt
  cases u with
  | zero =>
    cases d with
    | zero => simp
    | succ d =>
      simp
      rw [Nat.pow_succ]
      have : 0 < 3 ^ d := Nat.pow_pos (by decide)
      omega
  | succ u =>
    cases d with
    | zero =>
      simp
      rw [Nat.pow_succ]
      have : 0 < 3 ^ u := Nat.pow_pos (by decide)
      omega
    | succ d =>
      simp
      have e1 : u + (d + 1) = u + d + 1 := by omega
      have e2 : u + 1 + d = u + d + 1 := by omega
      have e3 : u + 1 + (d + 1) = u + d + 1 + 1 := by omega
      rw [e1, e2, e3, Nat.pow_succ 3 (u + d + 1)]
      have : 0 < 3 ^ (u + d + 1) := Nat.pow_pos (by decide)
      omega
theorem len_wt (st : List SE) : st.length ≤ wt st := by
  induction st with
  | nil => exact Nat.zero_le _
  | cons e t ih =>
    have : 0 < 3 ^ (e.u + e.d) := Nat.pow_pos (by decide)
    simp only [List.length_cons, wt, List.map_cons, List.sum_cons] at *
    omega
/-! the stack and the best, as they stand -/
def SeAt (H : Hp) (q : Addr × Addr) (e : SE) : Prop := H q.1 = some (.tup [.ref q.2, .int (e.u : Nat), .int (e.d : Nat)]) ∧ H q.2 = some (.tup (e.ws.map V.str))
def StkAt (H : Hp) (lf : Addr) (st : List SE) : Prop := ∃ pl : List ((Addr × Addr) × SE), pl.map (·.2) = st ∧ H lf = some (.lst (pl.map fun q => V.ref q.1.1)) ∧ ∀ q ∈ pl, SeAt H q.1 q.2
def okE (e : SE) : Prop := (∀ w ∈ e.ws, isSide w = true) ∧ e.ws.length + e.u + e.d ≤ 10
theorem sideOk {w : Str} (h : isSide w = true) : PyData.strOk w = true := by
  unfold isSide inV at h
  simp only [List.any_cons, List.any_nil, Bool.or_false, Bool.or_eq_true] at h
  rcases h with h | h
  · have : ("up" : Str) = w := by simpa [eqV] using h
    rw [← this]
    decide +kernel
  · have : ("down" : Str) = w := by simpa [eqV] using h
    rw [← this]
    decide +kernel
def dWs (ws : List Str) : PyData := .tuple (ws.map PyData.str)
def dSE (e : SE) : PyData := .tuple [dWs e.ws, .int (e.u : Nat), .int (e.d : Nat)]
def trn (side : Str) (ws : List Str) : Int := (wrun 1 ⟨side, 0, 0⟩ ws).turns
def dBW (side : Str) (ws : List Str) : PyData := .tuple [.int (trn side ws), dWs ws]
theorem dWs_dp {K : PySem.W.Frag} {H : Hp} {t : Addr} {ws : List Str} (h : H t = some (.tup (ws.map V.str))) : Dp K H (.ref t) (dWs ws) := .tup (SqT.of h) (dpAll_map fun w _ => .str w)
theorem dWs_can {ws : List Str} (h : ∀ w ∈ ws, isSide w = true) : (dWs ws).canLay0 = true := by
  show PyData.canLayAll0 (ws.map PyData.str) = true
  refine canAll_map fun w hw => ?_
  show PyData.strOk w = true
  exact sideOk (h w hw)
theorem dWs_depth (ws : List Str) : (dWs ws).depth ≤ 1 := by
  have := depthAll_map (f := PyData.str) (n := 0) (l := ws) fun w _ => by simp [PyData.depth]
  simp only [dWs, PyData.depth]
  omega
theorem dSE_can {e : SE} (h : okE e) : (dSE e).canLay0 = true := by
  have := dWs_can h.1
  simp [dSE, PyData.canLay0, PyData.canLayAll0, this]
theorem dSE_depth (e : SE) : (dSE e).depth ≤ 2 := by
  have := dWs_depth e.ws
  simp only [dSE, PyData.depth, PyData.depthAll]
  omega
theorem dBW_can {side : Str} {ws : List Str} (h : ∀ w ∈ ws, isSide w = true) : (dBW side ws).canLay0 = true := by
  have := dWs_can h
  simp [dBW, PyData.canLay0, PyData.canLayAll0, this]
theorem dBW_depth (side : Str) (ws : List Str) : (dBW side ws).depth ≤ 2 := by
  have := dWs_depth ws
  simp only [dBW, PyData.depth, PyData.depthAll]
  omega
theorem alike_strs : ∀ xs ys : List Str, PySem.W.alikeAll (xs.map PyData.str) (ys.map PyData.str) = true
  | [], _ => by rw [List.map_nil, PySem.W.alikeAll]
  | _ :: _, [] => by rw [List.map_nil, List.map_cons, PySem.W.alikeAll]
  | x :: xs, y :: ys => by
    rw [List.map_cons, List.map_cons, PySem.W.alikeAll, alike_strs xs ys]
    simp [PySem.W.alike]
theorem dBW_alike (side : Str) (a b : List Str) : PySem.W.alike (dBW side a) (dBW side b) = true := by
  simp [dBW, dWs, PySem.W.alike, PySem.W.alikeAll, alike_strs]
def BwAt (H : Hp) (side : Str) (q t : Addr) (ws : List Str) : Prop := H q = some (.tup [.int (trn side ws), .ref t]) ∧ H t = some (.tup (ws.map V.str))
theorem BwAt.dp {K : PySem.W.Frag} {H : Hp} {side : Str} {q t : Addr} {ws : List Str} (h : BwAt H side q t ws) : Dp K H (.ref q) (dBW side ws) := .tup (SqT.of h.1) (.cons (.int _) (.cons (dWs_dp h.2) .nil))
def BestI (H : Hp) (side : Str) (done : List (List Str)) (x : V) : Prop := (done = [] ∧ x = .non) ∨ ∃ q t ws, x = .ref q ∧ BwAt H side q t ws ∧ ws ∈ done ∧ dBW side ws = minL (done.map (dBW side))
section
variable {K : PySem.W.Frag} {H H' : Hp} {T : List (Addr × Str)} {S : List Addr} {lf : Addr} {st : List SE} {side : Str} {done : List (List Str)} {x : V}
theorem SeAt.fr {q : Addr × Addr} {e : SE} (h : SeAt H q e) (f : Fr T S H H') (ht : ∀ b ∈ S, ∀ xs, H b ≠ some (.tup xs)) : SeAt H' q e := ⟨f.t h.1 fun m => ht _ m _ h.1, f.t h.2 fun m => ht _ m _ h.2⟩
theorem StkAt.fr0 (h : StkAt H lf st) (f : Fr T [] H H') : StkAt H' lf st := by
  obtain ⟨pl, e, h1, h2⟩ := h
  exact ⟨pl, e, f.l h1 (by simp), fun q hq => (h2 q hq).fr f (by simp)⟩
theorem BestI.fr (h : BestI H side done x) (f : Fr T S H H') (ht : ∀ b ∈ S, ∀ xs, H b ≠ some (.tup xs)) : BestI H' side done x := by
  rcases h with h | ⟨q, t, ws, e, ⟨h1, h2⟩, h3⟩
  · exact .inl h
  · exact .inr ⟨q, t, ws, e, ⟨f.t h1 fun m => ht _ m _ h1, f.t h2 fun m => ht _ m _ h2⟩, h3⟩
theorem StkAt.lst (h : StkAt H lf st) : ∃ xs, H lf = some (.lst xs) ∧ xs.length = st.length := by
  obtain ⟨pl, e, h1, h2⟩ := h
  exact ⟨_, h1, by rw [List.length_map, ← e, List.length_map]⟩
theorem StkAt.nt (h : StkAt H lf st) : ∀ b ∈ [lf], ∀ xs, H b ≠ some (.tup xs) := fun b hb xs z => by
  obtain ⟨ys, h1, _⟩ := h.lst
  rw [List.mem_singleton.mp hb, h1] at z
  cases z
theorem StkAt.add (h : StkAt H lf st) {q : Addr × Addr} {e : SE} (he : SeAt H q e) : ∃ xs : List V, H lf = some (.lst xs) ∧ xs.length = st.length ∧ StkAt (upd H lf (.lst (xs ++ [V.ref q.1]))) lf (st ++ [e]) := by
  have nt := h.nt
  obtain ⟨pl, e1, h1, h2⟩ := h
  have f : Fr [] [lf] H (upd H lf (.lst ((pl.map fun q => V.ref q.1.1) ++ [V.ref q.1]))) := Fr.upd h1 rfl (by simp)
  refine ⟨_, h1, by rw [List.length_map, ← e1, List.length_map], pl ++ [(q, e)], by rw [List.map_append, e1] <;> rfl, by rw [List.map_append]; exact upd_same, fun c hc => ?_⟩
  rcases List.mem_append.mp hc with z | z
  · exact (h2 c z).fr f nt
  · rw [List.mem_singleton.mp z]
    exact he.fr f nt
theorem StkAt.pop {e : SE} (h : StkAt H lf (st ++ [e])) : ∃ (xs : List V) (q : Addr × Addr), H lf = some (.lst xs) ∧ xs[xs.length - 1]? = some (.ref q.1) ∧ SeAt H q e ∧ StkAt (upd H lf (.lst xs.dropLast)) lf st := by
  have nt := h.nt
  obtain ⟨pl, e1, h1, h2⟩ := h
  obtain ⟨pl', c, rfl⟩ : ∃ pl' c, pl = pl' ++ [c] := by
    rcases List.eq_nil_or_concat pl with z | ⟨a, b, z⟩
    · rw [z] at e1
      simp at e1
    · exact ⟨a, b, by simpa using z⟩
  rw [List.map_append] at e1
  obtain ⟨e2, e3⟩ := List.append_inj' e1 rfl
  have f : Fr [] [lf] H (upd H lf (.lst ((pl' ++ [c]).map fun q => V.ref q.1.1).dropLast)) := Fr.upd h1 rfl (by simp)
  refine ⟨_, c.1, h1, by simp, ?_, pl', e2, ?_, fun q hq => (h2 q (List.mem_append.mpr (.inl hq))).fr f nt⟩
  · have : c.2 = e := by simpa using e3
    rw [← this]
    exact h2 c (by simp)
  · rw [List.map_append]
    show upd H lf (.lst ((pl'.map fun q => V.ref q.1.1) ++ [V.ref c.1.1]).dropLast) lf = _
    rw [List.dropLast_concat]
    exact upd_same
theorem StkAt.dp (h : StkAt H lf st) : Dp K H (.ref lf) (.list (st.map dSE)) := by
  obtain ⟨pl, e, h1, h2⟩ := h
  rw [← e, List.map_map]
  exact .lst (SqL.of h1) (dpAll_map fun q hq => .tup (SqT.of (h2 q hq).1) (.cons (dWs_dp (h2 q hq).2) (.cons (.int _) (.cons (.int _) .nil))))
theorem minL_snoc (ds : List PyData) (d : PyData) (h : ds ≠ []) : minL (ds ++ [d]) = if PySem.W.dataLt d (minL ds) then d else minL ds := by
  cases ds with
  | nil => exact absurd rfl h
  | cons a t =>
    show PySem.W.minD a (t ++ [d]) = _
    unfold PySem.W.minD
    rw [List.foldl_append] <;> rfl
end
end K2
namespace K2
open PySem PySem.Spec PyProof.Rows L2 Cn LamX
local macro_rules | `(tactic| walk_at "few") => `(tactic| exact Nat.le_of_ble_eq_true rfl)
local macro_rules | `(tactic| walk_at "ne") => `(tactic| first | assumption | (apply Ne.symm; assumption) | exact ne_of_none (by assumption) (by assumption) | exact (ne_of_none (by assumption) (by assumption)).symm)
local macro_rules | `(tactic| walk_at "hf") => `(tactic| first | assumption | exact upd_same | (refine Eq.trans (upd_ne (by walk_at "ne")) ?_; walk_at "hf"))
local macro_rules | `(tactic| walk_at "bk") => `(tactic| first | (dsimp only [blk_K, blk_w, blk_prog]; done) | exact rfl | (dsimp only [blk_K, blk_w, blk_prog]; exact rfl))
local macro_rules | `(tactic| walk_at "ht") => `(tactic| exact SqT.of (by walk_at "hf"))
local macro_rules | `(tactic| walk_at "at") => `(tactic| first | exact atI_nat (by assumption) | rfl)
local macro_rules | `(tactic| walk_at "nz") => `(tactic| first | omega | exact ⟨by omega, by omega⟩)
local macro_rules | `(tactic| walk_at "ix") => `(tactic| first | assumption | rfl)
local macro_rules | `(tactic| walk_at "sq") => `(tactic| first | exact .inl (SqL.of (by walk_at "hf")) | exact .inr (SqT.of (by walk_at "hf")))
/-! ### best_ways -/
def BwInv (K : PySem.W.Frag) (H : Hp) (lf : Addr) (side : Str) (U D : Nat) (m : Nat) (σ : L2.St) (H' : Hp) : Prop := ∃ st x3 x5 x6 x7 x8 done, m = wt st ∧ σ = [some (.int (U : Nat)), some (.int (D : Nat)), some (.str side), some x3, some (.ref lf), x5, x6, x7, x8] ∧ StkAt H' lf st ∧ (∀ e ∈ st, okE e) ∧
  Fr (FL K) [] H H' ∧ BestI H' side done x3 ∧ done ++ stW3 st = allW U D ∧ wt st ≤ 3 ^ 10
def BwMid (K : PySem.W.Frag) (H : Hp) (lf : Addr) (side : Str) (U D : Nat) (q2 : Addr) (e : SE) (st0 st : List SE) (σ : L2.St) (H' : Hp) : Prop := ∃ x3 x8 done, σ = [some (.int (U : Nat)), some (.int (D : Nat)), some (.str side), some x3, some (.ref lf), some (.ref q2), some (.int (e.u : Nat)), some (.int (e.d : Nat)), x8] ∧ StkAt H' lf st ∧
  H' q2 = some (.tup (e.ws.map V.str)) ∧ Fr (FL K) [] H H' ∧ BestI H' side done x3 ∧ done ++ (stW3 (nxtE e) ++ stW3 st0) = allW U D
theorem ne_nilD (st : List SE) (e : SE) (f : SE → PyData) : (!PyData.eqv (.list ((st ++ [e]).map f)) (.list [])) = true := by
  cases st <;> simp [PyData.eqv, PyData.eqvAll]
theorem allW_ne : ∀ n u d : Nat, u + d = n → allW u d ≠ []
  | 0, 0, 0, _ => by simp [allW]
  | 0, 0, d + 1, h => by omega
  | 0, u + 1, d, h => by omega
  | n + 1, 0, 0, h => by simp at h
  | n + 1, 0, d + 1, h => by
    have := allW_ne n 0 d (by omega)
    simpa [allW] using this
  | n + 1, u + 1, 0, h => by
    have := allW_ne n u 0 (by omega)
    simpa [allW] using this
  | n + 1, u + 1, d + 1, h => by
    have := allW_ne n (u + 1) d (by omega)
    simp [allW, this]
def badBW (u d : Int) (side : Str) : Bool := decide ((if d < u then d else u) < 0) || (decide (u + d > 10) || !isSide side)
def spBest (K : PySem.W.Frag) : Sp := Sp3 fun x y z H Q E => ∃ u d side, x = .int u ∧ y = .int d ∧ z = .str side ∧ Tabs (FL K) H ∧ (badBW u d side = true → ∀ H', Fr (FL K) [] H H' → E (LErr K) none H') ∧
  (badBW u d side = false → ∀ H' q t ws, Fr (FL K) [] H H' → BwAt H' side q t ws → ws ∈ allW u.toNat d.toNat → dBW side ws = minL ((allW u.toNat d.toNat).map (dBW side)) → Q (.ref q) H')
section
variable {P : Program} {w : World} {K : PySem.W.Frag} {mg : Str → Option Value} {base : Heap}
theorem ok_best_ways (T : Txt K mg base) : Pr P w K mg base 5 (He.fAd K ("best_ways", none)) ["many_up", "many_down", "side"] (spBest K) := by
  refine mk_pr T.d_best_ways rfl sc_best_ways (fun _ _ _ _ _ _ us hl => match us, hl with | [_, _, _], _ => rfl) len3 (fun cdv A outer s H vs Q E hr h => ?_)
  have nd := sc_best_ways.nd
  obtain ⟨x, y, z, rfl, u, d, side, rfl, rfl, rfl, ht, e, k⟩ := h
  refine ⟨_, (pss_cons (ps_if (PW.pt (pw_or (pt_cmpR op_lt (pe_callB (call_min2 rfl) (by rfl) T.f_min (by decide +kernel) (pa_cons (pv 0) (pa_cons (pv 1) pa_nil))) pe_int (nomark _)) (pw_or (pt_cmpR op_gt (pe_op op_add (pv 0) (pv 1)) pe_int (nomark _)) (pw_or1 (pt_cmpR op_notIn_seq (pv 2) (pe_tup (pa_cons pe_str (pa_cons pe_str pa_nil))) (by rfl))))))
        (pss_one (ps_err takes T.e_LockError T.g_LockError))
        pss_nil)
      (pss_cons (ps_par (i := 3) (j := 4) rfl nd rfl rfl (by decide) rfl rfl (pa_cons pe_non (pa_cons (pe_lst (pa_cons (pe_tup (pa_cons (pe_tup pa_nil) (pa_cons (pv 0) (pa_cons (pv 1) pa_nil)))) pa_nil)) pa_nil)) (by rfl))
      (pss_cons (ps_while owns (pt_cmpR (op_neD hr.units) (pv 4) (pe_lst pa_nil) (nomark _))
        (pss_cons (ps_asg (pe_bm0 PySem.F.plainAttrs_list PySem.F.slot_list_pop PySem.F.type_list_pop mt_pop (pv 4)) (pg_tup (n := 3) rfl (pgs_cons (pg_name (i := 5) nd rfl (.inl rfl)) (pgs_cons (pg_name (i := 6) nd rfl (.inl rfl)) (pgs_cons (pg_name (i := 7) nd rfl (.inl rfl)) pgs_nil)))))
        (pss_cons (ps_if (PW.pt (pw_and (pt_cmpR op_eq (pv 6) pe_int (nomark _)) (pw_and1 (pt_cmpR op_eq (pv 7) pe_int (nomark _)))))
          (pss_cons (ps_set (i := 8) nd rfl (Or.inl rfl) (pe_tup (pa_cons (pe_ix ix_tup (pe_fn (ok_water_for T) hr (by decide) lets T.g_water_for (pa_cons (pv 5) (pa_cons pe_int (pa_cons (pv 2) pa_nil)))) pe_int (fun _ _ => rfl)) (pa_cons (pv 5) pa_nil))))
          (pss_one (ps_set (i := 3) nd rfl (Or.inl rfl) (pe_ifExp (PW.pt (pw_or (pt_cmpR op_isN (pv 3) pe_non (nomark _)) (pw_or1 (pt_cmpR (op_ltD hr.units) (pv 8) (pv 3) (nomark _))))) (pv 8) (pv 3)))))
          pss_nil)
        (pss_cons (ps_if (pt_cmpR op_gt (pv 6) pe_int (nomark _))
          (pss_one (ps_expr (pe_bm PySem.F.plainAttrs_list PySem.F.slot_list_append PySem.F.type_list_append mt_append (pv 4) (pa_cons (pe_tup (pa_cons (pe_op op_catA (pv 5) (pe_tup (pa_cons pe_str pa_nil))) (pa_cons (pe_op op_sub (pv 6) pe_int) (pa_cons (pv 7) pa_nil)))) pa_nil))))
          pss_nil)
        (pss_one (ps_if (pt_cmpR op_gt (pv 7) pe_int (nomark _))
          (pss_one (ps_expr (pe_bm PySem.F.plainAttrs_list PySem.F.slot_list_append PySem.F.type_list_append mt_append (pv 4) (pa_cons (pe_tup (pa_cons (pe_op op_catA (pv 5) (pe_tup (pa_cons pe_str pa_nil))) (pa_cons (pv 6) (pa_cons (pe_op op_sub (pv 7) pe_int) pa_nil)))) pa_nil))))
          pss_nil))))))
      (pss_one (ps_ret (pv 3)))))), ?_⟩
  refine ifs_x (T := FL K) (b := badBW u d side) ?_ (fun hd H1 f1 => e hd H1 f1) (fun hd H1 f1 => ?_)
  · refine or_x (BP.up (test_p (b := decide ((if d < u then d else u) < 0)) fun _ k => ?_)) fun _ H1 f1 => or_x (BP.up (test_p (b := decide (u + d > 10)) fun _ k => ?_)) fun _ H2 f2 => test_x (in_x (neg := true) (x := .str side) (fun _ k => ⟨_, rfl, k⟩) (cons_t c_p (cons_t c_p nil_t)) (by decide) rfl rfl)
    · exact ⟨_, rfl, _, rfl, _, _, rfl, _, _, rfl, rfl, k⟩
    · exact ⟨_, rfl, _, rfl, _, _, rfl, rfl, _, _, rfl, rfl, k⟩
  · have hu : 0 ≤ u ∧ 0 ≤ d ∧ u + d ≤ 10 ∧ isSide side = true := by
      unfold badBW at hd
      simp only [Bool.or_eq_false_iff, decide_eq_false_iff_not, Bool.not_eq_false'] at hd
      obtain ⟨h1, h2, h3⟩ := hd
      split at h1 <;> exact ⟨by omega, by omega, by omega, h3⟩
    obtain ⟨hu0, hd0, hud, hs⟩ := hu
    refine nx_ap ?_
    obtain ⟨U, rfl⟩ := Int.eq_ofNat_of_zero_le hu0
    obtain ⟨D, rfl⟩ := Int.eq_ofNat_of_zero_le hd0
    have k := k hd
    have hUD : U + D ≤ 10 := by omega
    have line59 : 3 ^ 10 < sizeLine := by decide +kernel
    refine ⟨by walk_at "few", fun p0 np0 => ⟨_, rfl, _, rfl, by walk_at "few", fun p1 np1 => ⟨by walk_at "few", fun lf nlf => ⟨_, _, rfl, nx_ap ?_⟩⟩⟩⟩
    have f2 : Fr (FL K) [] H (upd (upd (upd H1 p0 (.tup [])) p1 (.tup [.ref p0, .int (U : Nat), .int (D : Nat)])) lf (.lst [.ref p1])) := f1.trans ((Fr.new np0).trans ((Fr.new np1).trans (Fr.new nlf)))
    have hst : StkAt (upd (upd (upd H1 p0 (.tup [])) p1 (.tup [.ref p0, .int (U : Nat), .int (D : Nat)])) lf (.lst [.ref p1])) lf [⟨[], U, D⟩] := by
      refine ⟨[((p1, p0), ⟨[], U, D⟩)], rfl, upd_same, fun q hq => ?_⟩
      rw [List.mem_singleton.mp hq]
      refine ⟨(upd_ne (ne_of_none upd_same nlf)).trans upd_same, ?_⟩
      have h0 : upd (upd H1 p0 (.tup [])) p1 (.tup [.ref p0, .int (U : Nat), .int (D : Nat)]) p0 = some (.tup []) := (upd_ne (ne_of_none upd_same np1)).trans upd_same
      exact (upd_ne (ne_of_none h0 nlf)).trans h0
    have nwl : Nw H lf := Nw.of (f1.trans ((Fr.new np0).trans (Fr.new np1))) nlf (by simp)
    have nf : ∀ b ∈ [lf], b ∈ ([] : List Addr) ∨ Nw H b := fun b hb => .inr (by rw [List.mem_singleton.mp hb]; exact nwl)
    have w0 : wt [⟨[], U, D⟩] ≤ 3 ^ 10 := by
      simp only [wt, List.map_cons, List.map_nil, List.sum_cons, List.sum_nil, Nat.add_zero]
      exact Nat.pow_le_pow_right (by decide) hUD
    refine ⟨BwInv K H lf side U D, ⟨_, _, _, _, _, _, _, [], rfl, rfl, hst, fun e he => ?_, f2, .inl ⟨rfl, rfl⟩, ?_, w0⟩, ?_⟩
    · rw [List.mem_singleton.mp he]
      exact ⟨fun w hw => (by simp at hw), by show 0 + U + D ≤ 10; omega⟩
    · simp [stW3, seW]
    clear f2 hst w0 nlf np0 np1
    rintro m σ H2 ⟨st, x3, x5, x6, x7, x8, done, rfl, rfl, hst, hok, f, hb, hall, hw⟩
    refine ⟨_, rfl, by walk_at "few", fun pN np => ⟨_, _, (hst.fr0 (Fr.new (T := []) np)).dp, .lst (SqL.of upd_same) .nil, shaped_list (fun e he => dSE_can (hok e he)) (fun e _ => by have := dSE_depth e; omega), by decide +kernel, _, rfl, ?_⟩⟩
    rcases List.eq_nil_or_concat st with rfl | ⟨st', e, rfl⟩
    · refine ite_ff ?_
      rw [show stW3 [] = [] from rfl, List.append_nil] at hall
      rcases hb with ⟨hb, _⟩ | ⟨q, t, ws, rfl, hbw, hm, hdb⟩
      · rw [hb] at hall
        exact absurd hall.symm (allW_ne _ U D rfl)
      · rw [hall] at hm hdb
        have hbw' : BwAt (upd H2 pN (.lst [])) side q t ws := ⟨(upd_ne (ne_of_none hbw.1 np)).trans hbw.1, (upd_ne (ne_of_none hbw.2 np)).trans hbw.2⟩
        exact ⟨_, rfl, k _ q t ws (f.trans (.new np)) hbw' hm hdb⟩
    · have f3 : Fr (FL K) [] H (upd H2 pN (.lst [])) := f.trans (.new np)
      have hst3 := hst.fr0 (Fr.new (T := []) (o := .lst []) np)
      have hb3 := hb.fr (Fr.new (T := []) (S := []) (o := .lst []) np) (by simp)
      rw [List.concat_eq_append] at *
      refine ite_yes (ne_nilD _ _ _) ⟨fun σ' H' => ∃ m', m' < wt (st' ++ [e]) ∧ BwInv K H lf side U D m' σ' H', fun _ _ h => h, ?_⟩
      generalize upd H2 pN (.lst []) = H3 at *
      have hnt := hst3.nt
      obtain ⟨xs, q, hl, hy, hse, hst4⟩ := hst3.pop
      have f34 : Fr (FL K) [lf] H3 (upd H3 lf (.lst xs.dropLast)) := Fr.upd hl rfl (by simp)
      have f4 := f3.transW f34 nf
      have hse4 := hse.fr f34 hnt
      have hb4 := hb3.fr f34 hnt
      refine ⟨_, rfl, .inl ⟨rfl, _, SqL.of hl⟩, _, xs, _, rfl, rfl, hl, hy, _, _, rfl, SqT.of hse4.1, rfl, _, _, rfl, _, _, rfl, _, _, rfl, rfl, nx_ap ?_⟩
      generalize upd H3 lf (.lst xs.dropLast) = H4 at *
      have hpos : 0 < 3 ^ (e.u + e.d) := Nat.pow_pos (by decide)
      have hoke : okE e := hok e (by simp)
      have hok' : ∀ e' ∈ st', okE e' := fun e' h => hok e' (List.mem_append.mpr (.inl h))
      rw [stW3_snoc] at hall
      rw [wt_snoc] at hw
      refine seqJ (BwMid K H lf side U D q.2 e st' st') (fun R hR => ?_) fun σ5 H5 J5 => ?_
      · refine ifs_p (b := decide (V.int (e.u : Nat) = V.int 0) && decide (V.int (e.d : Nat) = V.int 0)) (and_p (test_p fun _ k => ⟨_, rfl, rfl, k⟩) fun _ => test_p fun _ k => ⟨_, rfl, rfl, k⟩) (fun hd => ?_) (fun hd => ?_)
        · have he0 : e.u = 0 ∧ e.d = 0 := by
            simp only [Bool.and_eq_true, decide_eq_true_eq, V.int.injEq] at hd
            omega
          have hse5 : seW e = [e.ws] := by
            obtain ⟨ews, eu, ed⟩ := e
            obtain ⟨h1, h2⟩ := he0
            simp only at h1 h2
            subst h1 h2
            exact seW_end ews
          have hnx : nxtE e = [] := by
            unfold nxtE
            rw [he0.1, he0.2] <;> rfl
          rw [hse5] at hall
          have hbw : badW e.ws 1 side = false := by
            unfold badW badL
            rw [hs]
            show (false || _) = false
            rw [Bool.false_or, List.any_eq_false]
            intro w hw z
            rw [hoke.1 w hw] at z
            cases z
          refine ⟨_, rfl, _, rfl, _, _, _, rfl, q.2, e.ws, 1, side, rfl, rfl, rfl, .inr hse4.2, f4.tab ht, by have := hoke.2; omega, fun w hw => sideOk (hoke.1 w hw), (fun z => by rw [hbw] at z; cases z), fun _ H5 q5 f5 hq5 nq5 => ?_⟩
          refine ⟨_, _, _, _, rfl, rfl, SqT.of hq5, rfl, _, rfl, by walk_at "few", fun pM nM => gname_ap (nx_ap ?_)⟩
          have f6 := f5.trans (Fr.new (o := .tup [.int (trn side e.ws), .ref q.2]) nM)
          have hbw6 : BwAt (upd H5 pM (.tup [.int (trn side e.ws), .ref q.2])) side pM q.2 e.ws := ⟨upd_same, f6.t hse4.2 (by simp)⟩
          have hst6 := hst4.fr0 f6
          have hb6 := hb4.fr f6 (by simp)
          have fH6 := f4.trans f6
          show tAsg _ _ _ _ (upd H5 pM (.tup [.int (trn side e.ws), .ref q.2]))
          generalize upd H5 pM (.tup [.int (trn side e.ws), .ref q.2]) = H6 at *
          rcases hb6 with ⟨rfl, rfl⟩ | ⟨qb, tb, wb, rfl, hbb, hbm, hbd⟩
          · refine ⟨_, rfl, rfl, _, rfl, ite_tt (ite_tt ⟨_, rfl, gname_ap ?_⟩)⟩
            refine hR _ _ ⟨_, _, [e.ws], rfl, hst6, hbw6.2, fH6, .inr ⟨pM, q.2, e.ws, rfl, hbw6, by simp, rfl⟩, ?_⟩
            rw [hnx]
            exact hall
          · have hdn : done.map (dBW side) ≠ [] := by
              cases done with
              | nil => cases hbm
              | cons a t => simp
            have hms := minL_snoc (done.map (dBW side)) (dBW side e.ws) hdn
            rw [← hbd] at hms
            refine ⟨_, rfl, rfl, _, rfl, ite_ff ⟨_, rfl, _, rfl, _, _, hbw6.dp, hbb.dp, dBW_alike _ _ _, (fun z => by cases z), by have := dBW_depth side e.ws; omega, _, rfl, ?_⟩⟩
            have hal : (done ++ [e.ws]) ++ (stW3 (nxtE e) ++ stW3 st') = allW U D := by
              rw [hnx]
              show done ++ [e.ws] ++ ([] ++ stW3 st') = _
              rw [List.nil_append, List.append_assoc]
              exact hall
            cases hlt : PySem.W.dataLt (dBW side e.ws) (dBW side wb) with
            | true =>
              rw [hlt] at hms
              refine ite_tt ⟨_, rfl, gname_ap (hR _ _ ⟨_, _, done ++ [e.ws], rfl, hst6, hbw6.2, fH6, .inr ⟨pM, q.2, e.ws, rfl, hbw6, by simp, ?_⟩, hal⟩)⟩
              rw [List.map_append]
              exact hms.symm
            | false =>
              rw [hlt] at hms
              refine ite_ff ⟨_, rfl, gname_ap (hR _ _ ⟨_, _, done ++ [e.ws], rfl, hst6, hbw6.2, fH6, .inr ⟨qb, tb, wb, rfl, hbb, List.mem_append.mpr (.inl hbm), ?_⟩, hal⟩)⟩
              rw [List.map_append]
              exact hms.symm
        · refine hR _ _ ⟨_, _, done, rfl, hst4, hse4.2, f4, hb4, ?_⟩
          rw [← seW_step e (fun h => by rw [h.1, h.2] at hd; cases hd)]
          exact hall
      · refine seqJ (BwMid K H lf side U D q.2 e st' (st' ++ (if e.u = 0 then [] else [⟨e.ws ++ [("up" : Str)], e.u - 1, e.d⟩]))) (fun R hR => ?_) fun σ6 H6 J6 => ?_
        · obtain ⟨x3, x8, done, rfl, hst5, hw5, f5, hb5, hal⟩ := J5
          refine ifs_p (b := decide ((e.u : Int) > 0)) (test_p fun _ k => ⟨_, rfl, _, _, rfl, rfl, k⟩) (fun hd => ?_) (fun hd => ?_)
          · have hu : e.u ≠ 0 := by
              have := of_decide_eq_true hd
              omega
            rw [if_neg hu] at hR
            obtain ⟨xs5, hl5, _⟩ := hst5.lst
            refine ⟨_, rfl, .inl ⟨rfl, _, SqL.of hl5⟩, _, rfl, by walk_at "few", fun pa na => catA_o (T := FL K) ((upd_ne (ne_of_none hw5 na)).trans hw5) upd_same (by rw [List.length_map]; have := hoke.2; show e.ws.length + 1 ≤ 1000; omega) fun H7 p7 f7 hp7 => ⟨_, rfl, _, _, rfl, rfl, _, rfl, by walk_at "few", fun pb nb => ?_⟩⟩
            have f8 := (Fr.new (T := FL K) (S := []) (o := .tup [V.str "up"]) na).trans (f7.trans (Fr.new (o := .tup [.ref p7, .int ((e.u : Int) - 1), .int (e.d : Nat)]) nb))
            have hse8 : SeAt (upd H7 pb (.tup [.ref p7, .int ((e.u : Int) - 1), .int (e.d : Nat)])) (pb, p7) ⟨e.ws ++ [("up" : Str)], e.u - 1, e.d⟩ := by
              have eu : ((e.u : Int) - 1) = ((e.u - 1 : Nat) : Int) := by omega
              refine ⟨by rw [eu]; exact upd_same, ?_⟩
              rw [List.map_append]
              exact (upd_ne (ne_of_none hp7 nb)).trans hp7
            have hst8 := hst5.fr0 f8
            have hb8 := hb5.fr f8 (by simp)
            have fH8 := f5.trans f8
            have hw8 := f8.t hw5 (by simp)
            have hlen8 := len_wt st'
            generalize upd H7 pb (.tup [.ref p7, .int ((e.u : Int) - 1), .int (e.d : Nat)]) = H8 at *
            have hnt8 := hst8.nt
            obtain ⟨xs8, hl8, hn8, hst9⟩ := hst8.add hse8
            have f89 : Fr (FL K) [lf] H8 (upd H8 lf (.lst (xs8 ++ [V.ref pb]))) := Fr.upd hl8 rfl (by simp)
            refine ⟨_, _, _, rfl, rfl, hl8, by omega, hR _ _ ⟨_, _, done, rfl, hst9, ?_, fH8.transW f89 nf, hb8.fr f89 hnt8, hal⟩⟩
            exact f89.t hw8 fun m => hnt8 _ m _ hw8
          · have hu : e.u = 0 := by
              have := of_decide_eq_false hd
              omega
            rw [if_pos hu, List.append_nil] at hR
            exact hR _ _ ⟨_, _, done, rfl, hst5, hw5, f5, hb5, hal⟩
        · obtain ⟨x3, x8, done, rfl, hst5, hw5, f5, hb5, hal⟩ := J6
          have hcont : ∀ st2 x3' H9 , StkAt H9 lf st2 → st2 = st' ++ nxtE e → Fr (FL K) [] H H9 → BestI H9 side done x3' → ∃ m', m' < wt (st' ++ [e]) ∧ BwInv K H lf side U D m' [some (.int (U : Nat)), some (.int (D : Nat)), some (.str side), some x3', some (.ref lf), some (.ref q.2), some (.int (e.u : Nat)), some (.int (e.d : Nat)), x8] H9 := by
            rintro st2 x3' H9 hs9 rfl f9 hb9
            have hwn := wt_nxt e
            refine ⟨_, ?_, st' ++ nxtE e, _, _, _, _, _, done, rfl, rfl, hs9, fun e' he' => ?_, f9, hb9, ?_, ?_⟩
            · rw [wt_app, wt_snoc]
              omega
            · rcases List.mem_append.mp he' with z | z
              · exact hok' e' z
              · have h2 := hoke.2
                unfold nxtE at z
                rcases List.mem_append.mp z with z | z
                · split at z
                  · cases z
                  · rw [List.mem_singleton.mp z]
                    refine ⟨fun w hw => ?_, ?_⟩
                    · rcases List.mem_append.mp hw with y | y
                      · exact hoke.1 w y
                      · rw [List.mem_singleton.mp y]
                        decide +kernel
                    · simp only [List.length_append, List.length_singleton]
                      omega
                · split at z
                  · cases z
                  · rw [List.mem_singleton.mp z]
                    refine ⟨fun w hw => ?_, ?_⟩
                    · rcases List.mem_append.mp hw with y | y
                      · exact hoke.1 w y
                      · rw [List.mem_singleton.mp y]
                        decide +kernel
                    · simp only [List.length_append, List.length_singleton]
                      omega
            · rw [stW3_app]
              exact hal
            · rw [wt_app]
              omega
          refine ifs_p (b := decide ((e.d : Int) > 0)) (test_p fun _ k => ⟨_, rfl, _, _, rfl, rfl, k⟩) (fun hd => ?_) (fun hd => ?_)
          · have hu : e.d ≠ 0 := by
              have := of_decide_eq_true hd
              omega
            obtain ⟨xs5, hl5, hn5⟩ := hst5.lst
            refine ⟨_, rfl, .inl ⟨rfl, _, SqL.of hl5⟩, _, rfl, by walk_at "few", fun pa na => catA_o (T := FL K) ((upd_ne (ne_of_none hw5 na)).trans hw5) upd_same (by rw [List.length_map]; have := hoke.2; show e.ws.length + 1 ≤ 1000; omega) fun H7 p7 f7 hp7 => ⟨_, rfl, _, rfl, _, _, rfl, rfl, by walk_at "few", fun pb nb => ?_⟩⟩
            have f8 := (Fr.new (T := FL K) (S := []) (o := .tup [V.str "down"]) na).trans (f7.trans (Fr.new (o := .tup [.ref p7, .int (e.u : Nat), .int ((e.d : Int) - 1)]) nb))
            have hse8 : SeAt (upd H7 pb (.tup [.ref p7, .int (e.u : Nat), .int ((e.d : Int) - 1)])) (pb, p7) ⟨e.ws ++ [("down" : Str)], e.u, e.d - 1⟩ := by
              have eu : ((e.d : Int) - 1) = ((e.d - 1 : Nat) : Int) := by omega
              refine ⟨by rw [eu]; exact upd_same, ?_⟩
              rw [List.map_append]
              exact (upd_ne (ne_of_none hp7 nb)).trans hp7
            have hst8 := hst5.fr0 f8
            have hb8 := hb5.fr f8 (by simp)
            have fH8 := f5.trans f8
            have hlen8 := len_wt st'
            generalize upd H7 pb (.tup [.ref p7, .int (e.u : Nat), .int ((e.d : Int) - 1)]) = H8 at *
            have hnt8 := hst8.nt
            obtain ⟨xs8, hl8, hn8, hst9⟩ := hst8.add hse8
            have f89 : Fr (FL K) [lf] H8 (upd H8 lf (.lst (xs8 ++ [V.ref pb]))) := Fr.upd hl8 rfl (by simp)
            have hle : (st' ++ (if e.u = 0 then [] else [SE.mk (e.ws ++ [("up" : Str)]) (e.u - 1) e.d])).length ≤ st'.length + 1 := by
              rw [List.length_append]
              split <;> simp
            have hpos : 0 < 3 ^ (e.u + e.d) := Nat.pow_pos (by decide)
            refine ⟨_, _, _, rfl, rfl, hl8, by omega, hcont _ _ _ hst9 ?_ (fH8.transW f89 nf) (hb8.fr f89 hnt8)⟩
            unfold nxtE
            rw [if_neg hu, List.append_assoc]
          · have hu : e.d = 0 := by
              have := of_decide_eq_false hd
              omega
            refine hcont _ _ _ hst5 ?_ f5 hb5
            unfold nxtE
            rw [if_pos hu, List.append_nil]
end
end K2
namespace K2
open PySem PySem.Spec PyProof.Rows L2 Cn LamX
local macro_rules | `(tactic| walk_at "few") => `(tactic| exact Nat.le_of_ble_eq_true rfl)
local macro_rules | `(tactic| walk_at "ne") => `(tactic| first | assumption | (apply Ne.symm; assumption) | exact ne_of_none (by assumption) (by assumption) | exact (ne_of_none (by assumption) (by assumption)).symm)
local macro_rules | `(tactic| walk_at "hf") => `(tactic| first | assumption | exact upd_same | (refine Eq.trans (upd_ne (by walk_at "ne")) ?_; walk_at "hf"))
local macro_rules | `(tactic| walk_at "bk") => `(tactic| first | (dsimp only [blk_K, blk_w, blk_prog]; done) | exact rfl | (dsimp only [blk_K, blk_w, blk_prog]; exact rfl))
local macro_rules | `(tactic| walk_at "ht") => `(tactic| exact SqT.of (by walk_at "hf"))
local macro_rules | `(tactic| walk_at "at") => `(tactic| first | exact atI_nat (by assumption) | rfl)
local macro_rules | `(tactic| walk_at "nz") => `(tactic| first | omega | exact ⟨by omega, by omega⟩)
local macro_rules | `(tactic| walk_at "ix") => `(tactic| first | assumption | rfl)
local macro_rules | `(tactic| walk_at "sq") => `(tactic| first | exact .inl (SqL.of (by walk_at "hf")) | exact .inr (SqT.of (by walk_at "hf")))
/-! the dice of the law -/
abbrev DiceO (a b c : Int) : HO := .lst [.int a, .int b, .int c]
def spDice : Sp := Sp1 fun x H Q _ => ∃ c, x = .int c ∧ ∀ p a b d, H p = none → Q (.ref p) (upd H p (DiceO a b d))
section
variable {P : Program} {w : World} {K : PySem.W.Frag} {mg : Str → Option Value} {base : Heap}
theorem ok_law_dice (T : Txt K mg base) : Pr P w K mg base 1 (He.fAd K ("_law_dice", none)) ["cell"] spDice := by
  refine mk_pr T.d_law_dice rfl sc_law_dice (fun _ _ _ _ _ _ us hl => match us, hl with | [_], _ => rfl) len1 (fun cdv A outer s H vs Q E hr h => ?_)
  have nd := sc_law_dice.nd
  obtain ⟨x, rfl, c, rfl, k⟩ := h
  refine ⟨_, (pss_cons (ps_if (pt_chain op_lt op_lt (pe_op op_sub pe_int pe_int) (pv 0) pe_int)
        (pss_one (ps_ret (pe_lst (pa_cons (pe_callB call_abs (by rfl) T.f_abs (by decide +kernel) (pa_cons (pv 0) pa_nil)) (pa_cons pe_int (pa_cons pe_int pa_nil))))))
        pss_nil)
      (pss_one (ps_ret (pe_lst (pa_cons (pv 0) (pa_cons (pe_op op_add pe_int (pe_op op_mod (pe_callTy call_int1 (by rfl) T.f_int (by decide +kernel) (pa_cons (pv 0) pa_nil)) pe_int)) (pa_cons (pe_callTy call_int1 (by rfl) T.f_int (by decide +kernel) (pa_cons (pe_cmpR op_ge (pv 0) (pe_op op_pow pe_int pe_int) (nomark _)) pa_nil)) pa_nil))))))), ?_⟩
  refine ifs_p (test_p (chain_p (fun _ k => ⟨_, _, rfl, rfl, k⟩) (fun _ k => ⟨_, rfl, k⟩) rI_p (fun hg => fun _ k => k) (fun hg => rI_p))) (fun hd => ?_) (fun hd => ?_)
  · (refine ⟨_, rfl, _, rfl, (by walk_at "few"), fun pN np => ?_⟩)
    exact k pN _ _ _ np
  · (refine ⟨_, rfl, _, rfl, .inl ⟨_, rfl, _, _, rfl, rfl, (show (0 : Int) < 1009 by decide), _, _, rfl, rfl, _, rfl, _, _, rfl, rfl, ⟨by decide, by decide, by decide⟩, _, _, rfl, rfl, .inr ⟨_, rfl, (by walk_at "few"), fun pN np => ?_⟩⟩⟩)
    exact k pN _ _ _ np
end
def spRoll : Sp := Sp2 fun x y H Q _ => ∃ p a b d m, x = .ref p ∧ y = .int m ∧ H p = some (DiceO a b d) ∧ 1 ≤ m ∧ m ≤ 100000000 ∧ ∀ a' b' d' r, 0 ≤ r → r < m → Q (.int r) (upd H p (DiceO a' b' d'))
section
variable {P : Program} {w : World} {K : PySem.W.Frag} {mg : Str → Option Value} {base : Heap}
theorem ok_law_roll (T : Txt K mg base) : Pr P w K mg base 1 (He.fAd K ("_law_roll", none)) ["dice", "many"] spRoll := by
  refine mk_pr T.d_law_roll rfl sc_law_roll (fun _ _ _ _ _ _ us hl => match us, hl with | [_, _], _ => rfl) len2 (fun cdv A outer s H vs Q E hr h => ?_)
  have nd := sc_law_roll.nd
  obtain ⟨x, y, rfl, p, a, b, d, m, rfl, rfl, h1, m1, m2, k⟩ := h
  have e0 : atI [V.int a, .int b, .int d] 0 = some (.int a) := rfl
  have e1 : atI [V.int a, .int b, .int d] 1 = some (.int b) := rfl
  have e2 : atI [V.int a, .int b, .int d] 2 = some (.int d) := rfl
  refine ⟨_, (pss_cons (ps_if (PW.pt (pw_or (pt_cmpR op_eq (pe_ix ix_list (pv 0) pe_int (fun _ _ => rfl)) pe_int (nomark _)) (pw_or1 (PW.pt (pw_and (pt_cmpR op_eq (pe_ix ix_list (pv 0) pe_int (fun _ _ => rfl)) pe_int (nomark _)) (pw_and1 (pt_cmpR op_gt (pe_ix ix_list (pv 0) pe_int (fun _ _ => rfl)) pe_int (nomark _))))))))
        (pss_cons (ps_set (i := 2) nd rfl (Or.inl rfl) (pe_op op_modN (pe_callTy call_int1 (by rfl) T.f_int (by decide +kernel) (pa_cons (pe_ix ix_list (pv 0) pe_int (fun _ _ => rfl)) pa_nil)) (pv 1)))
        (pss_cons (ps_asg (pe_op op_fdivN (pe_ix ix_list (pv 0) pe_int (fun _ _ => rfl)) (pv 1)) (pg_sub (pv 0) pe_int set_list))
        (pss_one (ps_ret (pv 2)))))
        pss_nil)
      (pss_cons (ps_asg pe_int (pg_sub (pv 0) pe_int set_list))
      (pss_cons (ps_if (pt_cmpR op_gt (pv 1) pe_int (nomark _)) (pss_one ps_never) pss_nil)
      (pss_cons (ps_asg (pe_op op_mod (pe_callTy call_int1 (by rfl) T.f_int (by decide +kernel) (pa_cons (pe_op op_add (pe_op op_add (pe_op op_mul (pe_ix ix_list (pv 0) pe_int (fun _ _ => rfl)) pe_int) (pe_op op_mul (pe_ix ix_list (pv 0) pe_int (fun _ _ => rfl)) pe_int)) pe_int) pa_nil)) pe_int) (pg_sub (pv 0) pe_int set_list))
      (pss_cons (ps_asg (pe_op op_add (pe_ix ix_list (pv 0) pe_int (fun _ _ => rfl)) pe_int) (pg_sub (pv 0) pe_int set_list))
      (pss_one (ps_ret (pe_op op_modN (pe_callTy call_int1 (by rfl) T.f_int (by decide +kernel) (pa_cons (pe_op op_fdiv (pe_ix ix_list (pv 0) pe_int (fun _ _ => rfl)) pe_int) pa_nil)) (pv 1))))))))), ?_⟩
  (refine ifs_p (or_p (test_p (fun _ k => ⟨_, rfl, _, _, _, _, rfl, rfl, SqL.of (by walk_at "hf"), (by walk_at "at"), rfl, k⟩)) (fun hg => (and_p (test_p (fun _ k => ⟨_, rfl, _, _, _, _, rfl, rfl, SqL.of (by walk_at "hf"), (by walk_at "at"), rfl, k⟩)) (fun hg => (test_p (fun _ k => ⟨_, rfl, _, _, _, _, rfl, rfl, SqL.of (by walk_at "hf"), (by walk_at "at"), _, _, rfl, rfl, k⟩)))))) (fun hd => ?_) (fun hd => ?_))
  · (refine ⟨_, rfl, _, _, _, _, rfl, rfl, SqL.of (by walk_at "hf"), (by walk_at "at"), .inl ⟨_, rfl, _, rfl, _, _, rfl, rfl, (by walk_at "nz"), _, rfl, _, _, _, _, rfl, rfl, SqL.of (by walk_at "hf"), (by walk_at "at"), _, rfl, _, _, rfl, rfl, (by walk_at "nz"), _, rfl, _, _, _, _, rfl, rfl, (by walk_at "hf"), (by walk_at "ix"), _, rfl, ?_⟩⟩)
    exact k _ _ _ _ (Int.fmod_nonneg_of_pos _ (by omega)) (Int.fmod_lt_of_pos _ (by omega))
  · (refine ⟨_, rfl, _, _, _, _, rfl, rfl, (by walk_at "hf"), (by walk_at "ix"), ?_⟩)
    (refine nx_ap ?_; refine ifs_p (test_p (fun _ k => ⟨_, rfl, _, _, rfl, rfl, k⟩)) (fun hd => ?_) (fun hd => ?_))
    · exact absurd (of_decide_eq_true hd) (by omega)
    · (refine ⟨_, rfl, _, _, _, _, rfl, rfl, SqL.of (by walk_at "hf"), (by walk_at "at"), _, _, rfl, rfl, .inr ⟨by decide, by decide⟩, _, rfl, _, _, _, _, rfl, rfl, SqL.of (by walk_at "hf"), (by walk_at "at"), _, _, rfl, rfl, .inr ⟨by decide, by decide⟩, _, _, rfl, rfl, _, _, rfl, rfl, .inl ⟨_, rfl, _, _, rfl, rfl, (show (0 : Int) < 2147483647 by decide), _, rfl, _, _, _, _, rfl, rfl, (by walk_at "hf"), (by walk_at "ix"), _, rfl, _, _, _, _, rfl, rfl, SqL.of (by walk_at "hf"), (by walk_at "at"), _, _, rfl, rfl, _, rfl, _, _, _, _, rfl, rfl, (by walk_at "hf"), (by walk_at "ix"), _, rfl, _, _, _, _, rfl, rfl, SqL.of (by walk_at "hf"), (by walk_at "at"), _, _, rfl, rfl, ⟨by decide, by decide⟩, .inl ⟨_, rfl, _, rfl, _, _, rfl, rfl, (by walk_at "nz"), ?_⟩⟩⟩)
      rw [upd_upd, upd_upd]
      exact k _ _ _ _ (Int.fmod_nonneg_of_pos _ (by omega)) (Int.fmod_lt_of_pos _ (by omega))
end
/-! the rounds: one -/
theorem eqv_int (i j : Int) : PyData.eqv (.int i) (.int j) = decide (i = j) := by
  unfold PyData.eqv
  by_cases h : i = j
  · simp [h]
  · simp [h]
def spRounds (K : PySem.W.Frag) : Sp := Sp2 fun x y H Q _ => ∃ (a : Addr) (ns : List Int), x = .ref a ∧ y = .int 1 ∧ SqL K H a (ns.map V.int) ∧
  ∀ H' l p a b d, Fr (FL K) [] H H' → H' l = some (.lst [.ref p]) → H' p = some (DiceO a b d) → Q (.ref l) H'
section
variable {P : Program} {w : World} {K : PySem.W.Frag} {mg : Str → Option Value} {base : Heap}
theorem ok_law_rounds (T : Txt K mg base) : Pr P w K mg base 2 (He.fAd K ("_law_rounds", none)) ["script", "most"] (spRounds K) := by
  refine mk_pr T.d_law_rounds rfl sc_law_rounds (fun _ _ _ _ _ _ us hl => match us, hl with | [_, _], _ => rfl) len2 (fun cdv A outer s H vs Q E hr h => ?_)
  have nd := sc_law_rounds.nd
  obtain ⟨x, y, rfl, a, ns, rfl, rfl, h1, k⟩ := h
  refine ⟨_, (pss_cons (ps_set (i := 2) nd rfl (Or.inl rfl) (pe_slice sl_list (pv 0) po_none (po_some (pv 1))))
      (pss_cons (ps_if (pt_cmpR (op_eqD hr.units) (pv 2) (pe_lst pa_nil) (nomark _))
        (pss_one (ps_set (i := 2) nd rfl (Or.inl rfl) (pe_lst (pa_cons pe_int pa_nil))))
        pss_nil)
      (pss_one (ps_ret (pe_lc (own := [("cell", 3)]) (by rfl) nd (pi_list (pv 2)) (blkOk_by (own := [("cell", 3)]) (N := ["script", "most", "cells", "cell"]) (sc := defScope s_law_rounds) (by decide +kernel)) (fun _ _ _ _ _ => PG.at_ (pg_name (i := 3) nd rfl (.inl rfl)) (by walk_at "bk")) (fun _ _ _ _ _ => PTs.at_ (pts_nil) (by walk_at "bk")) (fun _ _ _ _ _ => PE.at_ (pe_fn (ok_law_dice T) hr (by decide) passL T.g_law_dice (pa_cons (pv 3) pa_nil)) (by walk_at "bk"))))))), ?_⟩
  refine ⟨_, rfl, _, rfl, _, rfl, _, _, rfl, h1, fun c nc => ?_⟩
  have hcut : cutV (ns.map V.int) none (some 1) = (ns.take 1).map V.int := by
    unfold cutV
    rw [HT.sIx_none, List.drop_zero, Nat.sub_zero, show (some (1 : Int)) = some ((1 : Nat) : Int) from rfl, HT.sIx_nat, List.map_take]
    exact List.take_eq_take_min.symm
  rw [hcut]
  have hc : upd H c (.lst ((ns.take 1).map V.int)) c = some (.lst ((ns.take 1).map V.int)) := upd_same
  have f1 : Fr (FL K) [] H (upd H c (.lst ((ns.take 1).map V.int))) := Fr.new nc
  generalize upd H c (.lst ((ns.take 1).map V.int)) = H1 at *
  refine nx_ap ?_
  refine seqJ (fun σ H' => ∃ c z, σ = [some (.ref a), some (.int 1), some (.ref c), none] ∧ H' c = some (.lst [.int z]) ∧ Fr (FL K) [] H H') (fun R hR => ?_) ?_
  · refine ⟨_, rfl, by walk_at "few", fun e ne => ?_⟩
    have hc2 := (upd_ne (o := .lst []) (ne_of_none hc ne)).trans hc
    have f2 := f1.trans (Fr.new ne (o := .lst []))
    cases ns with
    | nil =>
      refine ⟨_, _, .lst (SqL.of hc2) .nil, .lst (SqL.of upd_same) .nil, rfl, rfl, _, rfl, ?_⟩
      refine ite_tt ?_
      (refine ⟨(by walk_at "few"), fun pN np => ?_⟩)
      exact hR _ _ ⟨pN, 0, rfl, upd_same, f2.trans (Fr.new np)⟩
    | cons n r =>
      refine ⟨_, _, .lst (SqL.of hc2) (.cons (.int n) .nil), .lst (SqL.of upd_same) .nil, rfl, rfl, _, rfl, ?_⟩
      refine ite_ff ?_
      exact hR _ _ ⟨c, n, rfl, hc2, f2⟩
  · rintro σ H2 ⟨c, z, rfl, hc, f2⟩
    refine ⟨_, rfl, _, rfl, ⟨_, SqL.of hc⟩, fun D nD => ?_⟩
    refine lc_list (fun i H' => Fr (FL K) [] H H' ∧ H' c = some (.lst [.int z]) ∧ ((i = 0 ∧ H' D = some (.lst [])) ∨ (i = 1 ∧ ∃ p a b d, H' D = some (.lst [.ref p]) ∧ H' p = some (DiceO a b d)))) ⟨f2.trans (Fr.new nD), (upd_ne (ne_of_none hc nD)).trans hc, .inl ⟨rfl, upd_same⟩⟩ (fun i H' _ h => SqL.of h.2.1) ?_ ?_
    · rintro i x H3 hx ⟨f3, hc3, h4⟩
      have i0 : i = 0 := by
        obtain ⟨q, _⟩ := List.getElem?_eq_some_iff.mp hx
        have q' : i < 1 := q
        omega
      subst i0
      cases hx
      rcases h4 with ⟨_, hD⟩ | ⟨w, _⟩
      · refine ⟨rfl, yes_it ?_⟩
        refine ⟨_, rfl, _, rfl, z, rfl, fun p a' b' d' np => ?_⟩
        have hD2 := (upd_ne (o := DiceO a' b' d') (ne_of_none hD np)).trans hD
        have hp2 : upd H3 p (DiceO a' b' d') p = some (DiceO a' b' d') := upd_same
        have hc4 := (upd_ne (o := DiceO a' b' d') (ne_of_none hc3 np)).trans hc3
        have ncD : c ≠ D := fun e => by
          rw [e] at hc3
          rw [hc3] at hD
          cases hD
        have npD : p ≠ D := (ne_of_none hD np).symm
        refine ⟨[], hD2, by decide, ?_, (upd_ne ncD).trans hc4, .inr ⟨rfl, p, a', b', d', upd_same, (upd_ne npD).trans hp2⟩⟩
        exact f3.transW ((Fr.new np (S := [D])).trans (Fr.upd hD2 rfl (by simp))) fun b hb => .inr (by rw [List.mem_singleton.mp hb]; exact Nw.of f2 nD (by simp))
      · cases w
    · rintro H3 ⟨f3, _, h4⟩
      rcases h4 with ⟨w, _⟩ | ⟨_, p, a', b', d', hD, hp⟩
      · cases w
      · exact k _ D p a' b' d' f3 hD hp
end
end K2
namespace K2
open PySem PySem.Spec PyProof.Rows L2 Cn LamX
local macro_rules | `(tactic| walk_at "few") => `(tactic| exact Nat.le_of_ble_eq_true rfl)
local macro_rules | `(tactic| walk_at "ne") => `(tactic| first | assumption | (apply Ne.symm; assumption) | exact ne_of_none (by assumption) (by assumption) | exact (ne_of_none (by assumption) (by assumption)).symm)
local macro_rules | `(tactic| walk_at "hf") => `(tactic| first | assumption | exact upd_same | (refine Eq.trans (upd_ne (by walk_at "ne")) ?_; walk_at "hf"))
local macro_rules | `(tactic| walk_at "bk") => `(tactic| first | (dsimp only [blk_K, blk_w, blk_prog]; done) | exact rfl | (dsimp only [blk_K, blk_w, blk_prog]; exact rfl))
local macro_rules | `(tactic| walk_at "ht") => `(tactic| exact SqT.of (by walk_at "hf"))
local macro_rules | `(tactic| walk_at "at") => `(tactic| first | exact atI_nat (by assumption) | rfl)
local macro_rules | `(tactic| walk_at "nz") => `(tactic| first | omega | exact ⟨by omega, by omega⟩)
local macro_rules | `(tactic| walk_at "ix") => `(tactic| first | assumption | rfl)
local macro_rules | `(tactic| walk_at "sq") => `(tactic| first | exact .inl (SqL.of (by walk_at "hf")) | exact .inr (SqT.of (by walk_at "hf")))
/-! ### the law's turns -/
structure LTS where
  side : Str
  fills : Int
  turns : Int
def ltst (s : LTS) (way : Str) : LTS := ⟨way, s.fills + (if (decide (V.str way = V.str "up") || decide (V.str s.side = V.str "down")) = true then 1 else 0), s.turns + 1 + (if (!rdy s.side way) = true then 1 else 0)⟩
def ltrun (s : LTS) (ws : List Str) : LTS := ws.foldl ltst s
def ltN (side : Str) (ws : List Str) (i : Nat) : LTS := ltrun ⟨side, 0, 0⟩ (ws.take i)
theorem ltN_succ {side : Str} {ws : List Str} {i : Nat} {w : Str} (h : ws[i]? = some w) : ltN side ws (i + 1) = ltst (ltN side ws i) w := by
  unfold ltN ltrun
  rw [List.take_add_one, h, List.foldl_append] <;> rfl
def spLTurns (K : PySem.W.Frag) : Sp := Sp2 fun x y H Q _ => ∃ a ws side, x = .ref a ∧ y = .str side ∧ (H a = some (.lst (ws.map V.str)) ∨ H a = some (.tup (ws.map V.str))) ∧
  ∀ H' q, Fr (FL K) [] H H' → Nw H q → H' q = some (.tup [.int (ltrun ⟨side, 0, 0⟩ ws).fills, .int (ltrun ⟨side, 0, 0⟩ ws).turns]) → Q (.ref q) H'
section
variable {P : Program} {w : World} {K : PySem.W.Frag} {mg : Str → Option Value} {base : Heap}
theorem ok_law_turns (T : Txt K mg base) : Pr P w K mg base 1 (He.fAd K ("_law_turns", none)) ["ways", "side"] (spLTurns K) := by
  refine mk_pr T.d_law_turns rfl sc_law_turns (fun _ _ _ _ _ _ us hl => match us, hl with | [_, _], _ => rfl) len2 (fun cdv A outer s H vs Q E hr h => ?_)
  have nd := sc_law_turns.nd
  obtain ⟨x, y, rfl, a, ws, side, rfl, rfl, ha, k⟩ := h
  refine ⟨_, (pss_cons (ps_asg (pe_tup (pa_cons pe_int (pa_cons pe_int pa_nil))) (pg_tup (n := 2) rfl (pgs_cons (pg_name (i := 2) nd rfl (.inl rfl)) (pgs_cons (pg_name (i := 3) nd rfl (.inl rfl)) pgs_nil))))
      (pss_cons (ps_for owns rfl (pi_seqE (pv 0)) (pg_name (i := 4) nd rfl (.inl rfl))
        (pss_cons (ps_set (i := 5) nd rfl (Or.inl rfl) (pe_cmpR op_eq (pe_cmpR op_eq (pv 4) pe_str (nomark _)) (pe_cmpR op_eq (pv 1) pe_str (nomark _)) (nomark _)))
        (pss_cons (ps_par (i := 3) (j := 2) rfl nd rfl rfl (by decide) rfl rfl (pa_cons (pe_op op_add (pe_op op_add (pv 3) pe_int) (pe_callTy call_int1 (by rfl) T.f_int (by decide +kernel) (pa_cons (pe_not (pv 5)) pa_nil))) (pa_cons (pe_op op_add (pv 2) (pe_callTy call_int1 (by rfl) T.f_int (by decide +kernel) (pa_cons (pe_or (pe_cmpR op_eq (pv 4) pe_str (nomark _)) (pe_one (pe_cmpR op_eq (pv 1) pe_str (nomark _)))) pa_nil))) pa_nil)) (by rfl))
        (pss_one (ps_set (i := 1) nd rfl (Or.inl rfl) (pv 4))))))
      (pss_one (ps_ret (pe_tup (pa_cons (pv 2) (pa_cons (pv 3) pa_nil))))))), ?_⟩
  refine ⟨by walk_at "few", fun p0 np0 => ⟨_, _, rfl, SqT.of upd_same, rfl, _, _, rfl, _, _, rfl, rfl, nx_ap ?_⟩⟩
  have f0 : Fr (FL K) [] H (upd H p0 (.tup [.int 0, .int 0])) := .new np0
  have ha1 : upd H p0 (.tup [.int 0, .int 0]) a = some (.lst (ws.map V.str)) ∨ upd H p0 (.tup [.int 0, .int 0]) a = some (.tup (ws.map V.str)) := ha.imp (fun h => f0.l h (by simp)) fun h => f0.t h (by simp)
  generalize upd H p0 (.tup [.int 0, .int 0]) = H1 at *
  obtain ⟨J, G, wk, hG, hR⟩ := seqE (K := K) ha1
  refine hR _ _ _ (fun _ k => ⟨_, rfl, k⟩) ?_
  refine for_it wk (fun i σ H' => ∃ x4 x5, σ = [some (.ref a), some (.str (ltN side ws i).side), some (.int (ltN side ws i).fills), some (.int (ltN side ws i).turns), x4, x5] ∧ Fr (FL K) [] H1 H') ⟨none, none, rfl, .refl⟩ (fun i σ H' _ ⟨_, _, _, f⟩ => hG _ (f.same ha1 (by simp))) ?_ ?_
  · rintro i y σ H2 H3 hi ⟨x4, x5, rfl, f2⟩ ⟨rfl, hx⟩
    obtain ⟨wy, hw, rfl⟩ := map_get hx
    have hsr := ltN_succ (side := side) hw
    refine gname_ap ?_
    generalize ltN side ws i = S at *
    refine ⟨_, rfl, rfl, _, rfl, rfl, rfl, gname_ap (nx_ap ?_)⟩
    have er : decide (V.bl (decide (V.str wy = V.str "down")) = V.bl (decide (V.str S.side = V.str "up"))) = rdy S.side wy := by
      simp [rdy]
    rw [er]
    refine ⟨_, rfl, _, _, rfl, rfl, _, rfl, _, rfl, .inr ⟨_, rfl, _, _, rfl, rfl, ?_⟩⟩
    refine ⟨_, rfl, ?_⟩
    refine orv_p (b := decide (V.str wy = V.str "up")) (c := decide (V.str S.side = V.str "down")) (fun _ k => ⟨_, rfl, rfl, k⟩) (fun _ _ k => ⟨_, rfl, rfl, k⟩) _ ?_
    refine .inr ⟨_, rfl, _, _, rfl, rfl, _, _, rfl, nx_ap ⟨_, rfl, ?_⟩⟩
    show ∃ _, _
    rw [hsr]
    exact ⟨_, _, rfl, f2⟩
  · rintro σ H2 ⟨x4, x5, rfl, f2⟩
    rw [List.length_map]
    refine nx_ap ?_
    refine ⟨_, rfl, _, rfl, by walk_at "few", fun pN np => ?_⟩
    have e : ltN side ws ws.length = ltrun ⟨side, 0, 0⟩ ws := by
      unfold ltN
      rw [List.take_length]
    refine k _ pN ((f0.trans f2).trans (.new np)) (Nw.of (f0.trans f2) np (by simp)) ?_
    rw [← e]
    exact upd_same
end
/-! ### the law's ways -/
def WaysAt (H : Hp) (as : List Addr) (wss : List (List Str)) : Prop := as.length = wss.length ∧ ∀ (i : Nat) (a : Addr) (ws : List Str), as[i]? = some a → wss[i]? = some ws → H a = some (.tup (ws.map V.str))
theorem WaysAt.fr {T : List (Addr × Str)} {H H' : Hp} {as : List Addr} {wss : List (List Str)} (h : WaysAt H as wss) (f : Fr T [] H H') : WaysAt H' as wss := ⟨h.1, fun i a ws h1 h2 => f.t (h.2 i a ws h1 h2) (by simp)⟩
theorem WaysAt.app {H : Hp} {as as' : List Addr} {wss wss' : List (List Str)} (h : WaysAt H as wss) (h' : WaysAt H as' wss') : WaysAt H (as ++ as') (wss ++ wss') := by
  refine ⟨by rw [List.length_append, List.length_append, h.1, h'.1], fun i a ws h1 h2 => ?_⟩
  by_cases e : i < as.length
  · rw [List.getElem?_append_left e] at h1
    rw [List.getElem?_append_left (h.1 ▸ e)] at h2
    exact h.2 i a ws h1 h2
  · rw [List.getElem?_append_right (Nat.le_of_not_lt e)] at h1
    rw [List.getElem?_append_right (h.1 ▸ Nat.le_of_not_lt e), ← h.1] at h2
    exact h'.2 _ a ws h1 h2
theorem allW_len : ∀ (n u d : Nat), u + d = n → (allW u d).length ≤ 2 ^ n ∧ ∀ ws ∈ allW u d, ws.length = n ∧ ∀ w ∈ ws, isSide w = true
  | 0, 0, 0, _ => by simp [allW]
  | 0, 0, d + 1, h => by omega
  | 0, u + 1, d, h => by omega
  | n + 1, 0, 0, h => by simp at h
  | n + 1, 0, d + 1, h => by
    obtain ⟨h1, h2⟩ := allW_len n 0 d (by omega)
    refine ⟨?_, fun ws hw => ?_⟩
    · simp only [allW, List.length_map, Nat.pow_succ]
      omega
    · simp only [allW] at hw
      obtain ⟨r, hr, rfl⟩ := List.mem_map.mp hw
      obtain ⟨e1, e2⟩ := h2 r hr
      refine ⟨by simp [e1], fun w hw => ?_⟩
      rcases List.mem_cons.mp hw with z | z
      · rw [z]
        decide +kernel
      · exact e2 w z
  | n + 1, u + 1, 0, h => by
    obtain ⟨h1, h2⟩ := allW_len n u 0 (by omega)
    refine ⟨?_, fun ws hw => ?_⟩
    · simp only [allW, List.length_map, Nat.pow_succ]
      omega
    · simp only [allW] at hw
      obtain ⟨r, hr, rfl⟩ := List.mem_map.mp hw
      obtain ⟨e1, e2⟩ := h2 r hr
      refine ⟨by simp [e1], fun w hw => ?_⟩
      rcases List.mem_cons.mp hw with z | z
      · rw [z]
        decide +kernel
      · exact e2 w z
  | n + 1, u + 1, d + 1, h => by
    obtain ⟨h1, h2⟩ := allW_len n (u + 1) d (by omega)
    obtain ⟨h3, h4⟩ := allW_len n u (d + 1) (by omega)
    refine ⟨?_, fun ws hw => ?_⟩
    · simp only [allW, List.length_map, List.length_append, Nat.pow_succ]
      omega
    · simp only [allW] at hw
      rcases List.mem_append.mp hw with hw | hw
      · obtain ⟨r, hr, rfl⟩ := List.mem_map.mp hw
        obtain ⟨e1, e2⟩ := h2 r hr
        refine ⟨by simp [e1], fun w hw => ?_⟩
        rcases List.mem_cons.mp hw with z | z
        · rw [z]
          decide +kernel
        · exact e2 w z
      · obtain ⟨r, hr, rfl⟩ := List.mem_map.mp hw
        obtain ⟨e1, e2⟩ := h4 r hr
        refine ⟨by simp [e1], fun w hw => ?_⟩
        rcases List.mem_cons.mp hw with z | z
        · rw [z]
          decide +kernel
        · exact e2 w z
def downW (u d : Nat) : List (List Str) := if d = 0 then [] else (allW u (d - 1)).map (("down" : Str) :: ·)
def upW (u d : Nat) : List (List Str) := if u = 0 then [] else (allW (u - 1) d).map (("up" : Str) :: ·)
theorem allW_eq {u d : Nat} (h : u + d ≠ 0) : allW u d = downW u d ++ upW u d := by
  cases u with
  | zero =>
    cases d with
    | zero => exact absurd rfl h
    | succ d => simp [allW, downW, upW]
  | succ u =>
    cases d with
    | zero => simp [allW, downW, upW]
    | succ d => simp [allW, downW, upW]
def spWays (K : PySem.W.Frag) (n : Nat) : Sp := Sp2 fun x y H Q _ => ∃ u d : Nat, x = .int u ∧ y = .int d ∧ u + d < n ∧ u + d ≤ 9 ∧
  ∀ H' l as, Fr (FL K) [] H H' → H' l = some (.lst (as.map V.ref)) → WaysAt H' as (allW u d) → Nw H l → Q (.ref l) H'
def WJ (K : PySem.W.Frag) (H : Hp) (u d : Nat) (W : List (List Str)) (σ : L2.St) (H' : Hp) : Prop := ∃ l as x3, σ = [some (.int (u : Nat)), some (.int (d : Nat)), some (.ref l), x3] ∧ H' l = some (.lst (as.map V.ref)) ∧ WaysAt H' as W ∧ Fr (FL K) [] H H' ∧ Nw H l
section
variable {P : Program} {w : World} {K : PySem.W.Frag} {mg : Str → Option Value} {base : Heap}
theorem ok_law_waysN (T : Txt K mg base) : ∀ n, Pr P w K mg base n (He.fAd K ("_law_ways", none)) ["ups", "downs"] (spWays K n)
  | 0 => mk_none T.d_law_ways rfl (fun _ _ _ _ _ _ us hl => match us, hl with | [_, _], _ => rfl) (fun vs H Q E h => by
    obtain ⟨_, _, _, _, _, _, _, h, _⟩ := h
    omega)
  | n + 1 => by
    have ih := ok_law_waysN T n
    refine mk_pr T.d_law_ways rfl sc_law_ways (fun _ _ _ _ _ _ us hl => match us, hl with | [_, _], _ => rfl) len2 (fun cdv A outer s H vs Q E hr h => ?_)
    have nd := sc_law_ways.nd
    obtain ⟨x, y, rfl, u, d, rfl, rfl, hn, h9, k⟩ := h
    refine ⟨_, (pss_cons (ps_if (pt_cmpR op_eq (pe_op op_add (pv 0) (pv 1)) pe_int (nomark _))
        (pss_one (ps_ret (pe_lst (pa_cons (pe_tup pa_nil) pa_nil))))
        pss_nil)
      (pss_cons (ps_set (i := 2) nd rfl (Or.inl rfl) (pe_lst pa_nil))
      (pss_cons (ps_if (pt_cmpR op_gt (pv 1) pe_int (nomark _))
        (pss_one (ps_set (i := 2) nd rfl (Or.inl rfl) (pe_op op_cat (pv 2) (pe_lc (own := [("rest", 3)]) (by rfl) nd (pi_list (pe_fn ih hr (Nat.le_refl _) lets T.g_law_ways (pa_cons (pv 0) (pa_cons (pe_op op_sub (pv 1) pe_int) pa_nil)))) (blkOk_by (own := [("rest", 3)]) (N := ["ups", "downs", "found", "rest"]) (sc := defScope s_law_ways) (by decide +kernel)) (fun _ _ _ _ _ => PG.at_ (pg_name (i := 3) nd rfl (.inl rfl)) (by walk_at "bk")) (fun _ _ _ _ _ => PTs.at_ (pts_nil) (by walk_at "bk")) (fun _ _ _ _ _ => PE.at_ (pe_op op_catA (pe_tup (pa_cons pe_str pa_nil)) (pv 3)) (by walk_at "bk"))))))
        pss_nil)
      (pss_cons (ps_if (pt_cmpR op_gt (pv 0) pe_int (nomark _))
        (pss_one (ps_set (i := 2) nd rfl (Or.inl rfl) (pe_op op_cat (pv 2) (pe_lc (own := [("rest", 3)]) (by rfl) nd (pi_list (pe_fn ih hr (Nat.le_refl _) lets T.g_law_ways (pa_cons (pe_op op_sub (pv 0) pe_int) (pa_cons (pv 1) pa_nil)))) (blkOk_by (own := [("rest", 3)]) (N := ["ups", "downs", "found", "rest"]) (sc := defScope s_law_ways) (by decide +kernel)) (fun _ _ _ _ _ => PG.at_ (pg_name (i := 3) nd rfl (.inl rfl)) (by walk_at "bk")) (fun _ _ _ _ _ => PTs.at_ (pts_nil) (by walk_at "bk")) (fun _ _ _ _ _ => PE.at_ (pe_op op_catA (pe_tup (pa_cons pe_str pa_nil)) (pv 3)) (by walk_at "bk"))))))
        pss_nil)
      (pss_one (ps_ret (pv 2))))))), ?_⟩
    refine ifs_p (b := decide (V.int ((u : Int) + (d : Int)) = V.int 0)) (test_p fun _ k => ⟨_, rfl, _, rfl, _, _, rfl, rfl, rfl, k⟩) (fun hd => ?_) (fun hd => ?_)
    · have h0 : u = 0 ∧ d = 0 := by
        have := V.int.inj (of_decide_eq_true hd)
        omega
      obtain ⟨rfl, rfl⟩ := h0
      refine ⟨by walk_at "few", fun p0 np0 => ⟨by walk_at "few", fun p1 np1 => ?_⟩⟩
      have h0 : upd (upd H p0 (.tup [])) p1 (.lst [.ref p0]) p0 = some (.tup []) := (upd_ne (ne_of_none upd_same np1)).trans upd_same
      refine k _ p1 [p0] ((Fr.new np0).trans (.new np1)) upd_same ⟨by simp [allW], fun i a ws h1 h2 => ?_⟩ (Nw.of (Fr.new (T := FL K) (S := []) np0) np1 (by simp))
      have e : allW 0 0 = [[]] := by simp [allW]
      rw [e] at h2
      cases i with
      | zero =>
        cases h1
        cases h2
        exact h0
      | succ i => simp at h1
    · have hne : u + d ≠ 0 := fun z => by
        have : ((u : Int) + (d : Int)) = 0 := by omega
        rw [this] at hd
        cases hd
      refine nx_ap (seqJ (WJ K H u d []) (fun R hR => ⟨by walk_at "few", fun p0 np0 => gname_ap (hR _ _ ⟨p0, [], none, rfl, upd_same, ⟨rfl, fun _ _ _ z => by simp at z⟩, .new np0, .none np0⟩)⟩) fun σ0 H0 J0 => ?_)
      refine seqJ (WJ K H u d (downW u d)) (fun R hR => ?_) fun σ1 H1 J1 => seqJ (WJ K H u d (allW u d)) (fun R hR => ?_) fun σ2 H2 J2 => ?_
      · obtain ⟨l, as, x3, rfl, hl, hA, f, nl⟩ := J0
        refine ifs_p (b := decide ((d : Int) > 0)) (test_p fun _ k => ⟨_, rfl, _, _, rfl, rfl, k⟩) (fun hd => ?_) (fun hd => ?_)
        · have hg : d ≠ 0 := by
            have := of_decide_eq_true hd
            omega
          have hlw := allW_len (u + (d - 1)) (u) (d - 1) rfl
          have hp2 : 2 ^ (u + (d - 1)) ≤ 2 ^ 8 := Nat.pow_le_pow_right (by decide) (by omega)
          refine ⟨_, rfl, _, rfl, _, rfl, _, _, rfl, rfl, _, _, rfl, u, d - 1, congrArg V.int (by omega), congrArg V.int (by omega), by omega, by omega, fun H4 l4 as4 f4 h4 w4 n4 => ⟨_, rfl, ⟨_, SqL.of h4⟩, fun D nD => ?_⟩⟩
          refine lcO walk_list (FL K) (fun i => .tup ((((allW (u) (d - 1))[i]?).map fun ws => (("down" : Str) :: ws).map V.str).getD [])) (fun _ _ z => by cases z) (by rw [List.length_map, w4.1]; exact Nat.le_trans (by omega) line1000) nD (fun H' f => SqL.of (f.l h4 (by simp))) (fun i y H' R hy g hR => ?_) (fun H5 as5 hD5 hl5 hA5 _ _ f5 => ?_)
          · obtain ⟨a, ha, rfl⟩ := map_get hy
            have hi : i < (allW (u) (d - 1)).length := by
              rw [← w4.1]
              exact (List.getElem?_eq_some_iff.mp ha).1
            have hws : (allW (u) (d - 1))[i]? = some (allW (u) (d - 1))[i] := List.getElem?_eq_getElem hi
            have hta := g.t (w4.2 i a _ ha hws) (by simp)
            have hlen := (hlw.2 _ (List.getElem_mem hi)).1
            rw [hws] at hR
            generalize (allW (u) (d - 1))[i] = wi at *
            refine gname_ap (hR _ rfl ?_)
            exact cat_ox (xs := [.str "down"]) (ys := wi.map V.str) (cons_t c_p nil_t) (by simp) hta (fun _ _ _ k => ⟨_, rfl, k⟩) (by rw [List.length_map]; show 1 + wi.length ≤ 1000; omega)
          · rw [List.length_map, w4.1] at hl5
            have hw5 : WaysAt H5 as5 ((allW (u) (d - 1)).map (("down" : Str) :: ·)) := by
              refine ⟨by rw [List.length_map]; exact hl5, fun i a ws h1 h2 => ?_⟩
              have := hA5 i a h1
              rw [List.getElem?_map] at h2
              cases e : (allW (u) (d - 1))[i]? with
              | none =>
                rw [e] at h2
                cases h2
              | some z =>
                rw [e] at h2 this
                cases h2
                exact this
            have f45 := f4.trans f5
            refine ⟨_, _, _, _, rfl, rfl, f45.l hl (by simp), hD5, ?_, fun p np => gname_ap (hR _ _ ⟨p, as ++ as5, _, rfl, ?_, ?_, (f.trans f45).trans (.new np), Nw.of (f.trans f45) np (by simp)⟩)⟩
            · rw [List.length_map, List.length_map, hA.1, hl5]
              have := hlw
              have hz : ([] : List (List Str)).length = 0 := rfl
              exact Nat.le_trans (by omega) line1000
            · rw [List.map_append]
              exact upd_same
            · unfold downW
              rw [if_neg hg]
              have e := (hA.fr (f45.trans (Fr.new (o := .lst ((as ++ as5).map V.ref)) np))).app (hw5.fr (Fr.new (T := FL K) (o := .lst ((as ++ as5).map V.ref)) np))
              rw [List.map_append] at e
              exact e
        · have hg : d = 0 := by
            have := of_decide_eq_false hd
            omega
          refine hR _ _ ⟨l, as, _, rfl, hl, ?_, f, nl⟩
          unfold downW
          rw [if_pos hg]
          exact hA
      · obtain ⟨l, as, x3, rfl, hl, hA, f, nl⟩ := J1
        refine ifs_p (b := decide ((u : Int) > 0)) (test_p fun _ k => ⟨_, rfl, _, _, rfl, rfl, k⟩) (fun hd => ?_) (fun hd => ?_)
        · have hg : u ≠ 0 := by
            have := of_decide_eq_true hd
            omega
          have hdl : (downW u d).length ≤ 512 := by
            have h1 := (allW_len (u + d) u d rfl).1
            rw [allW_eq hne, List.length_append] at h1
            have h2 : 2 ^ (u + d) ≤ 2 ^ 9 := Nat.pow_le_pow_right (by decide) h9
            omega
          have hlw := allW_len (u - 1 + d) (u - 1) (d) rfl
          have hp2 : 2 ^ (u - 1 + d) ≤ 2 ^ 8 := Nat.pow_le_pow_right (by decide) (by omega)
          refine ⟨_, rfl, _, rfl, _, _, rfl, rfl, _, rfl, _, _, rfl, u - 1, d, congrArg V.int (by omega), congrArg V.int (by omega), by omega, by omega, fun H4 l4 as4 f4 h4 w4 n4 => ⟨_, rfl, ⟨_, SqL.of h4⟩, fun D nD => ?_⟩⟩
          refine lcO walk_list (FL K) (fun i => .tup ((((allW (u - 1) (d))[i]?).map fun ws => (("up" : Str) :: ws).map V.str).getD [])) (fun _ _ z => by cases z) (by rw [List.length_map, w4.1]; exact Nat.le_trans (by omega) line1000) nD (fun H' f => SqL.of (f.l h4 (by simp))) (fun i y H' R hy g hR => ?_) (fun H5 as5 hD5 hl5 hA5 _ _ f5 => ?_)
          · obtain ⟨a, ha, rfl⟩ := map_get hy
            have hi : i < (allW (u - 1) (d)).length := by
              rw [← w4.1]
              exact (List.getElem?_eq_some_iff.mp ha).1
            have hws : (allW (u - 1) (d))[i]? = some (allW (u - 1) (d))[i] := List.getElem?_eq_getElem hi
            have hta := g.t (w4.2 i a _ ha hws) (by simp)
            have hlen := (hlw.2 _ (List.getElem_mem hi)).1
            rw [hws] at hR
            generalize (allW (u - 1) (d))[i] = wi at *
            refine gname_ap (hR _ rfl ?_)
            exact cat_ox (xs := [.str "up"]) (ys := wi.map V.str) (cons_t c_p nil_t) (by simp) hta (fun _ _ _ k => ⟨_, rfl, k⟩) (by rw [List.length_map]; show 1 + wi.length ≤ 1000; omega)
          · rw [List.length_map, w4.1] at hl5
            have hw5 : WaysAt H5 as5 ((allW (u - 1) (d)).map (("up" : Str) :: ·)) := by
              refine ⟨by rw [List.length_map]; exact hl5, fun i a ws h1 h2 => ?_⟩
              have := hA5 i a h1
              rw [List.getElem?_map] at h2
              cases e : (allW (u - 1) (d))[i]? with
              | none =>
                rw [e] at h2
                cases h2
              | some z =>
                rw [e] at h2 this
                cases h2
                exact this
            have f45 := f4.trans f5
            refine ⟨_, _, _, _, rfl, rfl, f45.l hl (by simp), hD5, ?_, fun p np => gname_ap (hR _ _ ⟨p, as ++ as5, _, rfl, ?_, ?_, (f.trans f45).trans (.new np), Nw.of (f.trans f45) np (by simp)⟩)⟩
            · rw [List.length_map, List.length_map, hA.1, hl5]
              have := hdl
              exact Nat.le_trans (by omega) line1000
            · rw [List.map_append]
              exact upd_same
            · rw [allW_eq hne]
              unfold upW
              rw [if_neg hg]
              have e := (hA.fr (f45.trans (Fr.new (o := .lst ((as ++ as5).map V.ref)) np))).app (hw5.fr (Fr.new (T := FL K) (o := .lst ((as ++ as5).map V.ref)) np))
              rw [List.map_append] at e
              exact e
        · have hg : u = 0 := by
            have := of_decide_eq_false hd
            omega
          refine hR _ _ ⟨l, as, _, rfl, hl, ?_, f, nl⟩
          rw [allW_eq hne]
          unfold upW
          rw [if_pos hg, List.append_nil]
          exact hA
      · obtain ⟨l, as, x3, rfl, hl, hA, f, nl⟩ := J2
        exact ⟨_, rfl, k _ l as f hl hA nl⟩
theorem ok_law_ways (T : Txt K mg base) : Pr P w K mg base 8 (He.fAd K ("_law_ways", none)) ["ups", "downs"] (spWays K 8) := ok_law_waysN T 8
end
end K2
namespace K2
open PySem PySem.Spec PyProof.Rows L2 Cn LamX
local macro_rules | `(tactic| walk_at "few") => `(tactic| exact Nat.le_of_ble_eq_true rfl)
local macro_rules | `(tactic| walk_at "ne") => `(tactic| first | assumption | (apply Ne.symm; assumption) | exact ne_of_none (by assumption) (by assumption) | exact (ne_of_none (by assumption) (by assumption)).symm)
local macro_rules | `(tactic| walk_at "hf") => `(tactic| first | assumption | exact upd_same | (refine Eq.trans (upd_ne (by walk_at "ne")) ?_; walk_at "hf"))
local macro_rules | `(tactic| walk_at "bk") => `(tactic| first | (dsimp only [blk_K, blk_w, blk_prog]; done) | exact rfl | (dsimp only [blk_K, blk_w, blk_prog]; exact rfl))
local macro_rules | `(tactic| walk_at "ht") => `(tactic| exact SqT.of (by walk_at "hf"))
local macro_rules | `(tactic| walk_at "at") => `(tactic| first | exact atI_nat (by assumption) | rfl)
local macro_rules | `(tactic| walk_at "nz") => `(tactic| first | omega | exact ⟨by omega, by omega⟩)
local macro_rules | `(tactic| walk_at "ix") => `(tactic| first | assumption | rfl)
local macro_rules | `(tactic| walk_at "sq") => `(tactic| first | exact .inl (SqL.of (by walk_at "hf")) | exact .inr (SqT.of (by walk_at "hf")))
/-! ### the law's own lock -/
def ownD (b : Addr) (s : LkS) : List (Key × V) := [(.inr "side", .str s.side), (.inr "rows", .ref b), (.inr "boat", oV s.boat), (.inr "way", oV s.way), (.inr "left", .int s.left), (.inr "turns", .int s.turns)]
theorem get_side {b : Addr} {s : LkS} : valV (ownD b s) (.inr "side") = some (.str s.side) := by kernel_rfl
theorem put_side {b : Addr} {s : LkS} {v : Str} : putK (ownD b s) (.inr "side") (.str v) = ownD b { s with side := v } := by kernel_rfl
theorem get_rows {b : Addr} {s : LkS} : valV (ownD b s) (.inr "rows") = some (.ref b) := by kernel_rfl
theorem put_rows {b : Addr} {s : LkS} {v : Addr} : putK (ownD b s) (.inr "rows") (.ref v) = ownD v s := by kernel_rfl
theorem get_boat {b : Addr} {s : LkS} : valV (ownD b s) (.inr "boat") = some (oV s.boat) := by kernel_rfl
theorem put_boat {b : Addr} {s : LkS} {v : Option Str} : putK (ownD b s) (.inr "boat") (oV v) = ownD b { s with boat := v } := by kernel_rfl
theorem get_way {b : Addr} {s : LkS} : valV (ownD b s) (.inr "way") = some (oV s.way) := by kernel_rfl
theorem put_way {b : Addr} {s : LkS} {v : Option Str} : putK (ownD b s) (.inr "way") (oV v) = ownD b { s with way := v } := by kernel_rfl
theorem get_left {b : Addr} {s : LkS} : valV (ownD b s) (.inr "left") = some (.int s.left) := by kernel_rfl
theorem put_left {b : Addr} {s : LkS} {v : Int} : putK (ownD b s) (.inr "left") (.int v) = ownD b { s with left := v } := by kernel_rfl
theorem get_turns {b : Addr} {s : LkS} : valV (ownD b s) (.inr "turns") = some (.int s.turns) := by kernel_rfl
theorem put_turns {b : Addr} {s : LkS} {v : Int} : putK (ownD b s) (.inr "turns") (.int v) = ownD b { s with turns := v } := by kernel_rfl
section
variable {H : Hp} {o b : Addr} {s : LkS}
theorem own_side (h : H o = some (.dK (ownD b s))) : DGet H o (.str "side") (some (.str s.side)) := .inl ⟨_, .inr "side", .inl h, rfl, get_side.symm⟩
theorem own_pside {v : Str} (h : H o = some (.dK (ownD b s))) : DPut H o (.str "side") (.str v) (upd H o (.dK (ownD b { s with side := v }))) := .inl ⟨_, .inr "side", h, rfl, by show 6 < sizeLine; decide, by rw [put_side]⟩
theorem own_rows (h : H o = some (.dK (ownD b s))) : DGet H o (.str "rows") (some (.ref b)) := .inl ⟨_, .inr "rows", .inl h, rfl, get_rows.symm⟩
theorem own_prows {v : Addr} (h : H o = some (.dK (ownD b s))) : DPut H o (.str "rows") (.ref v) (upd H o (.dK (ownD v s))) := .inl ⟨_, .inr "rows", h, rfl, by show 6 < sizeLine; decide, by rw [put_rows]⟩
theorem own_boat (h : H o = some (.dK (ownD b s))) : DGet H o (.str "boat") (some (oV s.boat)) := .inl ⟨_, .inr "boat", .inl h, rfl, get_boat.symm⟩
theorem own_pboat {v : Option Str} (h : H o = some (.dK (ownD b s))) : DPut H o (.str "boat") (oV v) (upd H o (.dK (ownD b { s with boat := v }))) := .inl ⟨_, .inr "boat", h, rfl, by show 6 < sizeLine; decide, by rw [put_boat]⟩
theorem own_way (h : H o = some (.dK (ownD b s))) : DGet H o (.str "way") (some (oV s.way)) := .inl ⟨_, .inr "way", .inl h, rfl, get_way.symm⟩
theorem own_pway {v : Option Str} (h : H o = some (.dK (ownD b s))) : DPut H o (.str "way") (oV v) (upd H o (.dK (ownD b { s with way := v }))) := .inl ⟨_, .inr "way", h, rfl, by show 6 < sizeLine; decide, by rw [put_way]⟩
theorem own_left (h : H o = some (.dK (ownD b s))) : DGet H o (.str "left") (some (.int s.left)) := .inl ⟨_, .inr "left", .inl h, rfl, get_left.symm⟩
theorem own_pleft {v : Int} (h : H o = some (.dK (ownD b s))) : DPut H o (.str "left") (.int v) (upd H o (.dK (ownD b { s with left := v }))) := .inl ⟨_, .inr "left", h, rfl, by show 6 < sizeLine; decide, by rw [put_left]⟩
theorem own_turns (h : H o = some (.dK (ownD b s))) : DGet H o (.str "turns") (some (.int s.turns)) := .inl ⟨_, .inr "turns", .inl h, rfl, get_turns.symm⟩
theorem own_pturns {v : Int} (h : H o = some (.dK (ownD b s))) : DPut H o (.str "turns") (.int v) (upd H o (.dK (ownD b { s with turns := v }))) := .inl ⟨_, .inr "turns", h, rfl, by show 6 < sizeLine; decide, by rw [put_turns]⟩
end
local macro_rules | `(tactic| walk_at "dg") => `(tactic| first | exact own_side (by assumption) | exact own_rows (by assumption) | exact own_boat (by assumption) | exact own_way (by assumption) | exact own_left (by assumption) | exact own_turns (by assumption))
local macro_rules | `(tactic| walk_at "dp") => `(tactic| first | exact own_pside (by assumption) | exact own_prows (by assumption) | exact own_pboat (by assumption) | exact own_pway (by assumption) | exact own_pleft (by assumption) | exact own_pturns (by assumption))
theorem keyTok_inj {side : Str} {a b : Rw} (h : PySem.W.dataLt (dKey side a) (dKey side b) = false) (h2 : PySem.W.dataLt (dKey side b) (dKey side a) = false) : a = b := by
  have e := dataLt_tot h h2
  obtain ⟨t, w, n⟩ := a
  obtain ⟨t', w', n'⟩ := b
  simp [dKey, PySem.W.keyToks, PySem.W.keyToksAll] at e
  obtain ⟨rfl, _, h3, h4⟩ := e
  obtain ⟨c1⟩ := w
  obtain ⟨c2⟩ := n
  obtain ⟨c3⟩ := w'
  obtain ⟨c4⟩ := n'
  simp only at h3 h4
  rw [h3, h4]
def IsHead (side : Str) (rs : List Rw) (r0 : Rw) : Prop := r0 ∈ rs ∧ ∀ r ∈ rs, PySem.W.dataLt (dKey side r) (dKey side r0) = false
theorem head_next {side : Str} {rs : List Rw} {r0 r1 : Rw} (h : IsNext side rs r0) (k : IsHead side rs r1) : r0 = r1 := by
  obtain ⟨h1, h2⟩ := h
  obtain ⟨k1, k2⟩ := k
  refine keyTok_inj (side := side) (k2 r0 h1) ?_
  rw [h2]
  cases rs with
  | nil => cases h1
  | cons a t =>
    obtain ⟨i1, i2⟩ := minD_le (t.map (dKey side)) (dKey side a)
    rcases List.mem_cons.mp k1 with z | z
    · rw [z]
      exact i1
    · exact i2 _ (List.mem_map.mpr ⟨_, z, rfl⟩)
def spLNext (K : PySem.W.Frag) : Sp := Sp1 fun x H Q _ => ∃ o b s, x = .ref o ∧ H o = some (.dK (ownD b s)) ∧ RwsAt H b s.rs ∧ (∀ r ∈ s.rs, okR r = true) ∧ s.rs.length ≤ 1000 ∧ (s.rs = [] → ∀ H', Fr (FL K) [] H H' → Q .non H') ∧
  (∀ r0 H' q, IsHead s.side s.rs r0 → Fr (FL K) [] H H' → H' q = some (.tup (rwV r0)) → Nw H q → Q (.ref q) H')
section
variable {P : Program} {w : World} {K : PySem.W.Frag} {mg : Str → Option Value} {base : Heap}
theorem ok_law_next (T : Txt K mg base) : Pr P w K mg base 1 (He.fAd K ("_law_next", none)) ["own"] (spLNext K) := by
  refine mk_pr T.d_law_next rfl sc_law_next (fun _ _ _ _ _ _ us hl => match us, hl with | [_], _ => rfl) len1 (fun cdv A outer s H vs Q E hr h => ?_)
  have nd := sc_law_next.nd
  obtain ⟨x, rfl, o, b, s, rfl, ho, hw, hok, hz, k0, k1⟩ := h
  refine ⟨_, (pss_cons (ps_set (i := 1) nd rfl (Or.inl rfl) (pe_callB (cr_sortedD hr.units) (by rfl) T.f_sorted (by decide +kernel) (pa_cons (pe_lc (own := [("time", 2), ("way", 3), ("boat", 4)]) (by rfl) nd (pi_list (pe_dget (ru1 hr) (pv 0) pe_str (fun _ _ => rfl))) (blkOk_by (own := [("time", 2), ("way", 3), ("boat", 4)]) (N := ["own", "rows", "time", "way", "boat"]) (sc := defScope s_law_next) (by decide +kernel)) (fun _ _ _ _ _ => PG.at_ (pg_tup (n := 3) rfl (pgs_cons (pg_name (i := 2) nd rfl (.inl rfl)) (pgs_cons (pg_name (i := 3) nd rfl (.inl rfl)) (pgs_cons (pg_name (i := 4) nd rfl (.inl rfl)) pgs_nil)))) (by walk_at "bk")) (fun _ _ _ _ _ => PTs.at_ (pts_nil) (by walk_at "bk")) (fun _ _ _ _ _ => PE.at_ (pe_tup (pa_cons (pv 2) (pa_cons (pe_callTy call_int1 (by rfl) T.f_int (by decide +kernel) (pa_cons (pe_cmpR op_ne (pe_cmpR op_eq (pv 3) pe_str (nomark _)) (pe_cmpR op_eq (pe_dget (ru1 hr) (pv 0) pe_str (fun _ _ => rfl)) pe_str (nomark _)) (nomark _)) pa_nil)) (pa_cons (pv 4) (pa_cons (pv 3) pa_nil))))) (by walk_at "bk"))) pa_nil)))
      (pss_one (ps_ret (pe_ifExp (pt_cmpR (op_neD hr.units) (pv 1) (pe_lst pa_nil) (nomark _)) (pe_tup (pa_cons (pe_ix ix_tup (pe_ix ix_list (pv 1) pe_int (fun _ _ => rfl)) pe_int (fun _ _ => rfl)) (pa_cons (pe_ix ix_tup (pe_ix ix_list (pv 1) pe_int (fun _ _ => rfl)) pe_int (fun _ _ => rfl)) (pa_cons (pe_ix ix_tup (pe_ix ix_list (pv 1) pe_int (fun _ _ => rfl)) pe_int (fun _ _ => rfl)) pa_nil)))) pe_non)))), ?_⟩
  obtain ⟨pl, e1, hl, hr⟩ := hw
  have hpl : pl.length = s.rs.length := by rw [← e1, List.length_map]
  refine ⟨_, rfl, _, _, rfl, own_rows ho, _, rfl, ⟨_, SqL.of hl⟩, fun D nD => ?_⟩
  refine lcO walk_list (FL K) (fun i => .tup (((s.rs[i]?).map (keyV s.side)).getD [])) (fun _ _ z => by cases z) (by rw [List.length_map, hpl]; exact Nat.le_trans hz line1000) nD (fun H' f => SqL.of (f.l hl (by simp))) (fun i x H' R hx f hR => ?_) (fun H' as hD hlen hA hn hw f => ?_)
  · obtain ⟨q, hq, rfl⟩ := map_get hx
    have hq2 : s.rs[i]? = some q.2 := by rw [← e1, List.getElem?_map, hq] <;> rfl
    have ht := f.t (hr q (List.mem_of_getElem? hq)) (by simp)
    have ho' := f.d ho (by simp)
    rw [hq2] at hR
    refine ⟨_, _, rfl, SqT.of ht, rfl, _, _, rfl, _, _, rfl, _, _, rfl, rfl, hR _ rfl ?_⟩
    have et : (if (!decide (V.bl (decide (V.str q.2.way = V.str "down")) = V.bl (decide (V.str s.side = V.str "up")))) = true then (1 : Int) else 0) = turnS s.side q.2.way := by
      unfold turnS rdy
      by_cases h1 : q.2.way = "down" <;> by_cases h2 : s.side = "up" <;> simp [h1, h2]
    exact tup_o (vs := keyV s.side q.2) (cons_t (fun _ k => ⟨_, rfl, k⟩) (cons_t (fun _ k => ⟨_, rfl, rfl, _, rfl, _, _, rfl, own_side ho', rfl, rfl, .inr ⟨_, rfl, et ▸ k⟩⟩) (cons_t (fun _ k => ⟨_, rfl, k⟩) (cons_t (fun _ k => ⟨_, rfl, k⟩) nil_t)))) (by walk_at "few")
  · rw [List.length_map, hpl] at hlen
    have hA2 : ∀ (i : Nat) (a : Addr) (r : Rw), as[i]? = some a → s.rs[i]? = some r → H' a = some (.tup (keyV s.side r)) := fun i a r h1 h2 => by
      have := hA i a h1
      rw [h2] at this
      exact this
    have hz1 : (as.zip s.rs).map Prod.fst = as := List.map_fst_zip (by omega)
    have hz2 : (as.zip s.rs).map Prod.snd = s.rs := List.map_snd_zip (by omega)
    have hb1 : ((as.zip s.rs).map fun z => (V.ref z.1, dKey s.side z.2)).map (·.1) = as.map V.ref := by
      conv => rhs; rw [← hz1]
      rw [List.map_map, List.map_map] <;> rfl
    have hb2 : ((as.zip s.rs).map fun z => (V.ref z.1, dKey s.side z.2)).map (·.2) = s.rs.map (dKey s.side) := by
      conv => rhs; rw [← hz2]
      rw [List.map_map, List.map_map] <;> rfl
    have hbm : ∀ x ∈ (as.zip s.rs).map fun z => (V.ref z.1, dKey s.side z.2), ∃ a r, x = (V.ref a, dKey s.side r) ∧ r ∈ s.rs ∧ H' a = some (.tup (keyV s.side r)) := fun x hx => by
      obtain ⟨z, hz, rfl⟩ := List.mem_map.mp hx
      obtain ⟨i, hi⟩ := List.getElem?_of_mem hz
      obtain ⟨h1, h2⟩ := List.getElem?_zip_eq_some.mp hi
      exact ⟨z.1, z.2, rfl, List.mem_of_getElem? h2, hA2 i _ _ h1 h2⟩
    have hbl : ((as.zip s.rs).map fun z => (V.ref z.1, dKey s.side z.2)).length = s.rs.length := by
      rw [← List.length_map (f := (·.2)), hb2, List.length_map]
    generalize ((as.zip s.rs).map fun z => (V.ref z.1, dKey s.side z.2)) = bs at *
    refine ⟨D, bs, rfl, SqL.of (by rw [hb1]; exact hD), ?_, ?_, ?_, ?_, fun x hx => ?_, fun p np => gname_ap (nx_ap ?_)⟩
    · rw [hb1, hb2]
      exact dp_objs hlen fun i a r h1 h2 => dKey_dp (hA2 i a r h1 h2)
    · rw [hb2]
      exact PySem.W.AllAlike.of fun a b => dKey_alike _ _ _
    · rw [hb2]
      exact PySem.W.Sortable.tuples fun r => ⟨_, _, rfl⟩
    · rw [hbl]
      exact Nat.le_trans hz line1000
    · obtain ⟨a, r, rfl, _, _⟩ := hbm x hx
      have := dKey_depth s.side r
      show (dKey s.side r).depth ≤ 8
      omega
    · have hsm : ∀ x ∈ bs.mergeSort (PySem.W.dataLe false Prod.snd), x ∈ bs := fun x hx => List.mem_mergeSort.mp hx
      have hsl : (bs.mergeSort (PySem.W.dataLe false Prod.snd)).length = s.rs.length := by rw [List.length_mergeSort, hbl]
      have hsh : ∀ h t, bs.mergeSort (PySem.W.dataLe false Prod.snd) = h :: t → ∀ x ∈ bs, PySem.W.dataLt x.2 h.2 = false := fun h t e => sorted_head Prod.snd e
      generalize bs.mergeSort (PySem.W.dataLe false Prod.snd) = S at *
      have f2 : Fr (FL K) [] H' (upd H' p (.lst (S.map (·.1)))) := .new np
      have hp : upd H' p (.lst (S.map (·.1))) p = some (.lst (S.map (·.1))) := upd_same
      generalize upd H' p (.lst (S.map (·.1))) = H2 at *
      refine ⟨_, rfl, by walk_at "few", fun pN nN => ?_⟩
      have f3 : Fr (FL K) [] H2 (upd H2 pN (.lst [])) := .new nN
      have hN : upd H2 pN (.lst []) pN = some (.lst []) := upd_same
      have hp3 := f3.l hp (by simp)
      have f13 := f2.trans f3
      generalize upd H2 pN (.lst []) = H3 at *
      refine ⟨.list (S.map (·.2)), .list [], .lst (SqL.of hp3) (dpAll_map fun x hx => ?_), .lst (SqL.of hN) .nil, shaped_list (fun x hx => ?_) (fun x hx => ?_), by decide +kernel, _, rfl, ?_⟩
      · obtain ⟨a, r, rfl, _, ha⟩ := hbm x (hsm x hx)
        exact dKey_dp (f13.t ha (by simp))
      · obtain ⟨a, r, rfl, hr, _⟩ := hbm x (hsm x hx)
        exact dKey_can (hok r hr)
      · obtain ⟨a, r, rfl, _, _⟩ := hbm x (hsm x hx)
        have := dKey_depth s.side r
        show (dKey s.side r).depth ≤ 60
        omega
      · cases S with
        | nil =>
          refine ite_no (by simp [PyData.eqv, PyData.eqvAll]) ?_
          exact k0 (List.eq_nil_of_length_eq_zero hsl.symm) _ (f.trans f13)
        | cons h t =>
          refine ite_yes (by simp [PyData.eqv, PyData.eqvAll]) ?_
          obtain ⟨a, r, rfl, hr, ha⟩ := hbm h (hsm h (List.mem_cons_self ..))
          have ha3 := f13.t ha (by simp)
          have hih : IsHead s.side s.rs r := by
            refine ⟨hr, fun r' hr' => ?_⟩
            have : dKey s.side r' ∈ bs.map (·.2) := by
              rw [hb2]
              exact List.mem_map.mpr ⟨r', hr', rfl⟩
            obtain ⟨x, hx, ex⟩ := List.mem_map.mp this
            rw [← ex]
            exact hsh _ _ rfl x hx
          have e0 : atI (List.map (fun x => x.1) ((V.ref a, dKey s.side r) :: t)) ((0 : Nat) : Int) = some (V.ref a) := atI_nat rfl
          refine ⟨_, rfl, _, _, _, _, rfl, rfl, SqL.of hp3, e0, _, _, _, _, rfl, rfl, SqT.of ha3, rfl, _, rfl, _, _, _, _, rfl, rfl, SqL.of hp3, e0, _, _, _, _, rfl, rfl, SqT.of ha3, rfl, _, rfl, _, _, _, _, rfl, rfl, SqL.of hp3, e0, _, _, _, _, rfl, rfl, SqT.of ha3, rfl, by walk_at "few", fun pT nT => ?_⟩
          exact k1 r _ pT hih ((f.trans f13).trans (.new nT)) upd_same (Nw.of (f.trans f13) nT (by simp))
end
end K2
namespace K2
open PySem PySem.Spec PyProof.Rows L2 Cn LamX
local macro_rules | `(tactic| walk_at "few") => `(tactic| exact Nat.le_of_ble_eq_true rfl)
local macro_rules | `(tactic| walk_at "ne") => `(tactic| first | assumption | (apply Ne.symm; assumption) | exact ne_of_none (by assumption) (by assumption) | exact (ne_of_none (by assumption) (by assumption)).symm)
local macro_rules | `(tactic| walk_at "hf") => `(tactic| first | assumption | exact upd_same | (refine Eq.trans (upd_ne (by walk_at "ne")) ?_; walk_at "hf"))
local macro_rules | `(tactic| walk_at "bk") => `(tactic| first | (dsimp only [blk_K, blk_w, blk_prog]; done) | exact rfl | (dsimp only [blk_K, blk_w, blk_prog]; exact rfl))
local macro_rules | `(tactic| walk_at "ht") => `(tactic| exact SqT.of (by walk_at "hf"))
local macro_rules | `(tactic| walk_at "at") => `(tactic| first | exact atI_nat (by assumption) | rfl)
local macro_rules | `(tactic| walk_at "nz") => `(tactic| first | omega | exact ⟨by omega, by omega⟩)
local macro_rules | `(tactic| walk_at "ix") => `(tactic| first | assumption | rfl)
local macro_rules | `(tactic| walk_at "sq") => `(tactic| first | exact .inl (SqL.of (by walk_at "hf")) | exact .inr (SqT.of (by walk_at "hf")))
/-! ### the plain cases -/
def da0 : Arguments := defArgs s_law_plain
def ds0 : Scope := defScope s_law_plain
def lamE (i : Nat) : Expr := (listEs ((defBody s_law_plain).getD 2 (.Pass ⟨0, 0, 0, 0⟩))).getD i (.Name "x" ⟨0, 0, 0, 0⟩)
def s0 : LkS := ⟨5, "down", [⟨0, "up", "a"⟩], none, none, 0, 0⟩
def tPl (K : PySem.W.Frag) (E : XK) : TE := fun σ H _ => ∃ p : LkP, σ[0]? = some (some (.ref p.a)) ∧ LockAt K H p s0 ∧ Tabs (FL K) H ∧ ∀ H', Fr (FL K) [] H H' → E (LErr K) none H'
def spPlain (K : PySem.W.Frag) : Sp := Sp0 fun H Q _ => Tabs (FL K) H ∧ ∀ H', Fr (FL K) [] H H' → Q (.bl true) H'
section
variable {P : Program} {w : World} {K : PySem.W.Frag} {mg : Str → Option Value} {base : Heap}
theorem plain_body (T : Txt K mg base) (A : Around) (outer : List Env) (s : Shared) (H : Hp) (E : XK) : ∀ (i : Fin 10) (A' : Around) (outer' : List Env) (s' : Shared) (H' : Hp) (E' : XK) (f c' : Addr), Room 6 (A'.deeper (lamEnv (cxOf (L2.CX P w) P w K mg base ["lock", "bad", "f"] d_law_plain.qual d_law_plain.scope (He.fAd K d_law_plain.at_) (.ref (He.cT K d_law_plain.at_).1) A outer s H E) (lamSc ds0 (lamE i.1)) s'.heap.objs.size f c')) →
      PE (lamCx (cxOf (L2.CX P w) P w K mg base ["lock", "bad", "f"] d_law_plain.qual d_law_plain.scope (He.fAd K d_law_plain.at_) (.ref (He.cT K d_law_plain.at_).1) A outer s H E) A' outer' s' H' E' (lamSc ds0 (lamE i.1)) f c') (lamBd (lamE i.1)) (tPl K E') := by
    rintro ⟨i, hi⟩ A' outer' s' H' E' f c' hr
    match i, hi with
    | 0, _ => exact PE.weak (pe_mkD T.m_Lock (ok_Lock_init_1 T) hr (by decide) letsL T.g_Lock (pa_cons pe_int pa_nil)) (fun σ H Q ⟨p, h0, ha, ht, hE⟩ => fun x dx nx ndx hne => ⟨_, _, _, rfl, x, dx, 0, "down", rfl, rfl, rfl, upd_same, fun _ H' f => hE _ ((Fr.make nx ndx hne).trans f), fun z => absurd z (by decide +kernel)⟩)
    | 1, _ => exact PE.weak (pe_mk T.m_Lock (ok_Lock_init T) hr (by decide) letsL T.g_Lock (pa_cons pe_int (pa_cons pe_str pa_nil))) (fun σ H Q ⟨p, h0, ha, ht, hE⟩ => fun x dx nx ndx hne => ⟨_, _, _, rfl, x, dx, 1, "left", rfl, rfl, rfl, upd_same, fun _ H' f => hE _ ((Fr.make nx ndx hne).trans f), fun z => absurd z (by decide +kernel)⟩)
    | 2, _ => exact PE.weak (pe_mt (pv 0) T.k_Lock T.me_Lock_join (ok_Lock_join T) hr (by decide) letsL (pa_cons pe_int (pa_cons pe_str (pa_cons pe_str pa_nil)))) (fun σ H Q ⟨p, h0, ha, ht, hE⟩ => ⟨_, h0, _, _, _, rfl, ha.o, nm_Lock_join _, _, _, _, _, rfl, p, s0, 1, "up", "a", rfl, rfl, rfl, rfl, by decide +kernel, ha, ht, by decide, fun _ H' f => hE _ f, fun z => absurd z (by decide +kernel)⟩)
    | 3, _ => exact PE.weak (pe_mt (pv 0) T.k_Lock T.me_Lock_join (ok_Lock_join T) hr (by decide) letsL (pa_cons pe_int (pa_cons pe_str (pa_cons pe_str pa_nil)))) (fun σ H Q ⟨p, h0, ha, ht, hE⟩ => ⟨_, h0, _, _, _, rfl, ha.o, nm_Lock_join _, _, _, _, _, rfl, p, s0, 1, "out", "b", rfl, rfl, rfl, rfl, by decide +kernel, ha, ht, by decide, fun _ H' f => hE _ f, fun z => absurd z (by decide +kernel)⟩)
    | 4, _ => exact PE.weak (pe_mt (pv 0) T.k_Lock T.me_Lock_begin (ok_Lock_begin T) hr (by decide) letsL (pa_cons (pe_tup (pa_cons pe_int (pa_cons pe_str (pa_cons pe_str pa_nil)))) pa_nil)) (fun σ H Q ⟨p, h0, ha, ht, hE⟩ => ⟨_, h0, _, _, _, rfl, ha.o, nm_Lock_begin _, by walk_at "few", fun q nq => ⟨_, _, rfl, p, s0, q, ⟨5, "up", "a"⟩, rfl, rfl, ha.fr0 (T := FL K) (.new nq), upd_same, by decide +kernel, fun _ => hE _ (.new nq), fun z => absurd z (by decide +kernel)⟩⟩)
    | 5, _ => exact PE.weak (pe_fn (ok_water_for T) hr (by decide) letsL T.g_water_for (pa_cons (pe_lst (pa_cons pe_str pa_nil)) (pa_cons pe_int (pa_cons pe_str pa_nil)))) (fun σ H Q ⟨p, h0, ha, ht, hE⟩ => ⟨by walk_at "few", fun q nq => ⟨_, _, _, rfl, q, [("out" : Str)], 1, "up", rfl, rfl, rfl, .inl upd_same, (Fr.new nq : Fr (FL K) [] _ _).tab ht, by decide, by decide +kernel, fun _ H' f => hE _ ((Fr.new nq).trans f), fun z => absurd z (by decide +kernel)⟩⟩)
    | 6, _ => exact PE.weak (pe_fn (ok_water_for T) hr (by decide) letsL T.g_water_for (pa_cons (pe_lst pa_nil) (pa_cons pe_int (pa_cons pe_str pa_nil)))) (fun σ H Q ⟨p, h0, ha, ht, hE⟩ => ⟨by walk_at "few", fun q nq => ⟨_, _, _, rfl, q, [], 0, "up", rfl, rfl, rfl, .inl upd_same, (Fr.new nq : Fr (FL K) [] _ _).tab ht, by decide, by decide +kernel, fun _ H' f => hE _ ((Fr.new nq).trans f), fun z => absurd z (by decide +kernel)⟩⟩)
    | 7, _ => exact PE.weak (pe_fn (ok_best_ways T) hr (by decide) letsL T.g_best_ways (pa_cons (pe_un un_neg pe_int) (pa_cons pe_int (pa_cons pe_str pa_nil)))) (fun σ H Q ⟨p, h0, ha, ht, hE⟩ => ⟨_, rfl, _, _, _, rfl, (-1), 0, "up", rfl, rfl, rfl, ht, fun _ H' f => hE _ f, fun z => absurd z (by decide +kernel)⟩)
    | 8, _ => exact PE.weak (pe_fn (ok_best_ways T) hr (by decide) letsL T.g_best_ways (pa_cons pe_int (pa_cons pe_int (pa_cons pe_str pa_nil)))) (fun σ H Q ⟨p, h0, ha, ht, hE⟩ => ⟨_, _, _, rfl, (6), 5, "up", rfl, rfl, rfl, ht, fun _ H' f => hE _ f, fun z => absurd z (by decide +kernel)⟩)
    | 9, _ => exact PE.weak (pe_fn (ok_best_ways T) hr (by decide) letsL T.g_best_ways (pa_cons pe_int (pa_cons pe_int (pa_cons pe_str pa_nil)))) (fun σ H Q ⟨p, h0, ha, ht, hE⟩ => ⟨_, _, _, rfl, (1), 1, "left", rfl, rfl, rfl, ht, fun _ H' f => hE _ f, fun z => absurd z (by decide +kernel)⟩)
    | n + 10, h => exact absurd h (by omega)
theorem plain_L : ∀ i : Fin 10, lamSB d_law_plain.scope (lamSc ds0 (lamE i.1)) = true := by decide +kernel
theorem plain_bind : ∀ (i : Fin 10) (q : Str) (cl : List (Str × Addr)) (pm cv ctv : Value), bindArgs (PySem.W.kla_fn "<lambda>" q (lamPr da0 (lamE i.1)) (lamBd (lamE i.1)) (lamSc ds0 (lamE i.1)) cl pm cv ctv) ⟨[], []⟩ = pure [] := by
    rintro ⟨i, hi⟩ q cl pm cv ctv
    match i, hi with
    | 0, _ => rfl
    | 1, _ => rfl
    | 2, _ => rfl
    | 3, _ => rfl
    | 4, _ => rfl
    | 5, _ => rfl
    | 6, _ => rfl
    | 7, _ => rfl
    | 8, _ => rfl
    | 9, _ => rfl
    | n + 10, h => exact absurd h (by omega)
end
end K2
namespace K2
open PySem PySem.Spec PyProof.Rows L2 Cn LamX
local macro_rules | `(tactic| walk_at "few") => `(tactic| exact Nat.le_of_ble_eq_true rfl)
local macro_rules | `(tactic| walk_at "ne") => `(tactic| first | assumption | (apply Ne.symm; assumption) | exact ne_of_none (by assumption) (by assumption) | exact (ne_of_none (by assumption) (by assumption)).symm)
local macro_rules | `(tactic| walk_at "hf") => `(tactic| first | assumption | exact upd_same | (refine Eq.trans (upd_ne (by walk_at "ne")) ?_; walk_at "hf"))
local macro_rules | `(tactic| walk_at "bk") => `(tactic| first | (dsimp only [blk_K, blk_w, blk_prog]; done) | exact rfl | (dsimp only [blk_K, blk_w, blk_prog]; exact rfl))
local macro_rules | `(tactic| walk_at "ht") => `(tactic| exact SqT.of (by walk_at "hf"))
local macro_rules | `(tactic| walk_at "at") => `(tactic| first | exact atI_nat (by assumption) | rfl)
local macro_rules | `(tactic| walk_at "nz") => `(tactic| first | omega | exact ⟨by omega, by omega⟩)
local macro_rules | `(tactic| walk_at "ix") => `(tactic| first | assumption | rfl)
local macro_rules | `(tactic| walk_at "sq") => `(tactic| first | exact .inl (SqL.of (by walk_at "hf")) | exact .inr (SqT.of (by walk_at "hf")))
section
variable {P : Program} {w : World} {K : PySem.W.Frag} {mg : Str → Option Value} {base : Heap}
theorem ok_law_plain (T : Txt K mg base) : Pr P w K mg base 9 (He.fAd K ("_law_plain", none)) [] (spPlain K) := by
  refine mk_prT T.d_law_plain rfl sc_law_plain (fun _ _ _ _ _ _ us hl => match us, hl with | [], _ => rfl) len0 (fun A outer s H vs Q E hr h => ?_)
  have nd := sc_law_plain.nd
  have hbody := plain_body T A outer s H E (P := P) (w := w)
  obtain ⟨rfl, ht, k⟩ := h
  refine ⟨_, (pss_cons (ps_set (i := 0) nd rfl (Or.inr rfl) (pe_mkD T.m_Lock (ok_Lock_init_1 T) hr (by decide) lets T.g_Lock (pa_cons pe_int pa_nil)))
      (pss_cons (ps_expr (pe_mt (pv 0) T.k_Lock T.me_Lock_join (ok_Lock_join T) hr (by decide) lets (pa_cons pe_int (pa_cons pe_str (pa_cons pe_str pa_nil)))))
      (pss_cons (ps_set (i := 1) nd rfl (Or.inl rfl) (pe_lst (pa_cons (pe_lam (T.tb _ tm_law_plain) rfl tl_law_plain (tab_uniq T.nt tl_law_plain) (by rfl) rfl) (pa_cons (pe_lam (T.tb _ tm_law_plain) rfl tl_law_plain (tab_uniq T.nt tl_law_plain) (by rfl) rfl) (pa_cons (pe_lam (T.tb _ tm_law_plain) rfl tl_law_plain (tab_uniq T.nt tl_law_plain) (by rfl) rfl) (pa_cons (pe_lam (T.tb _ tm_law_plain) rfl tl_law_plain (tab_uniq T.nt tl_law_plain) (by rfl) rfl) (pa_cons (pe_lam (T.tb _ tm_law_plain) rfl tl_law_plain (tab_uniq T.nt tl_law_plain) (by rfl) rfl) (pa_cons (pe_lam (T.tb _ tm_law_plain) rfl tl_law_plain (tab_uniq T.nt tl_law_plain) (by rfl) rfl) (pa_cons (pe_lam (T.tb _ tm_law_plain) rfl tl_law_plain (tab_uniq T.nt tl_law_plain) (by rfl) rfl) (pa_cons (pe_lam (T.tb _ tm_law_plain) rfl tl_law_plain (tab_uniq T.nt tl_law_plain) (by rfl) rfl) (pa_cons (pe_lam (T.tb _ tm_law_plain) rfl tl_law_plain (tab_uniq T.nt tl_law_plain) (by rfl) rfl) (pa_cons (pe_lam (T.tb _ tm_law_plain) rfl tl_law_plain (tab_uniq T.nt tl_law_plain) (by rfl) rfl) pa_nil))))))))))))
      (pss_one (ps_ret (pe_and (pe_cmpR (op_eqD hr.units) (pe_lcS (own := [("f", 2)]) (g := gName 2) nd (pi_list (pv 1)) (blkOk_by (own := [("f", 2)]) (N := ["lock", "bad", "f"]) (sc := defScope s_law_plain) (by decide +kernel)) (fun _ _ _ _ _ => pg_name (i := 2) nd rfl (.inl rfl)) (fun σ s H C cl fp B => pts_one (pt_cmpR op_ne (pe_toldB (ι := Fin 10) (k := 6) (params := fun i => lamPr da0 (lamE i.1)) (body := fun i => lamBd (lamE i.1)) (lsc := fun i => lamSc ds0 (lamE i.1)) (tb := fun _ E => tPl K E) B T.d_law_told rfl T.g_law_told rfl rfl (fun _ _ _ _ _ _ us hl => match us, hl with | [_], _ => rfl) sc_law_told rfl (fun _ => rfl) (.inl rfl) rfl rfl T.g_LockError rfl hr (by decide) plain_L plain_bind hbody 0 (pv 2) rfl) pe_str (nomark _))) (fun _ _ _ _ _ _ _ => pe_int)) (pe_lst pa_nil) (nomark _)) (pe_and (pe_cmpR (op_eqD hr.units) (pe_tup (pa_cons ((pe_gint T.c_TURN)) (pa_cons ((pe_gint T.c_PASS)) pa_nil))) (pe_tup (pa_cons pe_int (pa_cons pe_int pa_nil))) (nomark _)) (pe_and (pe_cmpR (op_eqD hr.units) (pe_fn (ok_water_for T) hr (by decide) lets T.g_water_for (pa_cons (pe_lst (pa_cons pe_str (pa_cons pe_str pa_nil))) (pa_cons pe_int (pa_cons pe_str pa_nil)))) (pe_tup (pa_cons pe_int (pa_cons pe_int pa_nil))) (nomark _)) (pe_and (pe_cmpR (op_eqD hr.units) (pe_fn (ok_best_ways T) hr (by decide) lets T.g_best_ways (pa_cons pe_int (pa_cons pe_int (pa_cons pe_str pa_nil)))) (pe_tup (pa_cons pe_int (pa_cons (pe_tup (pa_cons pe_str (pa_cons pe_str pa_nil))) pa_nil))) (nomark _)) (pe_one (pe_cmpR op_isN (pe_mt0 (pe_mkD T.m_Lock (ok_Lock_init_1 T) hr (by decide) lets T.g_Lock (pa_cons pe_int pa_nil)) T.k_Lock T.me_Lock_minute (ok_Lock_minute T) hr (by decide) lets) pe_non (nomark _)))))))))))), ?_⟩
  intro x dx nx ndx hne
  have fm : ∀ o, Fr (FL K) [] H (upd (upd H dx (.own x)) x o) := fun o => Fr.make nx ndx hne
  refine ⟨_, _, _, rfl, x, dx, 5, "down", rfl, rfl, rfl, upd_same, fun z => absurd z (by decide +kernel), fun _ wa H0 f0 L0 nw => ⟨rfl, nx_ap ?_⟩⟩
  have f00 : Fr (FL K) [] H H0 := (fm _).transW f0 fun b hb => .inr (by rw [List.mem_singleton.mp hb]; exact Nw.none nx)
  have l0 := L0.o
  refine ⟨_, rfl, _, _, _, rfl, l0, nm_Lock_join _, _, _, _, _, rfl, ⟨x, dx, wa⟩, _, 0, "up", "a", rfl, rfl, rfl, rfl, by decide +kernel, L0, f00.tab ht, by decide, fun z => absurd z (by decide +kernel), fun _ H1 f1 L1 => nx_ap ?_⟩
  have nwa : Nw H wa := by
    intro o ho
    by_cases z : ∃ ps, o = .tbl ps
    · exact z
    · exact nw o ((fm _).keep wa o ho (fun ps w => z ⟨ps, w⟩) (by simp))
  have f01 : Fr (FL K) [] H H1 := f00.transW f1 fun b hb => .inr (by rw [List.mem_singleton.mp hb]; exact nwa)
  have ha : LockAt K H1 ⟨x, dx, wa⟩ s0 := L1
  clear L1 L0 f0 f1 l0 nw f00
  have ht0 := f01.tab ht
  have f0 : Fr (FL K) [] H1 H1 := Fr.refl
  refine ⟨ht0, fun g0 c0 H0_ n0 e0 ht1 l0 k0 => ?_⟩
  have a1 := ((LamsAt.nil (H := H1)).snoc (da := da0) (ds := ds0) (E := lamE) e0 (f := g0) (c' := c0) l0 k0)
  have f1 := f0.trans (Fr.of_ext (T := FL K) (S := []) e0 fun _ => ht1)
  refine ⟨ht1, fun g1 c1 H1_ n1 e1 ht2 l1 k1 => ?_⟩
  have a2 := (a1.snoc (da := da0) (ds := ds0) (E := lamE) e1 (f := g1) (c' := c1) l1 k1)
  have f2 := f1.trans (Fr.of_ext (T := FL K) (S := []) e1 fun _ => ht2)
  refine ⟨ht2, fun g2 c2 H2_ n2 e2 ht3 l2 k2 => ?_⟩
  have a3 := (a2.snoc (da := da0) (ds := ds0) (E := lamE) e2 (f := g2) (c' := c2) l2 k2)
  have f3 := f2.trans (Fr.of_ext (T := FL K) (S := []) e2 fun _ => ht3)
  refine ⟨ht3, fun g3 c3 H3_ n3 e3 ht4 l3 k3 => ?_⟩
  have a4 := (a3.snoc (da := da0) (ds := ds0) (E := lamE) e3 (f := g3) (c' := c3) l3 k3)
  have f4 := f3.trans (Fr.of_ext (T := FL K) (S := []) e3 fun _ => ht4)
  refine ⟨ht4, fun g4 c4 H4_ n4 e4 ht5 l4 k4 => ?_⟩
  have a5 := (a4.snoc (da := da0) (ds := ds0) (E := lamE) e4 (f := g4) (c' := c4) l4 k4)
  have f5 := f4.trans (Fr.of_ext (T := FL K) (S := []) e4 fun _ => ht5)
  refine ⟨ht5, fun g5 c5 H5_ n5 e5 ht6 l5 k5 => ?_⟩
  have a6 := (a5.snoc (da := da0) (ds := ds0) (E := lamE) e5 (f := g5) (c' := c5) l5 k5)
  have f6 := f5.trans (Fr.of_ext (T := FL K) (S := []) e5 fun _ => ht6)
  refine ⟨ht6, fun g6 c6 H6_ n6 e6 ht7 l6 k6 => ?_⟩
  have a7 := (a6.snoc (da := da0) (ds := ds0) (E := lamE) e6 (f := g6) (c' := c6) l6 k6)
  have f7 := f6.trans (Fr.of_ext (T := FL K) (S := []) e6 fun _ => ht7)
  refine ⟨ht7, fun g7 c7 H7_ n7 e7 ht8 l7 k7 => ?_⟩
  have a8 := (a7.snoc (da := da0) (ds := ds0) (E := lamE) e7 (f := g7) (c' := c7) l7 k7)
  have f8 := f7.trans (Fr.of_ext (T := FL K) (S := []) e7 fun _ => ht8)
  refine ⟨ht8, fun g8 c8 H8_ n8 e8 ht9 l8 k8 => ?_⟩
  have a9 := (a8.snoc (da := da0) (ds := ds0) (E := lamE) e8 (f := g8) (c' := c8) l8 k8)
  have f9 := f8.trans (Fr.of_ext (T := FL K) (S := []) e8 fun _ => ht9)
  refine ⟨ht9, fun g9 c9 H9_ n9 e9 ht10 l9 k9 => ?_⟩
  have a10 := (a9.snoc (da := da0) (ds := ds0) (E := lamE) e9 (f := g9) (c' := c9) l9 k9)
  have f10 := f9.trans (Fr.of_ext (T := FL K) (S := []) e9 fun _ => ht10)
  refine ⟨by walk_at "few", fun D nD => ?_⟩
  refine nx_ap ?_
  have hD : upd H9_ D (.lst [.ref g0, .ref g1, .ref g2, .ref g3, .ref g4, .ref g5, .ref g6, .ref g7, .ref g8, .ref g9]) D = some (.lst [.ref g0, .ref g1, .ref g2, .ref g3, .ref g4, .ref g5, .ref g6, .ref g7, .ref g8, .ref g9]) := upd_same
  have fD : Fr (FL K) [] H1 (upd H9_ D (.lst [.ref g0, .ref g1, .ref g2, .ref g3, .ref g4, .ref g5, .ref g6, .ref g7, .ref g8, .ref g9])) := f10.trans (Fr.new nD)
  have aD := a10.ext (H1 := upd H9_ D (.lst [.ref g0, .ref g1, .ref g2, .ref g3, .ref g4, .ref g5, .ref g6, .ref g7, .ref g8, .ref g9])) (fun b o h _ => (upd_ne (ne_of_none h nD)).trans h)
  have haD := ha.fr0 fD
  have htD := fD.tab ht0
  clear a10 f10
  generalize upd H9_ D (.lst [.ref g0, .ref g1, .ref g2, .ref g3, .ref g4, .ref g5, .ref g6, .ref g7, .ref g8, .ref g9]) = Hd at *
  refine ⟨_, rfl, _, rfl, ⟨_, SqL.of hD⟩, fun D2 nD2 => ?_⟩
  refine lc_list (fun i H' => Fr (FL K) [] Hd H' ∧ H' D2 = some (.lst [])) ⟨Fr.new nD2, upd_same⟩ (fun i H' _ h => SqL.of (h.1.l hD (by simp))) ?_ ?_
  · rintro i y H' hy ⟨f, hD2⟩
    obtain ⟨g, hg, rfl⟩ := map_get (f := V.ref) (l := [g0, g1, g2, g3, g4, g5, g6, g7, g8, g9]) hy
    have hi : i < 10 := (List.getElem?_eq_some_iff.mp hg).1
    obtain ⟨c', hl, hc⟩ := aD i g hg
    refine ⟨rfl, ?_⟩
    refine ⟨_, rfl, ⟨i, hi⟩, g, c', rfl, f.keep g _ hl (fun ps => lamO_ne ps) (by simp), f.keep c' _ hc (fun ps z => by unfold CodeO at z; cases z) (by simp), ⟨x, dx, wa⟩, rfl, haD.fr0 f, f.tab htD, fun H3 f3 => ⟨true, T.x_LockError_LockError, fun _ => ⟨rfl, _, rfl, ite_no (ne_same _) ⟨f.trans f3, f3.l hD2 (by simp)⟩⟩, fun z => by cases z⟩⟩
  rintro H2 ⟨f2, hD2⟩
  have ha2 := haD.fr0 f2
  have g2 : Fr (FL K) [] H H2 := f01.trans (fD.trans f2)
  refine ⟨by walk_at "few", fun p np => ⟨.list [], .list [], .lst (SqL.of ((upd_ne (ne_of_none hD2 np)).trans hD2)) .nil, .lst (SqL.of upd_same) .nil, rfl, rfl, _, rfl, ite_yes (by decide +kernel) ?_⟩⟩
  have g3 := g2.trans (Fr.new np (o := .lst []))
  clear g2 ha2
  generalize upd H2 p (.lst []) = H3 at *
  refine ⟨by walk_at "few", fun pA nA => ⟨by walk_at "few", fun pB nB => ⟨.tuple [.int 12, .int 6], .tuple [.int 12, .int 6], .tup (SqT.of ((upd_ne (ne_of_none upd_same nB)).trans upd_same)) (.cons (.int _) (.cons (.int _) .nil)), .tup (SqT.of upd_same) (.cons (.int _) (.cons (.int _) .nil)), by decide +kernel, by decide +kernel, _, rfl, ite_yes (by decide +kernel) ?_⟩⟩⟩
  have g5 := g3.trans ((Fr.new nA (o := .tup [.int 12, .int 6])).trans (Fr.new nB (o := .tup [.int 12, .int 6])))
  clear nA nB
  generalize upd (upd H3 pA (.tup [.int 12, .int 6])) pB (.tup [.int 12, .int 6]) = H5 at *
  refine ⟨by walk_at "few", fun q nq => ⟨_, _, _, rfl, q, [("down" : Str), ("up" : Str)], 10, "up", rfl, rfl, rfl, .inl upd_same, (g5.trans (Fr.new nq)).tab ht, by decide, by decide +kernel, fun z => absurd z (by decide +kernel), fun _ H6 q6 f6 hq6 _ => ?_⟩⟩
  have g6 := (g5.trans (Fr.new nq)).trans f6
  refine ⟨by walk_at "few", fun pC nC => ⟨.tuple [.int 10, .int 2], .tuple [.int 10, .int 2], .tup (SqT.of ((upd_ne (ne_of_none hq6 nC)).trans hq6)) (.cons (.int _) (.cons (.int _) .nil)), .tup (SqT.of upd_same) (.cons (.int _) (.cons (.int _) .nil)), by decide +kernel, by decide +kernel, _, rfl, ite_yes (by decide +kernel) ?_⟩⟩
  have g7 := g6.trans (Fr.new nC (o := .tup [.int 10, .int 2]))
  generalize upd H6 pC (.tup [.int 10, .int 2]) = H7 at *
  refine ⟨_, _, _, rfl, 1, 1, "up", rfl, rfl, rfl, g7.tab ht, fun z => absurd z (by decide +kernel), fun _ H8 q8 t8 ws f8 hbw hm hd => ?_⟩
  have g8 := g7.trans f8
  have eW : allW (1 : Int).toNat (1 : Int).toNat = [[("down" : Str), "up"], ["up", "down"]] := by
    show allW 1 1 = _
    simp [allW]
  have hwo : ∀ w ∈ ws, isSide w = true := ((allW_len 2 1 1 rfl).2 ws hm).2
  rw [eW] at hd
  have he : PyData.eqv (dBW "up" ws) (.tuple [.int 2, .tuple [.str "down", .str "up"]]) = true := by
    rw [hd]
    decide +kernel
  clear f8 g7 g6 f6 hq6
  refine ⟨by walk_at "few", fun pE nE => ⟨by walk_at "few", fun pF nF => ?_⟩⟩
  have g9 := g8.trans ((Fr.new nE).trans (Fr.new nF (o := .tup [.int 2, .ref pE])))
  have hb9 : BwAt (upd (upd H8 pE (.tup [.str "down", .str "up"])) pF (.tup [.int 2, .ref pE])) "up" q8 t8 ws := ⟨((Fr.new nE).trans (Fr.new nF) : Fr (FL K) [] _ _).t hbw.1 (by simp), ((Fr.new nE).trans (Fr.new nF) : Fr (FL K) [] _ _).t hbw.2 (by simp)⟩
  have hE9 : upd (upd H8 pE (.tup [.str "down", .str "up"])) pF (.tup [.int 2, .ref pE]) pE = some (.tup [.str "down", .str "up"]) := (upd_ne (ne_of_none upd_same nF)).trans upd_same
  have hF9 : upd (upd H8 pE (.tup [.str "down", .str "up"])) pF (.tup [.int 2, .ref pE]) pF = some (.tup [.int 2, .ref pE]) := upd_same
  generalize upd (upd H8 pE (.tup [.str "down", .str "up"])) pF (.tup [.int 2, .ref pE]) = H9 at *
  refine ⟨_, _, hb9.dp, .tup (SqT.of hF9) (.cons (.int _) (.cons (.tup (SqT.of hE9) (.cons (.str _) (.cons (.str _) .nil))) .nil)), shaped_of (dBW_can hwo) (by have := dBW_depth "up" ws; omega), by decide +kernel, _, rfl, ite_yes he ?_⟩
  intro x2 dx2 nx2 ndx2 hne2
  refine ⟨_, _, _, rfl, x2, dx2, 5, "down", rfl, rfl, rfl, upd_same, fun z => absurd z (by decide +kernel), fun _ wa2 H10 f10 L10 nw10 => ⟨rfl, ?_⟩⟩
  have g10 := g9.trans (((Fr.make nx2 ndx2 hne2).transW f10 fun b hb => .inr (by rw [List.mem_singleton.mp hb]; exact Nw.none nx2)))
  exact ⟨_, _, _, rfl, L10.o, nm_Lock_minute _, _, rfl, ⟨x2, dx2, wa2⟩, _, rfl, L10, fun _ => ⟨rfl, k _ g10⟩, fun z => absurd rfl z, fun z => absurd rfl z⟩
end
end K2
namespace K2
open PySem PySem.Spec PyProof.Rows L2 Cn LamX
local macro_rules | `(tactic| walk_at "few") => `(tactic| exact Nat.le_of_ble_eq_true rfl)
local macro_rules | `(tactic| walk_at "ne") => `(tactic| first | assumption | (apply Ne.symm; assumption) | exact ne_of_none (by assumption) (by assumption) | exact (ne_of_none (by assumption) (by assumption)).symm)
local macro_rules | `(tactic| walk_at "hf") => `(tactic| first | assumption | exact upd_same | (refine Eq.trans (upd_ne (by walk_at "ne")) ?_; walk_at "hf"))
local macro_rules | `(tactic| walk_at "bk") => `(tactic| first | (dsimp only [blk_K, blk_w, blk_prog]; done) | exact rfl | (dsimp only [blk_K, blk_w, blk_prog]; exact rfl))
local macro_rules | `(tactic| walk_at "ht") => `(tactic| exact SqT.of (by walk_at "hf"))
local macro_rules | `(tactic| walk_at "at") => `(tactic| first | exact atI_nat (by assumption) | rfl)
local macro_rules | `(tactic| walk_at "nz") => `(tactic| first | omega | exact ⟨by omega, by omega⟩)
local macro_rules | `(tactic| walk_at "ix") => `(tactic| first | assumption | rfl)
local macro_rules | `(tactic| walk_at "sq") => `(tactic| first | exact .inl (SqL.of (by walk_at "hf")) | exact .inr (SqT.of (by walk_at "hf")))
local macro_rules | `(tactic| walk_at "dg") => `(tactic| first | exact own_side (by assumption) | exact own_rows (by assumption) | exact own_boat (by assumption) | exact own_way (by assumption) | exact own_left (by assumption) | exact own_turns (by assumption))
local macro_rules | `(tactic| walk_at "dp") => `(tactic| first | exact own_pside (by assumption) | exact own_prows (by assumption) | exact own_pboat (by assumption) | exact own_pway (by assumption) | exact own_pleft (by assumption) | exact own_pturns (by assumption))
/-! what stands while the law runs -/
structure St0 (K : PySem.W.Frag) (H : Hp) (l pd : Addr) : Prop where
  dice : ∃ a b d, H pd = some (DiceO a b d)
  l : H l = some (.lst [.ref pd])
  tabs : Tabs (FL K) H
theorem St0.fr {K : PySem.W.Frag} {H H' : Hp} {l pd : Addr} {S : List Addr} (s : St0 K H l pd) (f : Fr (FL K) S H H') (h1 : l ∉ S) (h2 : pd ∉ S) : St0 K H' l pd := by
  obtain ⟨a, b, d, h⟩ := s.dice
  exact ⟨⟨a, b, d, f.l h h2⟩, f.l s.l h1, f.tab s.tabs⟩
theorem St0.ne {K : PySem.W.Frag} {H : Hp} {l pd : Addr} (s : St0 K H l pd) : l ≠ pd := fun e => by
  obtain ⟨a, b, d, h⟩ := s.dice
  have := s.l
  rw [e, h] at this
  cases this
theorem St0.roll {K : PySem.W.Frag} {H : Hp} {l pd : Addr} (s : St0 K H l pd) {a b d : Int} : St0 K (upd H pd (DiceO a b d)) l pd := by
  have n := s.ne
  obtain ⟨a', b', d', h⟩ := s.dice
  exact ⟨⟨a, b, d, upd_same⟩, (upd_ne n).trans s.l, (Fr.upd (S := [pd]) h rfl (List.mem_singleton.mpr rfl)).tab s.tabs⟩
/-- what holds of the lock's state -/
structure GdS (s : LkS) : Prop where
  nd : s.rs.Nodup
  sd : isSide s.side = true
  rw : ∀ r ∈ s.rs, isSide r.way = true
  bw : (s.boat = none ∧ s.way = none) ∨ ∃ b w, s.boat = some b ∧ s.way = some w ∧ 1 ≤ s.left ∧ isSide w = true ∧ PyData.strOk b = true
structure St2 (K : PySem.W.Frag) (H : Hp) (l pd : Addr) (p : LkP) (o b : Addr) (s t : LkS) : Prop where
  b0 : St0 K H l pd
  lk : LockAt K H p s
  o : H o = some (.dK (ownD b t))
  w : RwsAt H b t.rs
  k : ∀ r ∈ t.rs, okR r = true
  n1 : l ≠ p.wa
  n2 : pd ≠ p.wa
  n3 : b ≠ p.wa
section
variable {K : PySem.W.Frag} {H H' : Hp} {l pd : Addr} {p : LkP} {o b b' : Addr} {s s' t t' : LkS}
theorem RwsAt.list {wa : Addr} {rs : List Rw} (h : RwsAt H wa rs) : ∃ xs, H wa = some (.lst xs) := by
  obtain ⟨pl, _, h1, _⟩ := h
  exact ⟨_, h1⟩
theorem RwsAt.nd {wa : Addr} {rs : List Rw} (h : RwsAt H wa rs) {x y z : Int} : H wa ≠ some (DiceO x y z) := fun e => by
  obtain ⟨pl, _, h1, _⟩ := h
  rw [e] at h1
  injection h1 with h1
  injection h1 with h1
  cases pl with
  | nil => cases h1
  | cons a t =>
    injection h1 with h1
    cases h1
theorem St2.fr0 (s2 : St2 K H l pd p o b s t) (f : Fr (FL K) [] H H') : St2 K H' l pd p o b s t :=
  ⟨s2.b0.fr f (by simp) (by simp), s2.lk.fr0 f, f.d s2.o (by simp), s2.w.fr0 f, s2.k, s2.n1, s2.n2, s2.n3⟩
theorem St2.roll (s2 : St2 K H l pd p o b s t) {x y z : Int} : St2 K (upd H pd (DiceO x y z)) l pd p o b s t := by
  obtain ⟨x', y', z', h⟩ := s2.b0.dice
  have f : Fr (FL K) [pd] H (upd H pd (DiceO x y z)) := Fr.upd h rfl (List.mem_singleton.mpr rfl)
  have nt : ∀ c ∈ [pd], ∀ xs, H c ≠ some (.tup xs) := fun c hc xs e => by
    rw [List.mem_singleton.mp hc, h] at e
    cases e
  have na : p.a ∉ [pd] := fun m => by
    have := s2.lk.o
    rw [List.mem_singleton.mp m, h] at this
    cases this
  have no : o ∉ [pd] := fun m => by
    have := s2.o
    rw [List.mem_singleton.mp m, h] at this
    cases this
  have nb : b ∉ [pd] := fun m => s2.w.nd (by rw [List.mem_singleton.mp m]; exact h)
  have nw : p.wa ∉ [pd] := fun m => s2.n2 (List.mem_singleton.mp m).symm
  exact ⟨s2.b0.roll, ⟨f.i s2.lk.o na, s2.lk.w.fr f nw nt, s2.lk.k⟩, f.d s2.o no, s2.w.fr f nb nt, s2.k, s2.n1, s2.n2, s2.n3⟩
theorem St2.frL (s2 : St2 K H l pd p o b s t) (f : Fr (FL K) (lfoot p) H H') (h : LockAt K H' p s') : St2 K H' l pd p o b s' t := by
  obtain ⟨x', y', z', hd⟩ := s2.b0.dice
  have na : ∀ c xs, H c = some (.lst xs) → c ≠ p.wa → c ∉ lfoot p := fun c xs hc n m => by
    rcases List.mem_cons.mp m with e | m
    · rw [e, s2.lk.o] at hc
      cases hc
    · exact n (List.mem_singleton.mp m)
  obtain ⟨xs, hb⟩ := s2.w.list
  have no : o ∉ lfoot p := fun m => by
    have := s2.o
    rcases List.mem_cons.mp m with e | m
    · rw [e, s2.lk.o] at this
      cases this
    · obtain ⟨xs, hw⟩ := s2.lk.w.list
      rw [List.mem_singleton.mp m, hw] at this
      cases this
  exact ⟨s2.b0.fr f (na _ _ s2.b0.l s2.n1) (na _ _ hd s2.n2), h, f.d s2.o no, s2.w.fr f (na _ _ hb s2.n3) s2.lk.nt, s2.k, s2.n1, s2.n2, s2.n3⟩
theorem St2.frO (s2 : St2 K H l pd p o b s t) (f : Fr (FL K) [o] H H') (ho : H' o = some (.dK (ownD b' t'))) (hw : RwsAt H' b' t'.rs) (hk : ∀ r ∈ t'.rs, okR r = true) (hn : b' ≠ p.wa) : St2 K H' l pd p o b' s t' := by
  obtain ⟨x', y', z', hd⟩ := s2.b0.dice
  have key : ∀ c q, H c = some q → (∀ kvs, q ≠ .dK kvs) → c ∉ [o] := fun c q hc n m => by
    rw [List.mem_singleton.mp m, s2.o] at hc
    exact n _ (Option.some.inj hc).symm
  obtain ⟨xs, hwa⟩ := s2.lk.w.list
  have nt : ∀ c ∈ [o], ∀ xs, H c ≠ some (.tup xs) := fun c hc xs e => by
    rw [List.mem_singleton.mp hc, s2.o] at e
    cases e
  exact ⟨s2.b0.fr f (key _ _ s2.b0.l (fun _ z => by cases z)) (key _ _ hd (fun _ z => by cases z)), ⟨f.i s2.lk.o (key _ _ s2.lk.o (fun _ z => by cases z)), s2.lk.w.fr f (key _ _ hwa (fun _ z => by cases z)) nt, s2.lk.k⟩, ho, hw, hk, s2.n1, s2.n2, hn⟩
theorem RwsAt.cat {L q : Addr} {xs : List V} {rs : List Rw} {r : Rw} (h : RwsAt H b rs) (hb : H b = some (.lst xs)) (hL : H L = some (.lst (xs ++ [V.ref q]))) (hq : H q = some (.tup (rwV r))) : RwsAt H L (rs ++ [r]) := by
  obtain ⟨pl, e, h1, h2⟩ := h
  rw [hb] at h1
  injection h1 with h1
  injection h1 with h1
  refine ⟨pl ++ [(q, r)], by rw [List.map_append, e] <;> rfl, by rw [hL, h1, List.map_append] <;> rfl, fun c hc => ?_⟩
  rcases List.mem_append.mp hc with z | z
  · exact h2 c z
  · rw [List.mem_singleton.mp z]
    exact hq
theorem RwsAt.copy {L : Addr} {xs : List V} {rs : List Rw} (h : RwsAt H b rs) (hb : H b = some (.lst xs)) (hL : H L = some (.lst xs)) : RwsAt H L rs := by
  obtain ⟨pl, e, h1, h2⟩ := h
  rw [hb] at h1
  exact ⟨pl, e, hL.trans h1, h2⟩
theorem St2.eqT (h : St2 K H l pd p o b s t) (e : t = t') : St2 K H l pd p o b s t' := e ▸ h
/-- own['rows'] is another list -/
theorem St2.rows (s2 : St2 K H l pd p o b s t) {L : Addr} (e : ∀ b, ownD b t' = ownD b t) (hw : RwsAt H L t'.rs) (hk : ∀ r ∈ t'.rs, okR r = true) (hn : L ≠ p.wa) : St2 K (upd H o (.dK (ownD L t))) l pd p o L s t' := by
  have f : Fr (FL K) [o] H (upd H o (.dK (ownD L t))) := Fr.upd s2.o rfl (List.mem_singleton.mpr rfl)
  obtain ⟨xs, hb⟩ := hw.list
  refine s2.frO f (by rw [e]; exact upd_same) ?_ hk hn
  refine hw.fr f (fun m => ?_) fun c hc xs z => ?_
  · rw [List.mem_singleton.mp m, s2.o] at hb
    cases hb
  · rw [List.mem_singleton.mp hc, s2.o] at z
    cases z
/-- a field of the own dict is written -/
theorem St2.put (s2 : St2 K H l pd p o b s t) (e : t'.rs = t.rs) : St2 K (upd H o (.dK (ownD b t'))) l pd p o b s t' := by
  have f : Fr (FL K) [o] H (upd H o (.dK (ownD b t'))) := Fr.upd s2.o rfl (List.mem_singleton.mpr rfl)
  obtain ⟨xs, hb⟩ := s2.w.list
  refine s2.frO f upd_same ?_ (by rw [e]; exact s2.k) s2.n3
  rw [e]
  refine s2.w.fr f (fun m => ?_) fun c hc xs z => ?_
  · rw [List.mem_singleton.mp m, s2.o] at hb
    cases hb
  · rw [List.mem_singleton.mp hc, s2.o] at z
    cases z
end
def dO : Option Str → PyData
  | some x => .str x
  | none => .none
theorem dO_dp {K : PySem.W.Frag} {H : Hp} (o : Option Str) : Dp K H (oV o) (dO o) := by
  cases o with
  | none => exact .non
  | some x => exact .str x
theorem dRws_at {K : PySem.W.Frag} {H : Hp} {wa : Addr} {rs : List Rw} (h : RwsAt H wa rs) : Dp K H (.ref wa) (.list (rs.map dRw)) := by
  obtain ⟨pl, e, h1, h2⟩ := h
  rw [← e]
  exact .lst (SqL.of h1) (dRws_dp h2)
def dSt (s : LkS) : PyData := .tuple [.str s.side, .list (s.rs.map dRw), dO s.boat, dO s.way, .int s.left, .int s.turns]
theorem dSt_can {s : LkS} (g : GdS s) (h : ∀ r ∈ s.rs, okR r = true) : (dSt s).canLay0 = true := by
  have h1 := can_list (f := dRw) fun r hr => dRw_can (h r hr)
  have h2 := sideOk g.sd
  rcases g.bw with ⟨a, b⟩ | ⟨bb, wy, a, b, _, c, d⟩
  · unfold dSt
    rw [a, b]
    simp [dO, PyData.canLay0, PyData.canLayAll0, h2]
    simpa [PyData.canLay0] using h1
  · have := sideOk c
    unfold dSt
    rw [a, b]
    simp [dO, PyData.canLay0, PyData.canLayAll0, h2, this, d]
    simpa [PyData.canLay0] using h1
theorem dO_depth (o : Option Str) : (dO o).depth = 0 := by cases o <;> simp [dO, PyData.depth]
theorem dSt_shaped {s : LkS} (g : GdS s) (h : ∀ r ∈ s.rs, okR r = true) : SeqAt.shaped (dSt s) = true := by
  refine shaped_of (dSt_can g h) ?_
  have h1 := depthAll_map (f := dRw) (l := s.rs) (n := 1) fun r _ => dRw_depth r
  have h2 := dO_depth s.boat
  have h3 := dO_depth s.way
  simp only [dSt, PyData.depth, PyData.depthAll]
  omega
theorem isSide_or {w : Str} (h : isSide w = true) : w = "up" ∨ w = "down" := by
  unfold isSide inV at h
  simp only [List.any_cons, List.any_nil, Bool.or_false, Bool.or_eq_true] at h
  rcases h with h | h
  · exact .inl (by simpa [eqV] using h : ("up" : Str) = w).symm
  · exact .inr (by simpa [eqV] using h : ("down" : Str) = w).symm
theorem need_eq {fill : Int} {side w : Str} : needS fill side w = fill * (if (!(decide (V.str w = V.str "down") && rdy side w)) = true then 1 else 0) := by
  unfold needS rdy
  by_cases h1 : w = "down" <;> by_cases h2 : side = "up" <;> simp [h1, h2]
theorem give_eq {fill : Int} {side w : Str} (h : isSide side = true) (hw : isSide w = true) : giveS fill side w = fill * (if (!(decide (V.str w = V.str "up") && rdy side w)) = true then 1 else 0) := by
  rcases isSide_or h with e | e <;> rcases isSide_or hw with e2 | e2 <;> rw [e, e2]
  · show fill = fill * 1
    omega
  · show fill = fill * 1
    omega
  · show (0 : Int) = fill * 0
    omega
  · show fill = fill * 1
    omega
theorem pas_eq {r : LkF} {w : Str} : pasS r w = 18 + 12 * (if (!rdy r.side w) = true then 1 else 0) := by
  unfold pasS
  cases rdy r.side w <;> rfl
/-! the two turns -/
theorem turns_eq {side w : Str} : (if rdy side w = true then (1 : Int) else 2) = 1 + (if (!rdy side w) = true then 1 else 0) := by cases rdy side w <;> rfl
theorem run_same (fill : Int) : ∀ (ws : List Str) (s : WS) (t : LTS), (∀ w ∈ ws, isSide w = true) → isSide s.side = true → s.side = t.side → s.taken = t.fills * fill → s.turns = t.turns →
    (wrun fill s ws).taken = (ltrun t ws).fills * fill ∧ (wrun fill s ws).turns = (ltrun t ws).turns
  | [], s, t, _, _, _, h2, h3 => ⟨h2, h3⟩
  | w :: r, s, t, h, hs, h1, h2, h3 => by
    have hw := h w (List.mem_cons_self ..)
    refine run_same fill r (wst fill s w) (ltst t w) (fun x hx => h x (List.mem_cons_of_mem _ hx)) ?_ ?_ ?_ ?_
    · unfold wst
      simp only
      split <;> decide +kernel
    · unfold wst ltst
      simp only
      rcases isSide_or hw with e | e
      · rw [e]
        rfl
      · rw [e]
        decide +kernel
    · unfold wst ltst needS
      simp only
      rw [h2, ← h1]
      rcases isSide_or hw with e | e <;> rcases isSide_or hs with e2 | e2 <;> rw [e, e2]
      · rw [if_neg (by decide +kernel), if_pos (by decide +kernel), Int.add_mul, Int.one_mul]
      · rw [if_neg (by decide +kernel), if_pos (by decide +kernel), Int.add_mul, Int.one_mul]
      · rw [if_pos (by decide +kernel), if_neg (by decide +kernel), Int.add_zero, Int.add_zero]
      · rw [if_neg (by decide +kernel), if_pos (by decide +kernel), Int.add_mul, Int.one_mul]
    · unfold wst ltst
      simp only
      rw [h3, ← h1, turns_eq]
      omega
theorem run_eq {fill : Int} {side : Str} {ws : List Str} (h : ∀ w ∈ ws, isSide w = true) (hs : isSide side = true) : (wrun fill ⟨side, 0, 0⟩ ws).taken = (ltrun ⟨side, 0, 0⟩ ws).fills * fill ∧ (wrun fill ⟨side, 0, 0⟩ ws).turns = (ltrun ⟨side, 0, 0⟩ ws).turns :=
  run_same fill ws ⟨side, 0, 0⟩ ⟨side, 0, 0⟩ h hs rfl (by simp) rfl
end K2
namespace K2
open PySem PySem.Spec PyProof.Rows L2 Cn LamX
local macro_rules | `(tactic| walk_at "few") => `(tactic| exact Nat.le_of_ble_eq_true rfl)
local macro_rules | `(tactic| walk_at "ne") => `(tactic| first | assumption | (apply Ne.symm; assumption) | exact ne_of_none (by assumption) (by assumption) | exact (ne_of_none (by assumption) (by assumption)).symm)
local macro_rules | `(tactic| walk_at "hf") => `(tactic| first | assumption | exact upd_same | (refine Eq.trans (upd_ne (by walk_at "ne")) ?_; walk_at "hf"))
local macro_rules | `(tactic| walk_at "bk") => `(tactic| first | (dsimp only [blk_K, blk_w, blk_prog]; done) | exact rfl | (dsimp only [blk_K, blk_w, blk_prog]; exact rfl))
local macro_rules | `(tactic| walk_at "ht") => `(tactic| exact SqT.of (by walk_at "hf"))
local macro_rules | `(tactic| walk_at "at") => `(tactic| first | exact atI_nat (by assumption) | rfl)
local macro_rules | `(tactic| walk_at "nz") => `(tactic| first | omega | exact ⟨by omega, by omega⟩)
local macro_rules | `(tactic| walk_at "ix") => `(tactic| first | assumption | rfl)
local macro_rules | `(tactic| walk_at "sq") => `(tactic| first | exact .inl (SqL.of (by walk_at "hf")) | exact .inr (SqT.of (by walk_at "hf")))
local macro_rules | `(tactic| walk_at "dg") => `(tactic| first | exact own_side (by assumption) | exact own_rows (by assumption) | exact own_boat (by assumption) | exact own_way (by assumption) | exact own_left (by assumption) | exact own_turns (by assumption))
local macro_rules | `(tactic| walk_at "dp") => `(tactic| first | exact own_pside (by assumption) | exact own_prows (by assumption) | exact own_pboat (by assumption) | exact own_pway (by assumption) | exact own_pleft (by assumption) | exact own_pturns (by assumption))
def spLaw (K : PySem.W.Frag) : Sp := Sp1 fun x H Q _ => ∃ (a : Addr) (ns : List Int), x = .ref a ∧ SqL K H a (ns.map V.int) ∧ Tabs (FL K) H ∧ ∀ H', Q (.bl true) H'
theorem merge_own {b : Addr} {fill : Int} {side : Str} : mergeK [] [((.inr "side" : Key), V.str side), (.inr "rows", .ref b), (.inr "boat", .non), (.inr "way", .non), (.inr "left", .int 0), (.inr "turns", .int 0)] = ownD b ⟨fill, side, [], none, none, 0, 0⟩ := by kernel_rfl
def JL (K : PySem.W.Frag) (a l pd : Addr) (p : LkP) (o : Addr) (fill : Int) (side : Str) (n : Nat) (σ : L2.St) (H : Hp) : Prop := ∃ (s : LkS) (b : Addr) (time : Int) (x7 x8 x9 x10 x11 x12 x13 x14 x15 x16 : Option V),
  σ = [some (.ref a), some (.ref pd), some (.int fill), some (.str side), some (.int time), some (.ref p.a), some (.ref o), x7, x8, x9, x10, x11, x12, x13, x14, x15, x16, none, none, none, none, none, none, none] ∧ St2 K H l pd p o b s s ∧ GdS s ∧ s.fill = fill ∧ s.rs.length ≤ n
theorem side_at {r : Int} (h0 : 0 ≤ r) (h1 : r < 2) : ∃ sd : Str, atI [V.str "up", V.str "down"] r = some (.str sd) ∧ isSide sd = true := by
  have : r = 0 ∨ r = 1 := by omega
  rcases this with e | e
  · exact ⟨"up", by rw [e]; rfl, by decide +kernel⟩
  · exact ⟨"down", by rw [e]; rfl, by decide +kernel⟩
theorem way_at {r : Int} (h0 : 0 ≤ r) (h1 : r < 3) : ∃ wy : Str, atI [V.str "up", V.str "down", V.str "out"] r = some (.str wy) ∧ PyData.strOk wy = true ∧ isSide wy = !decide (V.str wy = V.str "out") := by
  have : r = 0 ∨ r = 1 ∨ r = 2 := by omega
  rcases this with e | e | e
  · exact ⟨"up", by rw [e]; rfl, by decide +kernel, by decide +kernel⟩
  · exact ⟨"down", by rw [e]; rfl, by decide +kernel, by decide +kernel⟩
  · exact ⟨"out", by rw [e]; rfl, by decide +kernel, by decide +kernel⟩
theorem six_len {n : Nat} (h : (n : Int) < 6) : ("b" : Str).length + ((toString (n : Int) : String) : Str).length ≤ sizeLine := by
  have : n = 0 ∨ n = 1 ∨ n = 2 ∨ n = 3 ∨ n = 4 ∨ n = 5 := by omega
  rcases this with rfl | rfl | rfl | rfl | rfl | rfl <;> decide +kernel
section
variable {P : Program} {w : World} {K : PySem.W.Frag} {mg : Str → Option Value} {base : Heap}
theorem ok_law (T : Txt K mg base) : ∀ fd, FunD K d_law.name d_law.qual d_law.params d_law.body d_law.scope (d_law.dvs K) (d_law.kws K) (He.fAd K d_law.at_) fd → FnOk P w K mg base (L2.CX P w) 13 (He.fAd K d_law.at_) fd ["script"] (spLaw K) := by
  refine mk_fnT rfl sc_law len1 (fun A outer s H vs Q E hr h => ?_)
  have nd := sc_law.nd
  obtain ⟨x, rfl, a, ns, rfl, h1, ht, k⟩ := h
  refine ⟨_, (pss_cons (ps_for owns rfl (pi_list (pe_fn (ok_law_rounds T) hr (by decide) lets T.g_law_rounds (pa_cons (pv 0) (pa_cons pe_int pa_nil)))) (pg_name (i := 1) nd rfl (.inr rfl))
        (pss_cons (ps_asg (pe_tup (pa_cons (pe_op op_add pe_int (pe_fn (ok_law_roll T) hr (by decide) lets T.g_law_roll (pa_cons (pv 1) (pa_cons pe_int pa_nil)))) (pa_cons (pe_ix ix_list (pe_lst (pa_cons pe_str (pa_cons pe_str pa_nil))) (pe_fn (ok_law_roll T) hr (by decide) lets T.g_law_roll (pa_cons (pv 1) (pa_cons pe_int pa_nil))) (fun _ _ => rfl)) (pa_cons pe_int pa_nil)))) (pg_tup (n := 3) rfl (pgs_cons (pg_name (i := 2) nd rfl (.inl rfl)) (pgs_cons (pg_name (i := 3) nd rfl (.inr rfl)) (pgs_cons (pg_name (i := 4) nd rfl (.inr rfl)) pgs_nil)))))
        (pss_cons (ps_asg (pe_tup (pa_cons (pe_mk T.m_Lock (ok_Lock_init T) hr (by decide) lets T.g_Lock (pa_cons (pv 2) (pa_cons (pv 3) pa_nil))) (pa_cons (pe_disp (pps_cons pe_str (pv 3) (pps_cons pe_str (pe_lst pa_nil) (pps_cons pe_str pe_non (pps_cons pe_str pe_non (pps_cons pe_str pe_int (pps_cons pe_str pe_int pps_nil)))))) (by rfl) (by rfl) (fun z => by cases z) (by decide)) pa_nil))) (pg_tup (n := 2) rfl (pgs_cons (pg_name (i := 5) nd rfl (.inr rfl)) (pgs_cons (pg_name (i := 6) nd rfl (.inl rfl)) pgs_nil))))
        (pss_cons (ps_for owns rfl (pi_range1 (by rfl) T.f_range (pa_cons (pe_fn (ok_law_roll T) hr (by decide) lets T.g_law_roll (pa_cons (pv 1) (pa_cons pe_int pa_nil))) pa_nil)) (pg_name (i := 7) nd rfl (.inl rfl))
          (pss_cons (ps_asg (pe_tup (pa_cons (pe_fn (ok_law_roll T) hr (by decide) lets T.g_law_roll (pa_cons (pv 1) (pa_cons pe_int pa_nil))) (pa_cons (pe_op op_add (pv 4) (pe_fn (ok_law_roll T) hr (by decide) lets T.g_law_roll (pa_cons (pv 1) (pa_cons pe_int pa_nil)))) pa_nil))) (pg_tup (n := 2) rfl (pgs_cons (pg_name (i := 8) nd rfl (.inl rfl)) (pgs_cons (pg_name (i := 4) nd rfl (.inr rfl)) pgs_nil))))
          (pss_cons (ps_if (pt_cmpR op_eq (pv 8) pe_int (nomark _))
            (pss_cons (ps_asg (pe_tup (pa_cons (pe_ix ix_list (pe_lst (pa_cons pe_str (pa_cons pe_str (pa_cons pe_str pa_nil)))) (pe_fn (ok_law_roll T) hr (by decide) lets T.g_law_roll (pa_cons (pv 1) (pa_cons pe_int pa_nil))) (fun _ _ => rfl)) (pa_cons (pe_op op_add_str pe_str (pe_callTy call_str_int (by rfl) T.f_str (by decide +kernel) (pa_cons (pe_fn (ok_law_roll T) hr (by decide) lets T.g_law_roll (pa_cons (pv 1) (pa_cons pe_int pa_nil))) pa_nil))) pa_nil))) (pg_tup (n := 2) rfl (pgs_cons (pg_name (i := 9) nd rfl (.inr rfl)) (pgs_cons (pg_name (i := 10) nd rfl (.inr rfl)) pgs_nil))))
            (pss_cons (ps_set (i := 11) nd rfl (Or.inl rfl) (pe_and (pe_cmpR op_ne (pv 9) pe_str (nomark _)) (pe_and (pe_cmpR op_ne (pv 10) (pe_dget (ru1 hr) (pv 6) pe_str (fun _ _ => rfl)) (nomark _)) (pe_one (pe_cmpR op_notIn_seq (pv 10) (pe_lc (own := [("row", 12)]) (by rfl) nd (pi_list (pe_dget (ru1 hr) (pv 6) pe_str (fun _ _ => rfl))) (blkOk_by (own := [("row", 12)]) (N := ["script", "dice", "fill", "side", "time", "lock", "own", "step", "sort", "way", "boat", "good", "row", "asked", "ready", "one", "due", "ways", "k", "fills", "turns", "ups", "downs", "rows"]) (sc := defScope s_law) (by decide +kernel)) (fun _ _ _ _ _ => PG.at_ (pg_name (i := 12) nd rfl (.inl rfl)) (by walk_at "bk")) (fun _ _ _ _ _ => PTs.at_ (pts_nil) (by walk_at "bk")) (fun _ _ _ _ _ => PE.at_ (pe_ix ix_tup (pv 12) pe_int (fun _ _ => rfl)) (by walk_at "bk"))) (by rfl))))))
            (pss_cons (ps_if (pt_cmpR op_eq (pe_cmpR op_eq (pe_toldL (k := 2) T.d_law_told rfl T.g_law_told rfl rfl (fun _ _ _ _ _ _ us hl => match us, hl with | [_], _ => rfl) sc_law_told rfl (fun _ => rfl) (.inl rfl) rfl rfl T.g_LockError rfl (T.tb _ tm_law) rfl tl_law (tab_uniq T.nt tl_law) hr (by decide) (by rfl) rfl (fun _ _ _ _ _ => rfl) (fun A outer s H E f c' hr => pe_mt (pv 5) T.k_Lock T.me_Lock_join (ok_Lock_join T) hr (by decide) letsL (pa_cons (pv 4) (pa_cons (pv 9) (pa_cons (pv 10) pa_nil))))) pe_str (nomark _)) (pv 11) (nomark _))
              (pss_one (ps_ret pe_bl))
              pss_nil)
            (pss_one (ps_dput (ru1 hr) (pv 6) pe_str (pe_op op_cat (pe_dget (ru1 hr) (pv 6) pe_str (fun _ _ => rfl)) (pe_op op_rep (pe_lst (pa_cons (pe_tup (pa_cons (pv 4) (pa_cons (pv 9) (pa_cons (pv 10) pa_nil)))) pa_nil)) (pe_callTy call_int1 (by rfl) T.f_int (by decide +kernel) (pa_cons (pv 11) pa_nil)))) rfl)))))
            (pss_one (ps_if (pt_cmpR op_eq (pv 8) pe_int (nomark _))
              (pss_cons (ps_set (i := 12) nd rfl (Or.inr rfl) (pe_fn (ok_law_next T) hr (by decide) lets T.g_law_next (pa_cons (pv 6) pa_nil)))
              (pss_cons (ps_set (i := 11) nd rfl (Or.inl rfl) (pe_and (pe_cmpR op_notN (pv 12) pe_non (nomark _)) (pe_one (pe_cmpR op_isN (pe_dget (ru1 hr) (pv 6) pe_str (fun _ _ => rfl)) pe_non (nomark _)))))
              (pss_cons (ps_set (i := 13) nd rfl (Or.inr rfl) (pe_ifExp (pt_cmpR op_notN (pv 12) pe_non (nomark _)) (pv 12) (pe_tup (pa_cons pe_int (pa_cons pe_str (pa_cons pe_str pa_nil))))))
              (pss_cons (ps_if (pt_cmpR op_eq (pe_cmpR op_eq (pe_toldL (k := 3) T.d_law_told rfl T.g_law_told rfl rfl (fun _ _ _ _ _ _ us hl => match us, hl with | [_], _ => rfl) sc_law_told rfl (fun _ => rfl) (.inl rfl) rfl rfl T.g_LockError rfl (T.tb _ tm_law) rfl tl_law (tab_uniq T.nt tl_law) hr (by decide) (by rfl) rfl (fun _ _ _ _ _ => rfl) (fun A outer s H E f c' hr => pe_mt (pv 5) T.k_Lock T.me_Lock_begin (ok_Lock_begin T) hr (by decide) letsL (pa_cons (pv 13) pa_nil))) pe_str (nomark _)) (pv 11) (nomark _))
                (pss_one (ps_ret pe_bl))
                pss_nil)
              (pss_one (ps_if (pt_val (pv 11))
                (pss_cons (ps_set (i := 14) nd rfl (Or.inl rfl) (pe_cmpR op_eq (pe_cmpR op_eq (pe_ix ix_tup (pv 12) pe_int (fun _ _ => rfl)) pe_str (nomark _)) (pe_cmpR op_eq (pe_dget (ru1 hr) (pv 6) pe_str (fun _ _ => rfl)) pe_str (nomark _)) (nomark _)))
                (pss_cons (ps_dput (ru1 hr) (pv 6) pe_str (pe_lc (own := [("one", 15)]) (by rfl) nd (pi_list (pe_dget (ru1 hr) (pv 6) pe_str (fun _ _ => rfl))) (blkOk_by (own := [("one", 15)]) (N := ["script", "dice", "fill", "side", "time", "lock", "own", "step", "sort", "way", "boat", "good", "row", "asked", "ready", "one", "due", "ways", "k", "fills", "turns", "ups", "downs", "rows"]) (sc := defScope s_law) (by decide +kernel)) (fun _ _ _ _ _ => PG.at_ (pg_name (i := 15) nd rfl (.inl rfl)) (by walk_at "bk")) (fun _ _ _ _ _ => PTs.at_ ((pts_one (pt_cmpR (op_neD hr.units) (pv 15) (pv 12) (nomark _)))) (by walk_at "bk")) (fun _ _ _ _ _ => PE.at_ (pv 15) (by walk_at "bk"))) rfl)
                (pss_one (ps_asg (pe_tup (pa_cons (pe_ix ix_tup (pv 12) pe_int (fun _ _ => rfl)) (pa_cons (pe_ix ix_tup (pv 12) pe_int (fun _ _ => rfl)) (pa_cons (pe_op op_add pe_int (pe_op op_mul pe_int (pe_callTy call_int1 (by rfl) T.f_int (by decide +kernel) (pa_cons (pe_not (pv 14)) pa_nil)))) (pa_cons (pe_op op_add (pe_op op_add (pe_dget (ru1 hr) (pv 6) pe_str (fun _ _ => rfl)) pe_int) (pe_callTy call_int1 (by rfl) T.f_int (by decide +kernel) (pa_cons (pe_not (pv 14)) pa_nil))) pa_nil))))) (pg_tup (n := 4) rfl (pgs_cons (pg_sub (pv 6) pe_str (set_dict (ru1 hr))) (pgs_cons (pg_sub (pv 6) pe_str (set_dict (ru1 hr))) (pgs_cons (pg_sub (pv 6) pe_str (set_dict (ru1 hr))) (pgs_cons (pg_sub (pv 6) pe_str (set_dict (ru1 hr))) pgs_nil)))))))))
                pss_nil))))))
              (pss_cons (ps_set (i := 16) nd rfl (Or.inl rfl) pe_non)
              (pss_cons (ps_if (pt_cmpR op_notN (pe_dget (ru1 hr) (pv 6) pe_str (fun _ _ => rfl)) pe_non (nomark _))
                (pss_cons (ps_dput (ru1 hr) (pv 6) pe_str (pe_op op_sub (pe_dget (ru1 hr) (pv 6) pe_str (fun _ _ => rfl)) pe_int) rfl)
                (pss_one (ps_if (pt_cmpR op_eq (pe_dget (ru1 hr) (pv 6) pe_str (fun _ _ => rfl)) pe_int (nomark _))
                  (pss_cons (ps_asg (pe_tup (pa_cons (pe_tup (pa_cons (pe_dget (ru1 hr) (pv 6) pe_str (fun _ _ => rfl)) (pa_cons (pe_dget (ru1 hr) (pv 6) pe_str (fun _ _ => rfl)) pa_nil))) (pa_cons (pe_dget (ru1 hr) (pv 6) pe_str (fun _ _ => rfl)) pa_nil))) (pg_tup (n := 2) rfl (pgs_cons (pg_name (i := 16) nd rfl (.inl rfl)) (pgs_cons (pg_sub (pv 6) pe_str (set_dict (ru1 hr))) pgs_nil))))
                  (pss_one (ps_asg (pe_tup (pa_cons pe_non (pa_cons pe_non pa_nil))) (pg_tup (n := 2) rfl (pgs_cons (pg_sub (pv 6) pe_str (set_dict (ru1 hr))) (pgs_cons (pg_sub (pv 6) pe_str (set_dict (ru1 hr))) pgs_nil))))))
                  pss_nil)))
                pss_nil)
              (pss_one (ps_if (pt_cmpR (op_neD hr.units) (pe_mt0 (pv 5) T.k_Lock T.me_Lock_minute (ok_Lock_minute T) hr (by decide) lets) (pv 16) (nomark _))
                (pss_one (ps_ret pe_bl))
                pss_nil)))))))
          (pss_cons (ps_if (PW.pt (pw_or (pt_cmpR (op_neD hr.units) (pe_tup (pa_cons (pe_fld (pv 5) rfl) (pa_cons (pe_fld (pv 5) rfl) (pa_cons (pe_fld (pv 5) rfl) (pa_cons (pe_fld (pv 5) rfl) (pa_cons (pe_fld (pv 5) rfl) (pa_cons (pe_fld (pv 5) rfl) pa_nil))))))) (pe_tup (pa_cons (pe_dget (ru1 hr) (pv 6) pe_str (fun _ _ => rfl)) (pa_cons (pe_dget (ru1 hr) (pv 6) pe_str (fun _ _ => rfl)) (pa_cons (pe_dget (ru1 hr) (pv 6) pe_str (fun _ _ => rfl)) (pa_cons (pe_dget (ru1 hr) (pv 6) pe_str (fun _ _ => rfl)) (pa_cons (pe_dget (ru1 hr) (pv 6) pe_str (fun _ _ => rfl)) (pa_cons (pe_dget (ru1 hr) (pv 6) pe_str (fun _ _ => rfl)) pa_nil))))))) (nomark _)) (pw_or1 (pt_cmpR (op_neD hr.units) (pe_mt0 (pv 5) T.k_Lock T.me_Lock_next_row (ok_Lock_next_row T) hr (by decide) lets) (pe_fn (ok_law_next T) hr (by decide) lets T.g_law_next (pa_cons (pv 6) pa_nil)) (nomark _)))))
            (pss_one (ps_ret pe_bl))
            pss_nil)
          (pss_one (ps_for owns rfl (pi_list (pe_lst (pa_cons pe_str (pa_cons pe_str pa_nil)))) (pg_name (i := 9) nd rfl (.inr rfl))
            (pss_cons (ps_set (i := 14) nd rfl (Or.inl rfl) (pe_cmpR op_eq (pe_cmpR op_eq (pv 9) pe_str (nomark _)) (pe_cmpR op_eq (pe_dget (ru1 hr) (pv 6) pe_str (fun _ _ => rfl)) pe_str (nomark _)) (nomark _)))
            (pss_one (ps_if (PW.pt (pw_or (pt_cmpR op_ne (pe_mt (pv 5) T.k_Lock T.me_Lock_is_ready (ok_Lock_is_ready T) hr (by decide) lets (pa_cons (pv 9) pa_nil)) (pv 14) (nomark _)) (pw_or (pt_cmpR op_ne (pe_mt (pv 5) T.k_Lock T.me_Lock_passage (ok_Lock_passage T) hr (by decide) lets (pa_cons (pv 9) pa_nil)) (pe_op op_add pe_int (pe_op op_mul pe_int (pe_callTy call_int1 (by rfl) T.f_int (by decide +kernel) (pa_cons (pe_not (pv 14)) pa_nil)))) (nomark _)) (pw_or (pt_cmpR op_ne (pe_mt (pv 5) T.k_Lock T.me_Lock_needs (ok_Lock_needs T) hr (by decide) lets (pa_cons (pv 9) pa_nil)) (pe_op op_mul (pv 2) (pe_callTy call_int1 (by rfl) T.f_int (by decide +kernel) (pa_cons (pe_not (pe_and (pe_cmpR op_eq (pv 9) pe_str (nomark _)) (pe_one (pv 14)))) pa_nil))) (nomark _)) (pw_or1 (pt_cmpR op_ne (pe_mt (pv 5) T.k_Lock T.me_Lock_gives (ok_Lock_gives T) hr (by decide) lets (pa_cons (pv 9) pa_nil)) (pe_op op_mul (pv 2) (pe_callTy call_int1 (by rfl) T.f_int (by decide +kernel) (pa_cons (pe_not (pe_and (pe_cmpR op_eq (pv 9) pe_str (nomark _)) (pe_one (pv 14)))) pa_nil))) (nomark _)))))))
              (pss_one (ps_ret pe_bl))
              pss_nil)))))))))
        (pss_cons (ps_setLc (i := 17) (own := [("k", 18)]) (by rfl) nd rfl rfl (sw_true rfl rfl rfl (by decide +kernel)) (pi_range1 (by rfl) T.f_range (pa_cons (pe_fn (ok_law_roll T) hr (by decide) lets T.g_law_roll (pa_cons (pv 1) (pa_cons pe_int pa_nil))) pa_nil)) (blkOk_by (own := [("k", 18)]) (N := ["script", "dice", "fill", "side", "time", "lock", "own", "step", "sort", "way", "boat", "good", "row", "asked", "ready", "one", "due", "ways", "k", "fills", "turns", "ups", "downs", "rows"]) (sc := defScope s_law) (by decide +kernel)) (fun _ _ _ _ _ => PG.at_ (pg_name (i := 18) nd rfl (.inl rfl)) (by walk_at "bk")) (fun _ _ _ _ _ => PTs.at_ (pts_nil) (by walk_at "bk")) (fun _ _ _ _ _ => PE.at_ (pe_ix ix_list (pe_lst (pa_cons pe_str (pa_cons pe_str pa_nil))) (pe_fn (ok_law_roll T) hr (by decide) passL T.g_law_roll (pa_cons (pv 1) (pa_cons pe_int pa_nil))) (fun _ _ => rfl)) (by walk_at "bk")))
        (pss_cons (ps_asg (pe_fn (ok_law_turns T) hr (by decide) lets T.g_law_turns (pa_cons (pv 17) (pa_cons (pv 3) pa_nil))) (pg_tup (n := 2) rfl (pgs_cons (pg_name (i := 19) nd rfl (.inl rfl)) (pgs_cons (pg_name (i := 20) nd rfl (.inl rfl)) pgs_nil))))
        (pss_cons (ps_if (pt_cmpR (op_neD hr.units) (pe_fn (ok_water_for T) hr (by decide) lets T.g_water_for (pa_cons (pv 17) (pa_cons (pv 2) (pa_cons (pv 3) pa_nil)))) (pe_tup (pa_cons (pe_op op_mul (pv 19) (pv 2)) (pa_cons (pv 20) pa_nil))) (nomark _))
          (pss_one (ps_ret pe_bl))
          pss_nil)
        (pss_cons (ps_par (i := 21) (j := 22) rfl nd rfl rfl (by decide) rfl rfl (pa_cons (pe_fn (ok_law_roll T) hr (by decide) lets T.g_law_roll (pa_cons (pv 1) (pa_cons pe_int pa_nil))) (pa_cons (pe_fn (ok_law_roll T) hr (by decide) lets T.g_law_roll (pa_cons (pv 1) (pa_cons pe_int pa_nil))) pa_nil)) (by rfl))
        (pss_cons (ps_setLc (i := 23) (own := [("row", 12)]) (by rfl) nd rfl rfl (sw_true rfl rfl rfl (by decide +kernel)) (pi_list (pe_fn (ok_law_ways T) hr (by decide) lets T.g_law_ways (pa_cons (pv 21) (pa_cons (pv 22) pa_nil)))) (blkOk_by (own := [("row", 12)]) (N := ["script", "dice", "fill", "side", "time", "lock", "own", "step", "sort", "way", "boat", "good", "row", "asked", "ready", "one", "due", "ways", "k", "fills", "turns", "ups", "downs", "rows"]) (sc := defScope s_law) (by decide +kernel)) (fun _ _ _ _ _ => PG.at_ (pg_name (i := 12) nd rfl (.inl rfl)) (by walk_at "bk")) (fun _ _ _ _ _ => PTs.at_ (pts_nil) (by walk_at "bk")) (fun _ _ _ _ _ => PE.at_ (pe_tup (pa_cons (pe_ix ix_tup (pe_fn (ok_law_turns T) hr (by decide) passL T.g_law_turns (pa_cons (pv 12) (pa_cons (pv 3) pa_nil))) pe_int (fun _ _ => rfl)) (pa_cons (pv 12) pa_nil))) (by walk_at "bk")))
        (pss_one (ps_if (pt_cmpR (op_neD hr.units) (pe_fn (ok_best_ways T) hr (by decide) lets T.g_best_ways (pa_cons (pv 21) (pa_cons (pv 22) (pa_cons (pv 3) pa_nil)))) (pe_callB (cr_minD rfl hr.units) (by rfl) T.f_min (by decide +kernel) (pa_cons (pv 23) pa_nil)) (nomark _))
          (pss_one (ps_ret pe_bl))
          pss_nil)))))))))))
      (pss_one (ps_ret (pe_fn0 (ok_law_plain T) hr (by decide) lets T.g_law_plain)))), ?_⟩
  refine ⟨_, rfl, ?_⟩
  refine ⟨_, _, rfl, a, ns, rfl, rfl, h1, fun H1 l pd a0 b0' d0 f0 hl hpd => ⟨_, rfl, ⟨_, SqL.of hl⟩, ?_⟩⟩
  refine for_it walk_list (fun i σ H' => (i = 0 ∧ σ = L2.start ["script", "dice", "fill", "side", "time", "lock", "own", "step", "sort", "way", "boat", "good", "row", "asked", "ready", "one", "due", "ways", "k", "fills", "turns", "ups", "downs", "rows"] [.ref a] ∧ H' = H1) ∨ (i = 1 ∧ Tabs (FL K) H' ∧ H' l = some (.lst [.ref pd]))) (.inl ⟨rfl, rfl, rfl⟩) (fun i σ H' _ h => SqL.of (h.elim (fun z => by rw [z.2.2]; exact hl) fun z => z.2.2)) ?_ ?_
  rotate_left
  · rintro σ H2 (⟨z, _⟩ | ⟨_, ht2, _⟩)
    · cases z
    · exact ⟨rfl, ht2, fun H' _ => k H'⟩
  rintro i x σ H2 H3 hi (⟨rfl, rfl, rfl⟩ | ⟨rfl, _⟩) ⟨rfl, hx⟩
  rotate_left
  · cases hx
  cases hx
  have st0 : St0 K H3 l pd := ⟨⟨_, _, _, hpd⟩, hl, f0.tab ht⟩
  clear hpd hl f0 ht h1
  refine gname_ap ?_
  refine seqJ (fun σ H' => ∃ (fill : Int) (side : Str), (1 ≤ fill ∧ fill ≤ 50) ∧ isSide side = true ∧ σ = [some (.ref a), some (.ref pd), some (.int fill), some (.str side), some (.int 0), none, none, none, none, none, none, none, none, none, none, none, none, none, none, none, none, none, none, none] ∧ St0 K H' l pd) (fun R hR => ?_) ?_
  · obtain ⟨a1, b1, d1, hd1⟩ := st0.dice
    refine ⟨_, rfl, _, _, rfl, pd, _, _, _, 50, rfl, rfl, hd1, by decide, by decide, fun a2 b2 d2 r2 l2 u2 => ⟨_, _, rfl, rfl, by walk_at "few", fun q nq => ?_⟩⟩
    have st1 := st0.roll (a := a2) (b := b2) (d := d2)
    have hq : upd (upd H3 pd (DiceO a2 b2 d2)) q (.lst [.str "up", .str "down"]) q = some (.lst [.str "up", .str "down"]) := upd_same
    have st2 := st1.fr (S := []) (Fr.new nq (o := .lst [.str "up", .str "down"])) (by simp) (by simp)
    generalize upd (upd H3 pd (DiceO a2 b2 d2)) q (.lst [.str "up", .str "down"]) = H4 at *
    obtain ⟨a3, b3, d3, hd3⟩ := st2.dice
    refine ⟨_, rfl, _, _, rfl, pd, _, _, _, 2, rfl, rfl, hd3, by decide, by decide, fun a4 b4 d4 r4 l4 u4 => ?_⟩
    have st3 := st2.roll (a := a4) (b := b4) (d := d4)
    have qn : q ≠ pd := fun e => by
      rw [e, hd3] at hq
      cases hq
    have hq2 : upd H4 pd (DiceO a4 b4 d4) q = some (.lst [.str "up", .str "down"]) := (upd_ne qn).trans hq
    generalize upd H4 pd (DiceO a4 b4 d4) = H5 at *
    obtain ⟨sd, hsd, hss⟩ := side_at l4 u4
    refine ⟨_, _, _, _, rfl, rfl, SqL.of hq2, hsd, by walk_at "few", fun pT nT => ⟨_, _, rfl, SqT.of upd_same, rfl, _, _, rfl, _, _, rfl, _, _, rfl, rfl, hR _ _ ⟨_, sd, ⟨by omega, by omega⟩, hss, rfl, st3.fr (S := []) (Fr.new nT) (by simp) (by simp)⟩⟩⟩
  rintro σ H4 ⟨fill, side, ⟨hf, hf50⟩, hs, rfl, st1⟩
  clear st0
  refine seqJ (fun σ H' => ∃ p o, JL K a l pd p o fill side 0 σ H') (fun R hR => ?_) ?_
  · refine ⟨_, rfl, _, rfl, fun x dx nx ndx hne => ⟨_, _, _, rfl, x, dx, fill, side, rfl, rfl, rfl, upd_same, fun z => ?_, fun _ wa H5 f5 L5 nw => ⟨rfl, fun po npo => ?_⟩⟩⟩
    · unfold badL at z
      rw [hs, decide_eq_false (by omega)] at z
      cases z
    · have fm : ∀ o, Fr (FL K) [] H4 (upd (upd H4 dx (.own x)) x o) := fun o => Fr.make nx ndx hne
      have f45 : Fr (FL K) [] H4 H5 := (fm _).transW f5 fun b hb => .inr (by rw [List.mem_singleton.mp hb]; exact Nw.none nx)
      have nwa : Nw H4 wa := by
        intro o ho
        by_cases z : ∃ ps, o = .tbl ps
        · exact z
        · exact nw o ((fm _).keep wa o ho (fun ps w => z ⟨ps, w⟩) (by simp))
      obtain ⟨a3, b3, d3, hd3⟩ := st1.dice
      have n1 : l ≠ wa := fun e => by
        obtain ⟨ps, z⟩ := nwa _ (e ▸ st1.l)
        cases z
      have n2 : pd ≠ wa := fun e => by
        obtain ⟨ps, z⟩ := nwa _ (e ▸ hd3)
        cases z
      have st5 := st1.fr f45 (by simp) (by simp)
      refine ⟨_, rfl, by walk_at "few", fun b nb => ?_⟩
      have hpo : upd (upd H5 po (.dK [])) b (.lst []) po = some (.dK []) := (upd_ne (ne_of_none upd_same nb)).trans upd_same
      have f56 : Fr (FL K) [] H5 (upd (upd H5 po (.dK [])) b (.lst [])) := (Fr.new npo).trans (Fr.new nb)
      have hb : upd (upd H5 po (.dK [])) b (.lst []) b = some (.lst []) := upd_same
      have npw : Nw H5 po := .none npo
      have n3 : b ≠ wa := fun e => by
        obtain ⟨xs, hx⟩ := L5.w.list
        have := (Fr.new (T := FL K) (S := []) (o := .dK []) npo).l hx (by simp)
        rw [← show b = wa from e, nb] at this
        cases this
      show (upd (upd H5 po (.dK [])) b (.lst [])) po = some (.dK []) ∧ _
      have hbo : b ≠ po := fun e => by
        have h2 := hb.symm.trans ((congrArg (upd (upd H5 po (.dK [])) b (.lst [])) e).trans hpo)
        cases h2
      clear nb npo
      generalize upd (upd H5 po (.dK [])) b (.lst []) = H6 at *
      refine ⟨hpo, [(.inr "side", .str side), (.inr "rows", .ref b), (.inr "boat", .non), (.inr "way", .non), (.inr "left", .int 0), (.inr "turns", .int 0)], rfl, by walk_at "few", ?_⟩
      rw [merge_own (fill := fill)]
      have f67 := f56.transW (Fr.upd (S := [po]) (u := .dK (ownD b ⟨fill, side, [], none, none, 0, 0⟩)) hpo rfl (List.mem_singleton.mpr rfl)) fun c hc => .inr (by rw [List.mem_singleton.mp hc]; exact npw)
      have s7 : St2 K (upd H6 po (.dK (ownD b ⟨fill, side, [], none, none, 0, 0⟩))) l pd ⟨x, dx, wa⟩ po b ⟨fill, side, [], none, none, 0, 0⟩ ⟨fill, side, [], none, none, 0, 0⟩ :=
        ⟨st5.fr f67 (by simp) (by simp), L5.fr0 f67, upd_same, ⟨[], rfl, (upd_ne hbo).trans hb, fun _ z => by simp at z⟩, fun _ z => by simp at z, n1, n2, n3⟩
      refine ⟨by walk_at "few", fun pT nT => ⟨_, _, rfl, SqT.of upd_same, rfl, _, _, rfl, _, _, rfl, rfl, hR _ _ ⟨⟨x, dx, wa⟩, po, ⟨fill, side, [], none, none, 0, 0⟩, b, 0, none, none, none, none, none, none, none, none, none, none, rfl, s7.fr0 (Fr.new nT), ⟨by simp, hs, fun _ z => by simp at z, .inl ⟨rfl, rfl⟩⟩, rfl, Nat.le_refl _⟩⟩⟩
  rintro σ H5 ⟨p, o, J5⟩
  clear st1
  refine seqJ (JL K a l pd p o fill side 40) (fun R hR => ?_) ?_
  · obtain ⟨s, b, time, x7, x8, x9, x10, x11, x12, x13, x14, x15, x16, rfl, st, gd, hfl, hln⟩ := J5
    obtain ⟨a3, b3, d3, hd3⟩ := st.b0.dice
    refine ⟨_, rfl, _, _, rfl, pd, _, _, _, 41, rfl, rfl, hd3, by decide, by decide, fun a' b' d' r' l' u' => ⟨_, rfl, by omega, by omega, ?_⟩⟩
    refine for_it walk_range (fun i => JL K a l pd p o fill side i) ⟨s, b, time, _, _, _, _, _, _, _, _, _, _, rfl, st.roll, gd, hfl, hln⟩ (fun _ _ _ _ _ => trivial) ?_ (fun σ H h => ?_)
    · rintro i y σ H10 H11 hi ⟨s, b, time, x7, x8, x9, x10, x11, x12, x13, x14, x15, x16, rfl, st, gd, hfl, hln⟩ ⟨rfl, rfl⟩
      refine gname_ap ?_
      have hi41 : i < 41 := by omega
      clear hR hi
      refine seqJ (fun σ H' => ∃ (sort tm : Int) (x7 : Option V), σ = [some (.ref a), some (.ref pd), some (.int fill), some (.str side), some (.int tm), some (.ref p.a), some (.ref o), x7, some (.int sort), x9, x10, x11, x12, x13, x14, x15, x16, none, none, none, none, none, none, none] ∧ St2 K H' l pd p o b s s) (fun R hR => ?_) ?_
      · obtain ⟨a1, b1, d1, hd1⟩ := st.b0.dice
        refine ⟨_, rfl, _, _, rfl, pd, _, _, _, 4, rfl, rfl, hd1, by decide, by decide, fun a2 b2 d2 r2 l2 u2 => ⟨_, rfl, _, rfl, _, _, rfl, pd, _, _, _, 2, rfl, rfl, upd_same, by decide, by decide, fun a3 b3 d3 r3 l3 u3 => ⟨_, _, rfl, rfl, by walk_at "few", fun pT nT => ⟨_, _, rfl, SqT.of upd_same, rfl, _, _, rfl, _, _, rfl, rfl, hR _ _ ⟨r2, _, _, rfl, ((st.roll).roll).fr0 (.new nT)⟩⟩⟩⟩⟩
      rintro σ H12 ⟨sort, tm, x7, rfl, st2⟩
      clear st
      refine seqJ (JL K a l pd p o fill side (i + 1)) (fun R hR => ?_) ?_
      · refine ifs_p (b := decide (V.int sort = V.int 0)) (test_p fun _ k => ⟨_, rfl, rfl, k⟩) (fun hd => ?_) (fun hd => ?_)
        · refine seqJ (fun σ H' => ∃ wy bt : Str, PyData.strOk wy = true ∧ PyData.strOk bt = true ∧ isSide wy = (!decide (V.str wy = V.str "out")) ∧ σ = [some (.ref a), some (.ref pd), some (.int fill), some (.str side), some (.int tm), some (.ref p.a), some (.ref o), x7, some (.int sort), some (.str wy), some (.str bt), x11, x12, x13, x14, x15, x16, none, none, none, none, none, none, none] ∧ St2 K H' l pd p o b s s) (fun R2 hR2 => ?_) ?_
          · refine ⟨by walk_at "few", fun q nq => ?_⟩
            have st3 := st2.fr0 (Fr.new nq (o := .lst [.str "up", .str "down", .str "out"]))
            have hq : upd H12 q (.lst [.str "up", .str "down", .str "out"]) q = some (.lst [.str "up", .str "down", .str "out"]) := upd_same
            generalize upd H12 q (.lst [.str "up", .str "down", .str "out"]) = H13 at *
            obtain ⟨a1, b1, d1, hd1⟩ := st3.b0.dice
            have hqp : q ≠ pd := fun e => by
              rw [e, hd1] at hq
              cases hq
            refine ⟨_, rfl, _, _, rfl, pd, _, _, _, 3, rfl, rfl, hd1, by decide, by decide, fun a2 b2 d2 r2 l2 u2 => ?_⟩
            have st4 := st3.roll (x := a2) (y := b2) (z := d2)
            have hq2 : upd H13 pd (DiceO a2 b2 d2) q = some (.lst [.str "up", .str "down", .str "out"]) := (upd_ne hqp).trans hq
            generalize upd H13 pd (DiceO a2 b2 d2) = H14 at *
            obtain ⟨wy, hwy, hok, hsw⟩ := way_at l2 u2
            refine ⟨_, _, _, _, rfl, rfl, SqL.of hq2, hwy, ?_⟩
            obtain ⟨a3, b3, d3, hd3⟩ := st4.b0.dice
            refine ⟨_, rfl, _, _, rfl, pd, _, _, _, 6, rfl, rfl, hd3, by decide, by decide, fun a4 b4 d4 r4 l4 u4 => ?_⟩
            obtain ⟨n4, rfl⟩ := Int.eq_ofNat_of_zero_le l4
            exact ⟨_, rfl, small_log (by omega), _, _, rfl, rfl, six_len u4, by walk_at "few", fun pT nT => ⟨_, _, rfl, SqT.of upd_same, rfl, _, _, rfl, _, _, rfl, rfl, hR2 _ _ ⟨wy, _, hok, strOk_app (by decide +kernel) (strOk_of _), hsw, rfl, (st4.roll).fr0 (.new nT)⟩⟩⟩
          rintro σ H13 ⟨wy, bt, hok, hbo, hsw, rfl, st3⟩
          clear st2 hd
          refine seqJ (fun σ H' => σ = [some (.ref a), some (.ref pd), some (.int fill), some (.str side), some (.int tm), some (.ref p.a), some (.ref o), x7, some (.int sort), some (.str wy), some (.str bt), some (.bl (!badJ s wy bt)), x12, x13, x14, x15, x16, none, none, none, none, none, none, none] ∧ St2 K H' l pd p o b s s) (fun R2 hR2 => ?_) ?_
          · have hg : (!badJ s wy bt) = ((!decide (V.str wy = V.str "out")) && ((!decide (V.str bt = oV s.boat)) && (!inV (.str bt) (s.rs.map fun r => V.str r.boat)))) := by
              have e : (s.rs.map fun r => V.str r.boat) = (s.rs.map (·.boat)).map V.str := by rw [List.map_map] <;> rfl
              rw [e, inV_strs, List.any_map]
              unfold badJ
              rw [hsw, Bool.not_not, Bool.not_or, Bool.not_or] <;> rfl
            rw [hg] at hR2
            refine andv_x (T := FL K) (VP.up fun _ k => ⟨_, rfl, rfl, k⟩) (fun _ H14 f14 => andv_x (VP.up fun _ k => ⟨_, rfl, _, rfl, _, _, rfl, own_boat (st3.fr0 f14).o, scal_oV, k⟩) fun _ H15 f15 => fun Q q => ?_) _ (fun H14 f14 => gname_ap (hR2 _ _ ⟨rfl, st3.fr0 f14⟩))
            have st5 := (st3.fr0 f14).fr0 f15
            obtain ⟨pl, e1, hl, hr⟩ := st5.w
            have hpl : pl.length = s.rs.length := by rw [← e1, List.length_map]
            refine ⟨_, rfl, _, rfl, _, _, rfl, own_rows st5.o, _, rfl, ⟨_, SqL.of hl⟩, fun D nD => ?_⟩
            refine lcV walk_list (FL K) (fun i => ((s.rs[i]?).map fun r => V.str r.boat).getD .non) (by rw [List.length_map, hpl]; exact Nat.le_trans (by omega) line1000) nD (fun H' f => SqL.of (f.l hl (by simp))) (fun i y H' R' hy g hR' => ?_) (fun H' hD f => ?_)
            · obtain ⟨c, hc, rfl⟩ := map_get hy
              have hc2 : s.rs[i]? = some c.2 := by rw [← e1, List.getElem?_map, hc] <;> rfl
              have ht := g.t (hr c (List.mem_of_getElem? hc)) (by simp)
              rw [hc2] at hR'
              exact gname_ap (hR' _ rfl (VP.up fun _ k => ⟨_, rfl, _, _, _, _, rfl, rfl, SqT.of ht, rfl, k⟩))
            · rw [List.length_map, hpl, Cn.range_map] at hD
              exact ⟨D, _, rfl, .inl (SqL.of hD), rfl, by rw [List.all_map]; exact List.all_eq_true.mpr fun _ _ => rfl, q _ f⟩
          rintro σ H14 ⟨rfl, st4⟩
          clear st3
          have okr : okR ⟨tm, wy, bt⟩ = true := by
            unfold okR
            rw [hok, hbo] <;> rfl
          refine seqJ (fun σ H' => σ = [some (.ref a), some (.ref pd), some (.int fill), some (.str side), some (.int tm), some (.ref p.a), some (.ref o), x7, some (.int sort), some (.str wy), some (.str bt), some (.bl (!badJ s wy bt)), x12, x13, x14, x15, x16, none, none, none, none, none, none, none] ∧ St2 K H' l pd p o b (if badJ s wy bt = true then s else { s with rs := s.rs ++ [⟨tm, wy, bt⟩] }) s) (fun R2 hR2 => ?_) ?_
          · refine ⟨st4.b0.tabs, fun H15 hE hT => ?_⟩
            have st5 := st4.fr0 (Fr.of_ext hE fun _ => hT)
            refine ⟨_, rfl, _, _, _, rfl, st5.lk.o, nm_Lock_join _, _, rfl, _, rfl, _, rfl, _, _, _, _, rfl, p, s, tm, wy, bt, rfl, rfl, rfl, rfl, okr, st5.lk, st5.b0.tabs, by omega, fun hb H16 f => ?_, fun hb H16 f L16 => ?_⟩
            · refine ⟨true, T.x_LockError_LockError, fun _ => ⟨rfl, _, rfl, rfl, _, rfl, ite_no (by simp [hb]) (hR2 _ _ ⟨rfl, ?_⟩)⟩, fun z => by cases z⟩
              rw [if_pos hb]
              exact st5.fr0 f
            · refine ⟨rfl, _, rfl, rfl, _, rfl, ite_no (by simp [hb]) (hR2 _ _ ⟨rfl, ?_⟩)⟩
              rw [if_neg (by rw [hb]; decide)]
              exact st5.frL (f.mono fun c hc => by rw [List.mem_singleton.mp hc]; exact List.mem_cons_of_mem _ (List.mem_singleton.mpr rfl)) L16
          rintro σ H15 ⟨rfl, st5⟩
          clear st4
          obtain ⟨xs, hxs⟩ := st5.w.list
          have hxl : xs.length = s.rs.length := by
            obtain ⟨pl, e1, hl, _⟩ := st5.w
            rw [hxs] at hl
            injection hl with hl
            injection hl with hl
            rw [hl, List.length_map, ← e1, List.length_map]
          generalize hb : badJ s wy bt = g at st5 ⊢
          cases g with
          | true =>
            rw [if_pos rfl] at st5
            have hxs5 := hxs
            refine ⟨_, rfl, _, _, rfl, own_rows st5.o, _, rfl, _, rfl, _, rfl, by walk_at "few", fun q nq => ?_⟩
            have fq := Fr.new (T := FL K) (S := []) (o := .tup [.int tm, .str wy, .str bt]) nq
            have hq : upd H15 q (.tup [.int tm, .str wy, .str bt]) q = some (.tup (rwV ⟨tm, wy, bt⟩)) := upd_same
            have st6 := st5.fr0 fq
            have hxs6 := fq.l hxs (by simp)
            generalize upd H15 q (.tup [.int tm, .str wy, .str bt]) = H16 at *
            refine ⟨by walk_at "few", fun L1 n1 => ?_⟩
            have f1 := Fr.new (T := FL K) (S := []) (o := .lst [.ref q]) n1
            have hL1 : upd H16 L1 (.lst [.ref q]) L1 = some (.lst [.ref q]) := upd_same
            have hq7 := f1.t hq (by simp)
            have st7 := st6.fr0 f1
            have hxs7 := f1.l hxs6 (by simp)
            generalize upd H16 L1 (.lst [.ref q]) = H17 at *
            refine ⟨_, rfl, .inr ⟨_, rfl, L1, _, [.ref q], rfl, rfl, hL1, by decide, by decide, by walk_at "few", fun L2 n2 => ?_⟩⟩
            have f2 := Fr.new (T := FL K) (S := []) (o := .lst []) n2
            have hL2 : upd H17 L2 (.lst []) L2 = some (.lst []) := upd_same
            have hq8 := f2.t hq7 (by simp)
            have st8 := st7.fr0 f2
            have hxs8 := f2.l hxs7 (by simp)
            show rCat _ _ (upd H17 L2 (.lst [])) _
            generalize upd H17 L2 (.lst []) = H18 at *
            refine ⟨b, L2, xs, _, rfl, rfl, hxs8, hL2, Nat.le_trans (by rw [hxl]; show s.rs.length + 0 ≤ 1000; omega) line1000, fun L3 n3 => ?_⟩
            have f3 := Fr.new (T := FL K) (S := []) (o := .lst (xs ++ [])) n3
            have hL3 : upd H18 L3 (.lst (xs ++ [])) L3 = some (.lst (xs ++ [])) := upd_same
            have hq9 := f3.t hq8 (by simp)
            have st9 := st8.fr0 f3
            have hxs9 := f3.l hxs8 (by simp)
            have nL3 : L3 ≠ p.wa := fun e => by
              obtain ⟨ys, hy⟩ := st8.lk.w.list
              rw [← e, n3] at hy
              cases hy
            generalize upd H18 L3 (.lst (xs ++ [])) = H19 at *
            rw [List.append_nil] at hL3
            have st10 := st9.rows (L := L3) (t' := s) (fun _ => rfl) (st9.w.copy hxs9 hL3) st9.k nL3
            exact ⟨_, rfl, _, _, rfl, own_prows (v := L3) st9.o, hR _ _ ⟨s, L3, tm, _, _, _, _, _, _, _, _, _, _, rfl, st10, gd, hfl, by omega⟩⟩
          | false =>
            rw [if_neg (by decide)] at st5
            have hxs5 := hxs
            refine ⟨_, rfl, _, _, rfl, own_rows st5.o, _, rfl, _, rfl, _, rfl, by walk_at "few", fun q nq => ?_⟩
            have fq := Fr.new (T := FL K) (S := []) (o := .tup [.int tm, .str wy, .str bt]) nq
            have hq : upd H15 q (.tup [.int tm, .str wy, .str bt]) q = some (.tup (rwV ⟨tm, wy, bt⟩)) := upd_same
            have st6 := st5.fr0 fq
            have hxs6 := fq.l hxs (by simp)
            generalize upd H15 q (.tup [.int tm, .str wy, .str bt]) = H16 at *
            refine ⟨by walk_at "few", fun L1 n1 => ?_⟩
            have f1 := Fr.new (T := FL K) (S := []) (o := .lst [.ref q]) n1
            have hL1 : upd H16 L1 (.lst [.ref q]) L1 = some (.lst [.ref q]) := upd_same
            have hq7 := f1.t hq (by simp)
            have st7 := st6.fr0 f1
            have hxs7 := f1.l hxs6 (by simp)
            generalize upd H16 L1 (.lst [.ref q]) = H17 at *
            refine ⟨_, rfl, .inr ⟨_, rfl, L1, _, [.ref q], rfl, rfl, hL1, by decide, by decide, by walk_at "few", fun L2 n2 => ?_⟩⟩
            have f2 := Fr.new (T := FL K) (S := []) (o := .lst [.ref q]) n2
            have hL2 : upd H17 L2 (.lst [.ref q]) L2 = some (.lst [.ref q]) := upd_same
            have hq8 := f2.t hq7 (by simp)
            have st8 := st7.fr0 f2
            have hxs8 := f2.l hxs7 (by simp)
            show rCat _ _ (upd H17 L2 (.lst [.ref q])) _
            generalize upd H17 L2 (.lst [.ref q]) = H18 at *
            refine ⟨b, L2, xs, _, rfl, rfl, hxs8, hL2, Nat.le_trans (by rw [hxl]; show s.rs.length + 1 ≤ 1000; omega) line1000, fun L3 n3 => ?_⟩
            have f3 := Fr.new (T := FL K) (S := []) (o := .lst (xs ++ [.ref q])) n3
            have hL3 : upd H18 L3 (.lst (xs ++ [.ref q])) L3 = some (.lst (xs ++ [.ref q])) := upd_same
            have hq9 := f3.t hq8 (by simp)
            have st9 := st8.fr0 f3
            have hxs9 := f3.l hxs8 (by simp)
            have nL3 : L3 ≠ p.wa := fun e => by
              obtain ⟨ys, hy⟩ := st8.lk.w.list
              rw [← e, n3] at hy
              cases hy
            generalize upd H18 L3 (.lst (xs ++ [.ref q])) = H19 at *
            have hw9 := st9.w.cat hxs9 hL3 hq9
            have hany : ∀ r ∈ s.rs, r.boat ≠ bt := fun r hr e => by
              unfold badJ at hb
              simp only [Bool.or_eq_false_iff, List.any_eq_false] at hb
              have := hb.2.2 r hr
              rw [e] at this
              simp at this
            have hside : isSide wy = true := by
              unfold badJ at hb
              simp only [Bool.or_eq_false_iff, Bool.not_eq_false'] at hb
              exact hb.1
            have st10 := st9.rows (L := L3) (t' := { s with rs := s.rs ++ [⟨tm, wy, bt⟩] }) (fun _ => rfl) hw9 st9.lk.k nL3
            refine ⟨_, rfl, _, _, rfl, own_prows (v := L3) st9.o, hR _ _ ⟨{ s with rs := s.rs ++ [⟨tm, wy, bt⟩] }, L3, tm, _, _, _, _, _, _, _, _, _, _, rfl, st10, ⟨?_, gd.sd, fun r hr => ?_, gd.bw⟩, hfl, by show (s.rs ++ [_]).length ≤ i + 1; rw [List.length_append]; exact Nat.succ_le_succ hln⟩⟩
            · show (s.rs ++ [_]).Nodup
              rw [List.nodup_append]
              refine ⟨gd.nd, by simp, fun x hx y hy e => ?_⟩
              rw [List.mem_singleton.mp hy] at e
              exact hany x hx (by rw [e])
            · rcases List.mem_append.mp hr with z | z
              · exact gd.rw r z
              · rw [List.mem_singleton.mp z]
                exact hside
        · refine ifs_p (b := decide (V.int sort = V.int 1)) (test_p fun _ k => ⟨_, rfl, rfl, k⟩) (fun hd1 => ?_) (fun hd1 => ?_)
          · clear hd hd1
            refine seqJ (fun σ H' => ∃ xr : V, σ = [some (.ref a), some (.ref pd), some (.int fill), some (.str side), some (.int tm), some (.ref p.a), some (.ref o), x7, some (.int sort), x9, x10, x11, some xr, x13, x14, x15, x16, none, none, none, none, none, none, none] ∧ St2 K H' l pd p o b s s ∧ ((s.rs = [] ∧ xr = .non) ∨ ∃ q r0, xr = .ref q ∧ H' q = some (.tup (rwV r0)) ∧ IsHead s.side s.rs r0)) (fun R2 hR2 => ?_) ?_
            · refine ⟨_, rfl, _, rfl, o, b, s, rfl, st2.o, st2.w, st2.k, by omega, fun hn H13 f => gname_ap (hR2 _ _ ⟨_, rfl, st2.fr0 f, .inl ⟨hn, rfl⟩⟩), fun r0 H13 q hh f hq nq => gname_ap (hR2 _ _ ⟨_, rfl, st2.fr0 f, .inr ⟨q, r0, rfl, hq, hh⟩⟩)⟩
            rintro σ H13 ⟨xr, rfl, st3, hrow⟩
            clear st2
            refine seqJ (fun σ H' => ∃ g : Bool, σ = [some (.ref a), some (.ref pd), some (.int fill), some (.str side), some (.int tm), some (.ref p.a), some (.ref o), x7, some (.int sort), x9, x10, some (.bl g), some xr, x13, x14, x15, x16, none, none, none, none, none, none, none] ∧ H' = H13 ∧ (xr = .non → g = false) ∧ ∀ q, xr = .ref q → g = decide (oV s.boat = V.non)) (fun R2 hR2 => ?_) ?_
            · rcases hrow with ⟨hn, rfl⟩ | ⟨q, r0, rfl, hq, hh⟩
              · exact ⟨_, rfl, rfl, _, rfl, ite_ff (gname_ap (hR2 _ _ ⟨false, rfl, rfl, fun _ => rfl, fun q z => by cases z⟩))⟩
              · exact ⟨_, rfl, rfl, _, rfl, ite_tt ⟨_, rfl, _, _, rfl, own_boat st3.o, rfl, gname_ap (hR2 _ _ ⟨_, rfl, rfl, (fun z => by cases z), fun q z => rfl⟩)⟩⟩
            rintro σ H14 ⟨g, rfl, rfl, hg1, hg2⟩
            refine seqJ (fun σ H' => ∃ (qa : Addr) (ra : Rw) (g : Bool), σ = [some (.ref a), some (.ref pd), some (.int fill), some (.str side), some (.int tm), some (.ref p.a), some (.ref o), x7, some (.int sort), x9, x10, some (.bl g), some xr, some (.ref qa), x14, x15, x16, none, none, none, none, none, none, none] ∧ St2 K H' l pd p o b s s ∧ H' qa = some (.tup (rwV ra)) ∧ okR ra = true ∧ badB s ra = (!g) ∧ (g = true → xr = .ref qa ∧ ra ∈ s.rs ∧ s.boat = none)) (fun R2 hR2 => ?_) ?_
            · rcases hrow with ⟨hn, rfl⟩ | ⟨q, r0, rfl, hq, hh⟩
              · obtain rfl := hg1 rfl
                refine ⟨_, rfl, rfl, _, rfl, ite_ff ⟨by walk_at "few", fun qa na => gname_ap (hR2 _ _ ⟨qa, ⟨99, "up", "zz"⟩, false, rfl, st3.fr0 (.new na), upd_same, by decide +kernel, ?_, fun z => by cases z⟩)⟩⟩
                unfold badB
                rw [hn]
                simp
              · have hok0 := st3.k r0 hh.1
                have hgq := hg2 q rfl
                refine ⟨_, rfl, rfl, _, rfl, ite_tt ⟨_, rfl, gname_ap (hR2 _ _ ⟨q, r0, g, rfl, st3, hq, hok0, ?_, fun z => ⟨rfl, hh.1, ?_⟩⟩)⟩⟩
                · unfold badB
                  have : (s.rs.any fun z => decide (z = r0)) = true := List.any_eq_true.mpr ⟨r0, hh.1, by simp⟩
                  rw [this, hgq]
                  simp
                · rw [hgq] at z
                  cases hb : s.boat with
                  | none => rfl
                  | some x =>
                    rw [hb] at z
                    cases z
            rintro σ H14 ⟨qa, ra, g, rfl, st4, hqa, hokr, hbad, hg⟩
            clear st3 hrow
            refine seqJ (fun σ H' => σ = [some (.ref a), some (.ref pd), some (.int fill), some (.str side), some (.int tm), some (.ref p.a), some (.ref o), x7, some (.int sort), x9, x10, some (.bl g), some xr, some (.ref qa), x14, x15, x16, none, none, none, none, none, none, none] ∧ St2 K H' l pd p o b (if g = true then begS s ra else s) s ∧ H' qa = some (.tup (rwV ra))) (fun R2 hR2 => ?_) ?_
            · refine ⟨st4.b0.tabs, fun H15 hE hT => ?_⟩
              have fE : Fr (FL K) [] H14 H15 := Fr.of_ext hE fun _ => hT
              have st5 := st4.fr0 fE
              have hqa5 := fE.t hqa (by simp)
              refine ⟨_, rfl, _, _, _, rfl, st5.lk.o, nm_Lock_begin _, _, rfl, _, _, rfl, p, s, qa, ra, rfl, rfl, st5.lk, hqa5, hokr, fun hb => ?_, fun hb H16 f L16 => ?_⟩
              · have hgf : g = false := by
                  rw [hbad] at hb
                  simpa using hb
                refine ⟨true, T.x_LockError_LockError, fun _ => ⟨rfl, _, rfl, rfl, _, rfl, ite_no (by simp [hgf]) (hR2 _ _ ⟨rfl, ?_, hqa5⟩)⟩, fun z => by cases z⟩
                rw [if_neg (by rw [hgf]; decide)]
                exact st5
              · have hgt : g = true := by
                  rw [hbad] at hb
                  simpa using hb
                refine ⟨rfl, _, rfl, rfl, _, rfl, ite_no (by simp [hgt]) (hR2 _ _ ⟨rfl, ?_, f.t hqa5 fun m => st5.lk.nt _ m _ hqa5⟩)⟩
                rw [if_pos hgt]
                exact st5.frL f L16
            rintro σ H15 ⟨rfl, st5, hq5⟩
            clear st4 hqa
            cases g with
            | false =>
              rw [if_neg (by decide)] at st5
              exact ⟨_, rfl, _, rfl, ite_ff (hR _ _ ⟨s, b, tm, _, _, _, _, _, _, _, _, _, _, rfl, st5, gd, hfl, by omega⟩)⟩
            | true =>
              rw [if_pos rfl] at st5
              obtain ⟨rfl, hra, hbn⟩ := hg rfl
              refine ⟨_, rfl, _, rfl, ite_tt ?_⟩
              refine ⟨_, rfl, _, _, _, _, rfl, rfl, SqT.of hq5, rfl, rfl, _, rfl, _, _, rfl, own_side st5.o, rfl, rfl, gname_ap (nx_ap ?_)⟩
              have er : decide (V.bl (decide (V.str ra.way = V.str "down")) = V.bl (decide (V.str s.side = V.str "up"))) = rdy s.side ra.way := by
                simp [rdy]
              rw [er]
              obtain ⟨pl, e1, hl, hr⟩ := st5.w
              have hpl : pl.length = s.rs.length := by rw [← e1, List.length_map]
              have hqn : ∀ r ∈ s.rs, r = ra ∨ r ≠ ra := fun r _ => Classical.em _
              refine ⟨_, rfl, _, _, rfl, own_rows st5.o, _, rfl, ⟨_, SqL.of hl⟩, fun D nD => ?_⟩
              refine lc_list (fun i H' => ∃ pl' : List (Addr × Rw), H' D = some (.lst (pl'.map fun q => V.ref q.1)) ∧ pl'.map (·.2) = (s.rs.take i).filter (fun r => !decide (r = ra)) ∧ (∀ c ∈ pl', H' c.1 = some (.tup (rwV c.2))) ∧ Fr (FL K) [] H15 H') ⟨[], upd_same, by simp, fun _ z => by simp at z, Fr.new nD⟩ (fun i H' _ ⟨_, _, _, _, f⟩ => SqL.of (f.l hl (by simp))) ?_ ?_
              · rintro i y H' hy ⟨pl', hD, he, hc, f⟩
                obtain ⟨c, hc0, rfl⟩ := map_get hy
                have hc2 : s.rs[i]? = some c.2 := by rw [← e1, List.getElem?_map, hc0] <;> rfl
                have hcr := f.t (hr c (List.mem_of_getElem? hc0)) (by simp)
                have hqr := f.t hq5 (by simp)
                have hcok := st5.k c.2 (List.mem_of_getElem? hc2)
                have hcD : c.1 ≠ D := fun e => by
                  rw [e, hD] at hcr
                  cases hcr
                have hil : i < s.rs.length := (List.getElem?_eq_some_iff.mp hc2).1
                have hpl' : pl'.length ≤ s.rs.length := by
                  have e4 : pl'.length = ((s.rs.take i).filter (fun r => !decide (r = ra))).length := by rw [← he, List.length_map]
                  have e5 := List.length_filter_le (fun r => !decide (r = ra)) (s.rs.take i)
                  rw [List.length_take] at e5
                  omega
                refine ⟨rfl, _, rfl, _, rfl, dRw c.2, dRw ra, dRw_dp hcr, dRw_dp hqr, dRw_shaped hcok, dRw_shaped hokr, _, rfl, ?_⟩
                rw [dRw_eqv]
                by_cases hcra : c.2 = ra
                · rw [decide_eq_true hcra]
                  refine ite_no rfl ⟨pl', hD, ?_, hc, f⟩
                  rw [he, List.take_add_one, hc2, List.filter_append]
                  simp [hcra]
                · rw [decide_eq_false hcra]
                  refine ite_yes rfl ⟨_, rfl, _, hD, Nat.lt_of_lt_of_le (by rw [List.length_map]; omega) line1000, pl' ++ [c], ?_, ?_, fun c' hc' => ?_, f.transW (Fr.upd (S := [D]) hD rfl (List.mem_singleton.mpr rfl)) fun c hc => .inr (by rw [List.mem_singleton.mp hc]; exact Nw.none nD)⟩
                  · rw [List.map_append]
                    exact upd_same
                  · rw [List.map_append, he, List.take_add_one, hc2, List.filter_append]
                    simp [hcra]
                  · have ht' : H' c'.1 = some (.tup (rwV c'.2)) := by
                      rcases List.mem_append.mp hc' with z | z
                      · exact hc c' z
                      · rw [List.mem_singleton.mp z]
                        exact hcr
                    refine (upd_ne fun e => ?_).trans ht'
                    rw [e, hD] at ht'
                    cases ht'
              · rintro H16 ⟨pl', hD, he, hc, f⟩
                rw [List.length_map, hpl, List.take_length] at he
                have st6 := st5.fr0 f
                have hq6 := f.t hq5 (by simp)
                have nDw : D ≠ p.wa := fun e => by
                  obtain ⟨ys, hy⟩ := st5.lk.w.list
                  rw [← e, nD] at hy
                  cases hy
                have hfe : s.rs.filter (fun r => !decide (r = ra)) = s.rs.erase ra := by
                  rw [gd.nd.erase_eq_filter]
                  congr 1
                rw [hfe] at he
                have st7 := st6.rows (L := D) (t' := { s with rs := s.rs.erase ra }) (fun _ => rfl) ⟨pl', he, hD, hc⟩ (fun r hr => st6.k r (List.mem_of_mem_erase hr)) nDw
                have hq7 : upd H16 o (.dK (ownD D s)) qa = some (.tup (rwV ra)) := (upd_ne fun e => by
                  rw [e, st6.o] at hq6
                  cases hq6).trans hq6
                refine ⟨_, rfl, _, _, rfl, own_prows (v := D) st6.o, nx_ap ?_⟩
                generalize upd H16 o (.dK (ownD D s)) = H17 at *
                refine ⟨_, rfl, _, _, _, _, rfl, rfl, SqT.of hq7, rfl, _, rfl, _, _, _, _, rfl, rfl, SqT.of hq7, rfl, _, rfl, _, rfl, .inr ⟨_, rfl, _, _, rfl, rfl, .inl ⟨by decide, by decide⟩, _, _, rfl, rfl, _, rfl, _, _, rfl, own_turns st7.o, _, _, rfl, rfl, _, rfl, _, rfl, .inr ⟨_, rfl, _, _, rfl, rfl, by walk_at "few", fun pT nT => ⟨_, _, rfl, SqT.of upd_same, rfl, _, _, rfl, ?_⟩⟩⟩⟩
                have st8 := st7.fr0 (Fr.new nT (o := .tup [.str ra.boat, .str ra.way, .int (18 + 12 * (if (!rdy s.side ra.way) = true then 1 else 0)), .int (s.turns + 1 + (if (!rdy s.side ra.way) = true then 1 else 0))]))
                show gSub _ _ _ _ _ (upd H17 pT (.tup [.str ra.boat, .str ra.way, .int (18 + 12 * (if (!rdy s.side ra.way) = true then 1 else 0)), .int (s.turns + 1 + (if (!rdy s.side ra.way) = true then 1 else 0))])) _
                generalize upd H17 pT (.tup [.str ra.boat, .str ra.way, .int (18 + 12 * (if (!rdy s.side ra.way) = true then 1 else 0)), .int (s.turns + 1 + (if (!rdy s.side ra.way) = true then 1 else 0))]) = H18 at *
                have st9 := st8.put (t' := { s with rs := s.rs.erase ra, boat := some ra.boat }) rfl
                have st10 := st9.put (t' := { s with rs := s.rs.erase ra, boat := some ra.boat, way := some ra.way }) rfl
                have st11 := st10.put (t' := { s with rs := s.rs.erase ra, boat := some ra.boat, way := some ra.way, left := 18 + 12 * (if (!rdy s.side ra.way) = true then 1 else 0) }) rfl
                have st12 := st11.put (t' := { s with rs := s.rs.erase ra, boat := some ra.boat, way := some ra.way, left := 18 + 12 * (if (!rdy s.side ra.way) = true then 1 else 0), turns := s.turns + 1 + (if (!rdy s.side ra.way) = true then 1 else 0) }) rfl
                have e4 : ({ s with rs := s.rs.erase ra, boat := some ra.boat, way := some ra.way, left := 18 + 12 * (if (!rdy s.side ra.way) = true then 1 else 0), turns := s.turns + 1 + (if (!rdy s.side ra.way) = true then 1 else 0) } : LkS) = begS s ra := by
                  unfold begS
                  cases hr : rdy s.side ra.way with
                  | true => simp
                  | false =>
                    simp
                    omega
                refine ⟨_, rfl, _, _, rfl, own_pboat (v := some ra.boat) st8.o, _, _, rfl, _, rfl, _, _, rfl, own_pway (v := some ra.way) st9.o, _, _, rfl, _, rfl, _, _, rfl, own_pleft st10.o, _, _, rfl, _, rfl, _, _, rfl, own_pturns st11.o, rfl, hR _ _ ⟨begS s ra, D, tm, _, _, _, _, _, _, _, _, _, _, rfl, ?_, ⟨gd.nd.erase _, gd.sd, fun r hr => gd.rw r (List.mem_of_mem_erase hr), .inr ⟨ra.boat, ra.way, rfl, rfl, ?_, gd.rw ra hra, ?_⟩⟩, hfl, ?_⟩⟩
                · exact st12.eqT e4
                · show (1 : Int) ≤ 12 + 6 + (if rdy s.side ra.way = true then 0 else 12)
                  split <;> omega
                · unfold okR at hokr
                  rw [Bool.and_eq_true] at hokr
                  exact hokr.2
                · show (s.rs.erase ra).length ≤ i + 1
                  have := List.length_erase_le (a := ra) (l := s.rs)
                  omega
          · clear hd hd1
            refine gname_ap (nx_ap ?_)
            refine seqJ (fun σ H' => ∃ (xd : V) (t : LkS), σ = [some (.ref a), some (.ref pd), some (.int fill), some (.str side), some (.int tm), some (.ref p.a), some (.ref o), x7, some (.int sort), x9, x10, x11, x12, x13, x14, x15, some xd, none, none, none, none, none, none, none] ∧ St2 K H' l pd p o b s t ∧ ((s.boat = none ∧ xd = .non ∧ t = s) ∨ (s.boat ≠ none ∧ s.left - 1 > 0 ∧ xd = .non ∧ t = { s with left := s.left - 1 }) ∨ (s.boat ≠ none ∧ ¬ s.left - 1 > 0 ∧ t = dneS s ∧ ∃ qd, xd = .ref qd ∧ H' qd = some (.tup [oV s.boat, oV s.way])))) (fun R2 hR2 => ?_) ?_
            · rcases gd.bw with ⟨hbn, hwn⟩ | ⟨bb, wy, hbb, hww, hl1, hsw, hsb⟩
              · have e : oV s.boat = .non := by rw [hbn] <;> rfl
                exact ⟨_, rfl, _, _, rfl, own_boat st2.o, rfl, _, rfl, ite_no (by rw [e]; rfl) (hR2 _ _ ⟨_, s, rfl, st2, .inl ⟨hbn, rfl, rfl⟩⟩)⟩
              · have e : oV s.boat = .str bb := by rw [hbb] <;> rfl
                have ew : oV s.way = .str wy := by rw [hww] <;> rfl
                have hbn : s.boat ≠ none := by
                  rw [hbb]
                  exact fun z => by cases z
                refine ⟨_, rfl, _, _, rfl, own_boat st2.o, rfl, _, rfl, ite_yes (by rw [e]; rfl) ?_⟩
                refine ⟨_, rfl, _, _, rfl, own_left st2.o, _, _, rfl, rfl, _, rfl, _, _, rfl, own_pleft st2.o, nx_ap ?_⟩
                have st3 := st2.put (t' := { s with left := s.left - 1 }) rfl
                generalize upd H12 o (.dK (ownD b { s with left := s.left - 1 })) = H13 at *
                refine ⟨_, rfl, _, _, rfl, own_left st3.o, rfl, _, rfl, ?_⟩
                by_cases hz : s.left - 1 = 0
                · refine ite_yes (by simp [hz]) ?_
                  refine ⟨_, rfl, _, _, rfl, own_boat st3.o, _, rfl, _, _, rfl, own_way st3.o, by walk_at "few", fun qd nqd => ?_⟩
                  have st4 := st3.fr0 (Fr.new nqd (o := .tup [oV s.boat, oV s.way]))
                  have hqd : upd H13 qd (.tup [oV s.boat, oV s.way]) qd = some (.tup [oV s.boat, oV s.way]) := upd_same
                  show tDGet _ _ _ (upd H13 qd (.tup [oV s.boat, oV s.way])) _
                  generalize upd H13 qd (.tup [oV s.boat, oV s.way]) = H14 at *
                  refine ⟨_, rfl, _, _, rfl, own_way st4.o, by walk_at "few", fun pT nT => ?_⟩
                  have st5 := st4.fr0 (Fr.new nT (o := .tup [.ref qd, oV s.way]))
                  have hqd5 := (Fr.new (T := FL K) (S := []) (o := .tup [.ref qd, oV s.way]) nT).t hqd (by simp)
                  refine ⟨_, _, rfl, SqT.of upd_same, rfl, _, _, rfl, gname_ap ?_⟩
                  show gCons _ _ _ _ (upd H14 pT (.tup [.ref qd, oV s.way])) _
                  generalize upd H14 pT (.tup [.ref qd, oV s.way]) = H15 at *
                  rw [ew]
                  have st6 := st5.put (t' := { s with left := s.left - 1, side := wy }) rfl
                  refine ⟨_, _, rfl, _, rfl, _, _, rfl, own_pside (v := wy) st5.o, rfl, nx_ap ?_⟩
                  have hqd6 : upd H15 o (.dK (ownD b { s with left := s.left - 1, side := wy })) qd = some (.tup [oV s.boat, oV s.way]) := (upd_ne fun e => by
                    rw [e, st5.o] at hqd5
                    cases hqd5).trans hqd5
                  show tAsg _ _ _ _ (upd H15 o (.dK (ownD b { s with left := s.left - 1, side := wy })))
                  generalize upd H15 o (.dK (ownD b { s with left := s.left - 1, side := wy })) = H16 at *
                  refine ⟨by walk_at "few", fun pU nU => ⟨_, _, rfl, SqT.of upd_same, rfl, _, _, rfl, ?_⟩⟩
                  have st7 := st6.fr0 (Fr.new nU (o := .tup [.non, .non]))
                  have hqd7 := (Fr.new (T := FL K) (S := []) (o := .tup [.non, .non]) nU).t hqd6 (by simp)
                  generalize upd H16 pU (.tup [.non, .non]) = H17 at *
                  have st8 := st7.put (t' := { s with left := s.left - 1, side := wy, boat := none }) rfl
                  have st9 := st8.put (t' := { s with left := s.left - 1, side := wy, boat := none, way := none }) rfl
                  have qdo : qd ≠ o := fun e => by
                    rw [e, st7.o] at hqd7
                    cases hqd7
                  refine ⟨_, rfl, _, _, rfl, own_pboat (v := none) st7.o, _, _, rfl, _, rfl, _, _, rfl, own_pway (v := none) st8.o, rfl, hR2 _ _ ⟨_, _, rfl, st9.eqT (t' := dneS s) ?_, .inr (.inr ⟨hbn, by omega, rfl, qd, rfl, (upd_ne qdo).trans ((upd_ne qdo).trans hqd7)⟩)⟩⟩
                  unfold dneS
                  rw [ew]
                  rcases isSide_or hsw with z | z <;> rw [z] <;> rfl
                · refine ite_no (by simp [hz]) ?_
                  exact hR2 _ _ ⟨_, _, rfl, st3, .inr (.inl ⟨hbn, by omega, rfl, rfl⟩)⟩
            rintro σ H13 ⟨xd, t, rfl, st3, hcase⟩
            refine ⟨_, rfl, _, _, _, rfl, st3.lk.o, nm_Lock_minute _, _, rfl, p, s, rfl, st3.lk, fun hbn => ?_, fun hbn hgt H14 f L14 => ?_, fun hbn hgt H14 q f L14 hq nq => ?_⟩
            · rcases hcase with ⟨_, rfl, rfl⟩ | ⟨z, _⟩ | ⟨z, _⟩
              · exact ⟨_, rfl, .none, .none, .non, .non, rfl, rfl, _, rfl, ite_no rfl (hR _ _ ⟨t, b, tm, _, _, _, _, _, _, _, _, _, _, rfl, st3, gd, hfl, by omega⟩)⟩
              · exact absurd hbn z
              · exact absurd hbn z
            · rcases hcase with ⟨z, _⟩ | ⟨_, _, rfl, rfl⟩ | ⟨_, z, _⟩
              · exact absurd z hbn
              · have st4 := st3.frL (f.mono fun c hc => by rw [List.mem_singleton.mp hc]; exact List.mem_cons_self ..) L14
                refine ⟨_, rfl, .none, .none, .non, .non, rfl, rfl, _, rfl, ite_no rfl (hR _ _ ⟨_, b, tm, _, _, _, _, _, _, _, _, _, _, rfl, st4, ⟨gd.nd, gd.sd, gd.rw, .inr ?_⟩, hfl, by show s.rs.length ≤ i + 1; omega⟩)⟩
                rcases gd.bw with ⟨z, _⟩ | ⟨bb, wy, hbb, hww, hl1, hsw, hsb⟩
                · exact absurd z hbn
                · exact ⟨bb, wy, hbb, hww, by show 1 ≤ s.left - 1; omega, hsw, hsb⟩
              · exact absurd hgt z
            · rcases hcase with ⟨z, _⟩ | ⟨_, z, _⟩ | ⟨_, _, rfl, qd, rfl, hqd⟩
              · exact absurd z hbn
              · exact absurd z hgt
              · have st4 := st3.frL (f.mono fun c hc => by rw [List.mem_singleton.mp hc]; exact List.mem_cons_self ..) L14
                have hqd4 := f.t hqd fun m => st3.lk.nt _ (by rw [List.mem_singleton.mp m]; exact List.mem_cons_self ..) _ hqd
                rcases gd.bw with ⟨z, _⟩ | ⟨bb, wy, hbb, hww, hl1, hsw, hsb⟩
                · exact absurd z hbn
                · have hcan : (PyData.tuple [dO s.boat, dO s.way]).canLay0 = true := by
                    rw [hbb, hww]
                    simp [dO, PyData.canLay0, PyData.canLayAll0, hsb, sideOk hsw]
                  have hsh : SeqAt.shaped (PyData.tuple [dO s.boat, dO s.way]) = true := shaped_of hcan (by rw [hbb, hww]; simp [dO, PyData.depth, PyData.depthAll])
                  refine ⟨_, rfl, .tuple [dO s.boat, dO s.way], .tuple [dO s.boat, dO s.way], .tup (SqT.of hq) (.cons (dO_dp _) (.cons (dO_dp _) .nil)), .tup (SqT.of hqd4) (.cons (dO_dp _) (.cons (dO_dp _) .nil)), hsh, hsh, _, rfl, ite_no (not_eqv hcan) (hR _ _ ⟨_, b, tm, _, _, _, _, _, _, _, _, _, _, rfl, st4, ⟨gd.nd, ?_, gd.rw, .inl ⟨rfl, rfl⟩⟩, hfl, by show s.rs.length ≤ i + 1; omega⟩)⟩
                  show isSide (if decide (oV s.way = V.str "up") = true then "up" else "down") = true
                  split <;> decide +kernel
      · rintro σ H13 ⟨s, b, tm, x7, x8, x9, x10, x11, x12, x13, x14, x15, x16, rfl, st, gd, hfl, hln⟩
        clear st2
        refine seqJ (JL K a l pd p o fill side (i + 1)) (fun R hR => ?_) ?_
        · have hcan := dSt_can gd st.k
          have hsh := dSt_shaped gd st.k
          refine ifs_x (T := FL K) (b := false || false) (or_x (test_x (b := false) fun Q q => ?_) fun _ H14 f14 => test_x (b := false) fun Q q => ?_) (fun z => by cases z) (fun _ H14 f => hR _ _ ⟨s, b, tm, _, _, _, _, _, _, _, _, _, _, rfl, st.fr0 f, gd, hfl, hln⟩)
          · refine ⟨_, rfl, _, _, _, _, _, rfl, st.lk.o, T.k_Lock, T.n_Lock_side, lk_Lock_side _, _, rfl, _, _, _, _, _, rfl, st.lk.o, T.k_Lock, T.n_Lock_waiting, lk_Lock_waiting _, _, rfl, _, _, _, _, _, rfl, st.lk.o, T.k_Lock, T.n_Lock_boat, lk_Lock_boat _, _, rfl, _, _, _, _, _, rfl, st.lk.o, T.k_Lock, T.n_Lock_way, lk_Lock_way _, _, rfl, _, _, _, _, _, rfl, st.lk.o, T.k_Lock, T.n_Lock_left, lk_Lock_left _, _, rfl, _, _, _, _, _, rfl, st.lk.o, T.k_Lock, T.n_Lock_turns, lk_Lock_turns _, by walk_at "few", fun pA nA => ?_⟩
            have fA := Fr.new (T := FL K) (S := []) (o := .tup [.str s.side, .ref p.wa, oV s.boat, oV s.way, .int s.left, .int s.turns]) nA
            have hA : upd H13 pA (.tup [.str s.side, .ref p.wa, oV s.boat, oV s.way, .int s.left, .int s.turns]) pA = some (.tup [.str s.side, .ref p.wa, oV s.boat, oV s.way, .int s.left, .int s.turns]) := upd_same
            have stA := st.fr0 fA
            show tTup _ _ (upd H13 pA (.tup [.str s.side, .ref p.wa, oV s.boat, oV s.way, .int s.left, .int s.turns])) _
            generalize upd H13 pA (.tup [.str s.side, .ref p.wa, oV s.boat, oV s.way, .int s.left, .int s.turns]) = HA at *
            refine ⟨_, rfl, _, _, rfl, own_side stA.o, _, rfl, _, _, rfl, own_rows stA.o, _, rfl, _, _, rfl, own_boat stA.o, _, rfl, _, _, rfl, own_way stA.o, _, rfl, _, _, rfl, own_left stA.o, _, rfl, _, _, rfl, own_turns stA.o, by walk_at "few", fun pB nB => ?_⟩
            have fB := Fr.new (T := FL K) (S := []) (o := .tup [.str s.side, .ref b, oV s.boat, oV s.way, .int s.left, .int s.turns]) nB
            have stB := stA.fr0 fB
            refine ⟨dSt s, dSt s, .tup (SqT.of (fB.t hA (by simp))) (.cons (.str _) (.cons (dRws_at stB.lk.w) (.cons (dO_dp _) (.cons (dO_dp _) (.cons (.int _) (.cons (.int _) .nil)))))), .tup (SqT.of upd_same) (.cons (.str _) (.cons (dRws_at stB.w) (.cons (dO_dp _) (.cons (dO_dp _) (.cons (.int _) (.cons (.int _) .nil)))))), hsh, hsh, ?_⟩
            rw [not_eqv hcan]
            exact q _ (fA.trans fB)
          · have st3 := st.fr0 f14
            refine ⟨_, rfl, _, _, _, rfl, st3.lk.o, nm_Lock_next_row _, _, rfl, p, s, rfl, st3.lk, by omega, fun hn H15 f15 => ?_, fun r0 H15 q0 hnx f15 hq0 nq0 => ?_⟩
            · have st4 := st3.fr0 f15
              refine ⟨_, rfl, _, rfl, o, b, s, rfl, st4.o, st4.w, st4.k, by omega, fun _ H16 f16 => ⟨.none, .none, .non, .non, rfl, rfl, q _ (f15.trans f16)⟩, fun r1 H16 q1 hh _ _ _ => ?_⟩
              have := hh.1
              rw [hn] at this
              cases this
            · have st4 := st3.fr0 f15
              refine ⟨_, rfl, _, rfl, o, b, s, rfl, st4.o, st4.w, st4.k, by omega, fun hn H16 f16 => ?_, fun r1 H16 q1 hh f16 hq1 _ => ?_⟩
              · have := hnx.1
                rw [hn] at this
                cases this
              · obtain rfl := head_next hnx hh
                have hk0 := st.k _ hnx.1
                refine ⟨dRw r0, dRw r0, dRw_dp (f16.t hq0 (by simp)), dRw_dp hq1, dRw_shaped hk0, dRw_shaped hk0, ?_⟩
                rw [not_eqv (dRw_can hk0)]
                exact q _ (f15.trans f16)
        rintro σ H14 ⟨s, b, tm, x7, x8, x9, x10, x11, x12, x13, x14, x15, x16, rfl, st, gd, hfl, hln⟩
        refine ⟨by walk_at "few", fun q nq => ⟨_, rfl, ⟨_, SqL.of upd_same⟩, ?_⟩⟩
        have hq : upd H14 q (.lst [.str "up", .str "down"]) q = some (.lst [.str "up", .str "down"]) := upd_same
        have st1 := st.fr0 (Fr.new nq (o := .lst [.str "up", .str "down"]))
        generalize upd H14 q (.lst [.str "up", .str "down"]) = H15 at *
        refine for_it walk_list (fun j σ H' => ∃ x9 x14, σ = [some (.ref a), some (.ref pd), some (.int fill), some (.str side), some (.int tm), some (.ref p.a), some (.ref o), x7, x8, x9, x10, x11, x12, x13, x14, x15, x16, none, none, none, none, none, none, none] ∧ St2 K H' l pd p o b s s ∧ H' q = some (.lst [.str "up", .str "down"])) ⟨_, _, rfl, st1, hq⟩ (fun j σ H' _ ⟨_, _, _, _, h⟩ => SqL.of h) ?_ ?_
        · rintro j y σ H16 H17 hj ⟨x9, x14, rfl, st2, hq2⟩ ⟨rfl, hy⟩
          obtain ⟨wy, rfl, hwy⟩ : ∃ wy : Str, y = .str wy ∧ isSide wy = true := by
            have hj2 : j < 2 := hj
            have : j = 0 ∨ j = 1 := by omega
            rcases this with rfl | rfl
            · cases hy
              exact ⟨"up", rfl, by decide +kernel⟩
            · cases hy
              exact ⟨"down", rfl, by decide +kernel⟩
          refine gname_ap ?_
          refine ⟨_, rfl, rfl, _, rfl, _, _, rfl, own_side st2.o, rfl, rfl, gname_ap (nx_ap ?_)⟩
          have er : decide (V.bl (decide (V.str wy = V.str "down")) = V.bl (decide (V.str s.side = V.str "up"))) = rdy s.side wy := by
            simp [rdy]
          rw [er]
          have ho := st2.lk.o
          refine ifs_p (b := false || (false || (false || false))) (or_p (test_p fun _ k => ?_) fun _ => or_p (test_p fun _ k => ?_) fun _ => or_p (test_p fun _ k => ?_) fun _ => test_p fun _ k => ?_) (fun z => by cases z) (fun _ => ⟨_, _, rfl, st2, hq2⟩)
          · refine ⟨_, rfl, _, _, _, rfl, ho, nm_Lock_is_ready _, _, rfl, _, _, rfl, _, _, _, _, rfl, rfl, ho, _, rfl, rfl, ?_⟩
            rw [ne_same]
            exact k
          · refine ⟨_, rfl, _, _, _, rfl, ho, nm_Lock_passage _, _, rfl, _, _, rfl, _, _, _, _, rfl, rfl, ho, _, rfl, _, rfl, .inr ⟨_, rfl, _, _, rfl, rfl, .inl ⟨by decide, by decide⟩, _, _, rfl, rfl, rfl, ?_⟩⟩
            rw [ne_int pas_eq]
            exact k
          · refine ⟨_, rfl, _, _, _, rfl, ho, nm_Lock_needs _, _, rfl, _, _, rfl, _, _, _, _, rfl, rfl, ho, _, rfl, ?_⟩
            refine andv_p (b := decide (V.str wy = V.str "down")) (c := rdy s.side wy) (fun _ k => ⟨_, rfl, rfl, k⟩) (fun _ _ k => ⟨_, rfl, k⟩) _ ?_
            refine ⟨_, rfl, .inr ⟨_, rfl, _, _, rfl, rfl, .inl ⟨by omega, by omega⟩, rfl, ?_⟩⟩
            rw [Cn.ne_int (by rw [← hfl]; exact need_eq)]
            exact k
          · refine ⟨_, rfl, _, _, _, rfl, ho, nm_Lock_gives _, _, rfl, _, _, rfl, _, _, _, _, rfl, rfl, ho, _, rfl, ?_⟩
            refine andv_p (b := decide (V.str wy = V.str "up")) (c := rdy s.side wy) (fun _ k => ⟨_, rfl, rfl, k⟩) (fun _ _ k => ⟨_, rfl, k⟩) _ ?_
            refine ⟨_, rfl, .inr ⟨_, rfl, _, _, rfl, rfl, .inl ⟨by omega, by omega⟩, rfl, ?_⟩⟩
            rw [Cn.ne_int (by rw [← hfl]; exact give_eq gd.sd hwy)]
            exact k
        · rintro σ H16 ⟨x9, x14, rfl, st2, hq2⟩
          exact ⟨s, b, tm, _, _, _, _, _, _, _, _, _, _, rfl, st2, gd, hfl, hln⟩
    · obtain ⟨s, b, time, x7, x8, x9, x10, x11, x12, x13, x14, x15, x16, rfl, st, gd, hfl, hln⟩ := h
      exact hR _ _ ⟨s, b, time, _, _, _, _, _, _, _, _, _, _, rfl, st, gd, hfl, by omega⟩
  rintro σ H6 ⟨s, b, time, x7, x8, x9, x10, x11, x12, x13, x14, x15, x16, rfl, st, gd, hfl, hln⟩
  have st1 := st.b0
  clear st gd hfl hln J5
  have pdl : ∀ (H' : Hp) (D : Addr) (ws : List Str), St0 K H' l pd → H' D = some (.lst (ws.map V.str)) → D ∉ [pd] ∧ l ≠ D := fun H' D ws z hD => by
    obtain ⟨a1, b1, d1, hd1⟩ := z.dice
    refine ⟨fun m => ?_, fun e => ?_⟩
    · rw [List.mem_singleton.mp m, hd1] at hD
      injection hD with hD
      injection hD with hD
      cases ws with
      | nil => cases hD
      | cons x t =>
        injection hD with hD
        cases hD
    · rw [← e, z.l] at hD
      injection hD with hD
      injection hD with hD
      cases ws with
      | nil => cases hD
      | cons x t =>
        injection hD with hD
        cases hD
  refine seqJ (fun σ H' => ∃ (D : Addr) (ws : List Str), σ = [some (.ref a), some (.ref pd), some (.int fill), some (.str side), some (.int time), some (.ref p.a), some (.ref o), x7, x8, x9, x10, x11, x12, x13, x14, x15, x16, some (.ref D), none, none, none, none, none, none] ∧ St0 K H' l pd ∧ H' D = some (.lst (ws.map V.str)) ∧ ws.length ≤ 9 ∧ ∀ w ∈ ws, isSide w = true) (fun R hR => ?_) ?_
  · obtain ⟨a1, b1, d1, hd1⟩ := st1.dice
    refine ⟨_, rfl, _, _, rfl, pd, _, _, _, 9, rfl, rfl, hd1, by decide, by decide, fun a2 b2 d2 r2 l2 u2 => ⟨_, rfl, by omega, by omega, fun D nD => ?_⟩⟩
    have st2 := (st1.roll (a := a2) (b := b2) (d := d2)).fr (S := []) (Fr.new nD (o := .lst [])) (by simp) (by simp)
    refine lc_it walk_range (fun i H' => ∃ ws : List Str, H' D = some (.lst (ws.map V.str)) ∧ ws.length = i ∧ (∀ w ∈ ws, isSide w = true) ∧ St0 K H' l pd) ⟨[], upd_same, rfl, fun _ z => by simp at z, st2⟩ (fun _ _ _ _ => trivial) ?_ ?_
    · rintro i x H7 H8 hi ⟨ws, hD, hlen, hws, st3⟩ ⟨rfl, rfl⟩
      refine ⟨rfl, yes_it ⟨by walk_at "few", fun q nq => ?_⟩⟩
      have hD2 := (Fr.new (T := FL K) (S := []) (o := .lst [.str "up", .str "down"]) nq).l hD (by simp)
      have st4 := st3.fr (S := []) (Fr.new nq (o := .lst [.str "up", .str "down"])) (by simp) (by simp)
      have hq : upd H8 q (.lst [.str "up", .str "down"]) q = some (.lst [.str "up", .str "down"]) := upd_same
      have hqD : q ≠ D := (ne_of_none hD nq).symm
      generalize upd H8 q (.lst [.str "up", .str "down"]) = H9 at *
      obtain ⟨a3, b3, d3, hd3⟩ := st4.dice
      refine ⟨_, rfl, _, _, rfl, pd, _, _, _, 2, rfl, rfl, hd3, by decide, by decide, fun a4 b4 d4 r4 l4 u4 => ?_⟩
      have st5 := st4.roll (a := a4) (b := b4) (d := d4)
      have fr5 : Fr (FL K) [pd] H9 (upd H9 pd (DiceO a4 b4 d4)) := Fr.upd hd3 rfl (List.mem_singleton.mpr rfl)
      obtain ⟨np1, np2⟩ := pdl _ _ _ st4 hD2
      have hD5 := fr5.l hD2 np1
      have hq5 := fr5.l hq (fun m => by
        rw [List.mem_singleton.mp m, hd3] at hq
        cases hq)
      obtain ⟨sd, hsd, hss⟩ := side_at l4 u4
      generalize upd H9 pd (DiceO a4 b4 d4) = H10 at *
      refine ⟨_, _, _, _, rfl, rfl, SqL.of hq5, hsd, _, hD5, ?_, ws ++ [sd], ?_, by simp [hlen], fun w hw => ?_, ?_⟩
      · rw [List.length_map, hlen]
        exact Nat.lt_of_lt_of_le (show i < 1000 by omega) line1000
      · rw [List.map_append]
        exact upd_same
      · rcases List.mem_append.mp hw with z | z
        · exact hws w z
        · rw [List.mem_singleton.mp z]
          exact hss
      · exact st5.fr (S := [D]) (Fr.upd hD5 rfl (List.mem_singleton.mpr rfl)) (fun m => np2 (List.mem_singleton.mp m)) (fun m => np1 (List.mem_singleton.mpr (List.mem_singleton.mp m).symm))
    · rintro H7 ⟨ws, hD, hlen, hws, st3⟩
      exact gname_ap (hR _ _ ⟨D, ws, rfl, st3, hD, by omega, hws⟩)
  rintro σ H7 ⟨D, ws, rfl, st2, hD, hl9, hws⟩
  clear st1
  obtain ⟨hw1, hw2⟩ := run_eq (fill := fill) hws hs
  have hfb : ∀ (n : Nat) (us : List Str) (t : LTS), us.length ≤ n → (t.fills ≤ (ltrun t us).fills ∧ (ltrun t us).fills ≤ t.fills + n) := by
    intro n us
    induction us generalizing n with
    | nil =>
      intro t _
      exact ⟨Int.le_refl _, by show t.fills ≤ t.fills + n; omega⟩
    | cons w r ih =>
      intro t hn
      have hn' : r.length + 1 ≤ n := hn
      obtain ⟨i1, i2⟩ := ih (n - 1) (ltst t w) (by omega)
      have e : ltrun t (w :: r) = ltrun (ltst t w) r := rfl
      rw [e]
      have hst : t.fills ≤ (ltst t w).fills ∧ (ltst t w).fills ≤ t.fills + 1 := by
        unfold ltst
        simp only
        split <;> omega
      omega
  have hf9 := hfb 9 ws ⟨side, 0, 0⟩ hl9
  refine seqJ (fun σ H' => σ = [some (.ref a), some (.ref pd), some (.int fill), some (.str side), some (.int time), some (.ref p.a), some (.ref o), x7, x8, x9, x10, x11, x12, x13, x14, x15, x16, some (.ref D), none, some (.int (ltrun ⟨side, 0, 0⟩ ws).fills), some (.int (ltrun ⟨side, 0, 0⟩ ws).turns), none, none, none] ∧ St0 K H' l pd ∧ H' D = some (.lst (ws.map V.str))) (fun R hR => ?_) ?_
  · refine ⟨_, rfl, _, rfl, _, _, rfl, D, ws, side, rfl, rfl, .inl hD, fun H8 q f nq hq => ⟨_, _, rfl, SqT.of hq, rfl, _, _, rfl, _, _, rfl, rfl, hR _ _ ⟨rfl, st2.fr f (by simp) (by simp), f.l hD (by simp)⟩⟩⟩
  rintro σ H8 ⟨rfl, st3, hD3⟩
  clear st2 hD
  refine seqJ (fun σ H' => σ = [some (.ref a), some (.ref pd), some (.int fill), some (.str side), some (.int time), some (.ref p.a), some (.ref o), x7, x8, x9, x10, x11, x12, x13, x14, x15, x16, some (.ref D), none, some (.int (ltrun ⟨side, 0, 0⟩ ws).fills), some (.int (ltrun ⟨side, 0, 0⟩ ws).turns), none, none, none] ∧ St0 K H' l pd) (fun R hR => ?_) ?_
  · have hbw : badW ws fill side = false := by
      unfold badW badL
      rw [hs, decide_eq_false (by omega)]
      show (false || _) = false
      rw [Bool.false_or, List.any_eq_false]
      intro w hw z
      rw [hws w hw] at z
      cases z
    refine ⟨_, rfl, _, rfl, _, rfl, _, _, _, rfl, D, ws, fill, side, rfl, rfl, rfl, .inl hD3, st3.tabs, by omega, fun w hw => sideOk (hws w hw), (fun z => by rw [hbw] at z; cases z), fun _ H9 q f hq nq => ?_⟩
    refine ⟨_, rfl, _, rfl, _, _, rfl, rfl, ?mulc, _, rfl, by walk_at "few", fun pT nT => ?_⟩
    case mulc => exact .inr ⟨by omega, by omega⟩
    have hq2 := (Fr.new (T := FL K) (S := []) (o := .tup [.int ((ltrun ⟨side, 0, 0⟩ ws).fills * fill), .int (ltrun ⟨side, 0, 0⟩ ws).turns]) nT).t hq (by simp)
    have st4 := (st3.fr f (by simp) (by simp)).fr (S := []) (Fr.new (o := .tup [.int ((ltrun ⟨side, 0, 0⟩ ws).fills * fill), .int (ltrun ⟨side, 0, 0⟩ ws).turns]) nT) (by simp) (by simp)
    rw [hw1, hw2] at hq2
    have hcan : PyData.canLay0 (.tuple [.int ((ltrun ⟨side, 0, 0⟩ ws).fills * fill), .int (ltrun ⟨side, 0, 0⟩ ws).turns]) = true := by simp [PyData.canLay0, PyData.canLayAll0]
    have hsh : SeqAt.shaped (.tuple [.int ((ltrun ⟨side, 0, 0⟩ ws).fills * fill), .int (ltrun ⟨side, 0, 0⟩ ws).turns]) = true := shaped_of hcan (by simp [PyData.depth, PyData.depthAll])
    exact ⟨_, _, .tup (SqT.of hq2) (.cons (.int _) (.cons (.int _) .nil)), .tup (SqT.of upd_same) (.cons (.int _) (.cons (.int _) .nil)), hsh, hsh, _, rfl, ite_no (not_eqv hcan) (hR _ _ ⟨rfl, st4⟩)⟩
  rintro σ H9 ⟨rfl, st4⟩
  clear st3 hD3
  refine seqJ (fun σ H' => ∃ U Vn : Nat, U + Vn ≤ 7 ∧ σ = [some (.ref a), some (.ref pd), some (.int fill), some (.str side), some (.int time), some (.ref p.a), some (.ref o), x7, x8, x9, x10, x11, x12, x13, x14, x15, x16, some (.ref D), none, some (.int (ltrun ⟨side, 0, 0⟩ ws).fills), some (.int (ltrun ⟨side, 0, 0⟩ ws).turns), some (.int (U : Nat)), some (.int (Vn : Nat)), none] ∧ St0 K H' l pd) (fun R hR => ?_) ?_
  · obtain ⟨a1, b1, d1, hd1⟩ := st4.dice
    refine ⟨_, rfl, _, _, rfl, pd, _, _, _, 5, rfl, rfl, hd1, by decide, by decide, fun a2 b2 d2 r2 l2 u2 => ⟨_, rfl, _, _, rfl, pd, _, _, _, 4, rfl, rfl, upd_same, by decide, by decide, fun a3 b3 d3 r3 l3 u3 => ?_⟩⟩
    obtain ⟨U, rfl⟩ := Int.eq_ofNat_of_zero_le l2
    obtain ⟨Vn, rfl⟩ := Int.eq_ofNat_of_zero_le l3
    exact ⟨_, _, rfl, hR _ _ ⟨U, Vn, by omega, rfl, (st4.roll).roll⟩⟩
  rintro σ H10 ⟨U, Vn, hUV, rfl, st5⟩
  clear st4
  obtain ⟨hal, haw⟩ := allW_len (U + Vn) U Vn rfl
  have hp7 : 2 ^ (U + Vn) ≤ 2 ^ 7 := Nat.pow_le_pow_right (by decide) hUV
  have htr : ∀ us : List Str, (∀ w ∈ us, isSide w = true) → (ltrun ⟨side, 0, 0⟩ us).turns = trn side us := fun us h => (run_eq (fill := 1) h hs).2.symm
  refine seqJ (fun σ H' => ∃ (E : Addr) (as qs : List Addr), σ = [some (.ref a), some (.ref pd), some (.int fill), some (.str side), some (.int time), some (.ref p.a), some (.ref o), x7, x8, x9, x10, x11, x12, x13, x14, x15, x16, some (.ref D), none, some (.int (ltrun ⟨side, 0, 0⟩ ws).fills), some (.int (ltrun ⟨side, 0, 0⟩ ws).turns), some (.int (U : Nat)), some (.int (Vn : Nat)), some (.ref E)] ∧ St0 K H' l pd ∧ WaysAt H' as (allW U Vn) ∧ H' E = some (.lst (qs.map V.ref)) ∧ qs.length = (allW U Vn).length ∧ ∀ (i : Nat) (q c : Addr) (us : List Str), qs[i]? = some q → as[i]? = some c → (allW U Vn)[i]? = some us → BwAt H' side q c us) (fun R hR => ?_) ?_
  · refine ⟨_, rfl, _, rfl, _, _, rfl, U, Vn, rfl, rfl, by omega, by omega, fun H11 L as f hL hA nL => ⟨_, rfl, ⟨_, SqL.of hL⟩, fun E nE => ?_⟩⟩
    have st6 := st5.fr f (by simp) (by simp)
    refine lcO walk_list (FL K) (fun i => .tup [.int (((allW U Vn)[i]?.map (trn side)).getD 0), .ref ((as[i]?).getD 0)]) (fun _ _ z => by cases z) (by rw [List.length_map, hA.1]; exact Nat.le_trans (by omega) line1000) nE (fun H' f => SqL.of (f.l hL (by simp))) (fun i y H' R' hy g hR' => ?_) (fun H12 qs hE hlen hQ _ _ f2 => ?_)
    · obtain ⟨c, hc, rfl⟩ := map_get hy
      have hi : i < (allW U Vn).length := by
        rw [← hA.1]
        exact (List.getElem?_eq_some_iff.mp hc).1
      have hus : (allW U Vn)[i]? = some (allW U Vn)[i] := List.getElem?_eq_getElem hi
      have hta := g.t (hA.2 i c _ hc hus) (by simp)
      have hside := (haw _ (List.getElem_mem hi)).2
      rw [hus, hc] at hR'
      generalize (allW U Vn)[i] = us at *
      refine gname_ap (hR' _ rfl fun Q q => ?_)
      refine ⟨_, rfl, _, rfl, _, _, rfl, c, us, side, rfl, rfl, .inr hta, fun H13 q1 f1 nq hq => ⟨_, _, _, _, rfl, rfl, SqT.of hq, rfl, _, rfl, by walk_at "few", fun pT nT => ?_⟩⟩
      rw [htr us hside]
      exact q _ pT (f1.trans (.new nT)) (Nw.of f1 nT (by simp)) upd_same
    · rw [List.length_map, hA.1] at hlen
      have hA2 : WaysAt H12 as (allW U Vn) := hA.fr f2
      refine gname_ap (hR _ _ ⟨E, as, qs, rfl, st6.fr f2 (by simp) (by simp), hA2, hE, hlen, fun i q c us h1 h2 h3 => ?_⟩)
      have := hQ i q h1
      rw [h2, h3] at this
      exact ⟨this, hA2.2 i c us h2 h3⟩
  rintro σ H11 ⟨E', as, qs, rfl, st6, hA, hE, hql, hbw⟩
  clear st5
  have hbb : badBW (U : Nat) (Vn : Nat) side = false := by
    unfold badBW
    rw [hs]
    have h1 : ¬ ((if ((Vn : Nat) : Int) < ((U : Nat) : Int) then ((Vn : Nat) : Int) else ((U : Nat) : Int)) < 0) := by
      split <;> omega
    have h2 : ¬ (((U : Nat) : Int) + ((Vn : Nat) : Int) > 10) := by omega
    rw [decide_eq_false h1, decide_eq_false h2]
    rfl
  refine ⟨_, rfl, _, rfl, _, rfl, _, _, _, rfl, (U : Nat), (Vn : Nat), side, rfl, rfl, rfl, st6.tabs, (fun z => by rw [hbb] at z; cases z), fun _ H12 q t us f hb hm hd => ?_⟩
  have st7 := st6.fr f (by simp) (by simp)
  have hE2 := f.l hE (by simp)
  have hdp : DpAll K H12 (qs.map V.ref) ((allW U Vn).map (dBW side)) := dp_objs hql fun i q us h1 h3 => by
    have hi : i < as.length := by
      rw [hA.1]
      exact (List.getElem?_eq_some_iff.mp h3).1
    have h2 := List.getElem?_eq_getElem hi
    have hh := hbw i q _ us h1 h2 h3
    exact BwAt.dp (t := as[i]) (ws := us) ⟨f.t hh.1 (by simp), f.t hh.2 (by simp)⟩
  have hm' : us ∈ allW U Vn := hm
  have hd' : dBW side us = minL ((allW U Vn).map (dBW side)) := hd
  have hcan : (dBW side us).canLay0 = true := dBW_can (haw us hm').2
  have hsh : SeqAt.shaped (dBW side us) = true := shaped_of hcan (by have := dBW_depth side us; omega)
  clear hm hd
  have hget : ∀ (i : Nat) (v : V), (qs.map V.ref)[i]? = some v → Dp K H12 v (((allW U Vn).map (dBW side)).getD i .none) := fun i v hv => by
    obtain ⟨c, hc, rfl⟩ := map_get hv
    have hi : i < (allW U Vn).length := by
      rw [← hql]
      exact (List.getElem?_eq_some_iff.mp hc).1
    have h3 := List.getElem?_eq_getElem hi
    have hi2 : i < as.length := by
      rw [hA.1]
      exact hi
    have hh := hbw i c _ _ hc (List.getElem?_eq_getElem hi2) h3
    rw [List.getD_eq_getElem?_getD, List.getElem?_map, h3]
    exact BwAt.dp (t := as[i]) ⟨f.t hh.1 (by simp), f.t hh.2 (by simp)⟩
  cases hW : allW U Vn with
  | nil => exact absurd hW (allW_ne _ U Vn rfl)
  | cons w0 wr =>
    rw [hW, List.map_cons] at hd' hdp hget
    refine ⟨_, rfl, E', _, dBW side w0, wr.map (dBW side), rfl, SqL.of hE2, hdp, ⟨fun x hx y hy => ?_, fun x hx => ?_⟩, ?_, fun i v hv e => ?_⟩
    · rw [← List.map_cons (f := dBW side)] at hx hy
      obtain ⟨x', _, rfl⟩ := List.mem_map.mp hx
      obtain ⟨y', _, rfl⟩ := List.mem_map.mp hy
      exact dBW_alike _ _ _
    · rw [← List.map_cons (f := dBW side)] at hx
      obtain ⟨x', _, rfl⟩ := List.mem_map.mp hx
      intro z
      cases z
    · rw [← List.map_cons (f := dBW side)]
      exact Nat.le_trans (depthAll_map (n := 2) fun a _ => dBW_depth side a) (by decide)
    · have hv2 := hget i v hv
      rw [e] at hv2
      have hv3 : Dp K H12 v (dBW side us) := by
        rw [hd']
        exact hv2
      exact ⟨_, _, hb.dp, hv3, hsh, hsh, _, rfl, ite_no (not_eqv hcan) (.inr ⟨rfl, st7.tabs, st7.l⟩)⟩
end
end K2
namespace K2
open PySem PySem.Spec PyProof.Rows L2 Cn
abbrev R : PySem.W.OpenRow := PySem.W.OpenLaw.row PySem.Challenge.rw_canalstack_k02_locks_and_who_goes_next
abbrev hk : PySem.W.Hook := He.hookX 5 fa fn [] tf exB
def ob (s : PySem.W.SharedT) : He.AlX := He.obsX 5 fa fn [] tf exB (HandSHeadRun.getT s)
theorem ob_eq (s : PySem.W.SharedT) : ob s = hk.obs s.abs := He.obsX_eq (HandSHeadRun.getT_eq s)
theorem run (w : World) : HandSHeadRun.RunEq R (PySem.W.view R.prog [18]) hk ob 3000 loose w := by
  intro os
  kernel_rfl
theorem facts {w : World} {K : PySem.W.Frag} {h : Heap} {mg : Str → Option Value} {f : Addr} (X : K.In h) (G : h.Ns mainGlobals mg) (hfa : mg ("law" : Str) = some (.ref f)) (c : He.SaysX fa fn [] tf exB w h K) :
    LamX.LawAtS PySem.Challenge.rw_canalstack_k02_locks_and_who_goes_next w K (L2.CX (PySem.Challenge.rw_canalstack_k02_locks_and_who_goes_next).prog w) 20 63 "script" mg f h := by
  obtain ⟨fd, F⟩ := c.t.d.def_ 19 (d := d_law) rfl
  have e := hfa.symm.trans (He.glo_ok X G (c.t.d.fact 36 (f := .glo "law") rfl))
  cases e
  have F0 := F
  rw [dvs_nil (d := d_law) (K := K) rfl] at F0
  have b := FunD.bindsA (ps := ["script"]) F0 fun _ _ _ _ _ _ us hl => match us, hl with | [_], _ => rfl
  refine ⟨fd, tf.map (He.cT K), spLaw K, fun p hp => ?_, fun p hp => ?_, fun p hp => ?_, fun s v => b s [v] rfl, fun H a ns hl _ hT hS => ⟨.ref a, rfl, a, ns, rfl, hS, fun p hp => ?_, fun _ => rfl⟩, fun base hb hg hTB => (ok_law (txt_of X G c hTB) fd F).mono (by decide)⟩
  · obtain ⟨q, hq, rfl⟩ := List.mem_map.mp hp
    exact c.empty q hq
  · obtain ⟨q, hq, rfl⟩ := List.mem_map.mp hp
    exact c.out q hq
  · obtain ⟨q, hq, rfl⟩ := List.mem_map.mp hp
    exact PySem.W.codeHd_of_K X (c.hd q hq)
  · have hq : ∃ q ∈ tf.map (He.cT K), q.2 = p.1 := by
      unfold FL at hp
      simp only [List.mem_cons, List.not_mem_nil, or_false] at hp
      rcases hp with rfl | rfl | rfl
      · exact ⟨_, List.mem_map_of_mem tm_Lock_join, rfl⟩
      · exact ⟨_, List.mem_map_of_mem tm_law_plain, rfl⟩
      · exact ⟨_, List.mem_map_of_mem tm_law, rfl⟩
    obtain ⟨q, hq, e⟩ := hq
    exact ⟨#[], by rw [← e]; exact hT q hq, trivial, fun pos cv z => by cases z⟩
end K2
open PySem PySem.W PySem.Calls PyProof.Rows
theorem PySem.Challenge.cw_canalstack_k02_locks_and_who_goes_next_holds : PySem.Challenge.rw_canalstack_k02_locks_and_who_goes_next.Holds := by
  w_on; o_law
  refine HandSHeadRun.head_any (r := OpenLaw.row PySem.Challenge.rw_canalstack_k02_locks_and_who_goes_next) (q := view (OpenLaw.row PySem.Challenge.rw_canalstack_k02_locks_and_who_goes_next).prog [18]) (H := K2.hk) (ob := K2.ob) (M := 3000) (loose := K2.loose) (d := HandSHeadRun.topDef (OpenLaw.row PySem.Challenge.rw_canalstack_k02_locks_and_who_goes_next).prog 18) (kwd := []) K2.ob_eq
    (by kernel_rfl) (fun s => by kernel_rfl) K2.run (by kernel_rfl) (by kernel_rfl) (by kernel_rfl) (by rfl) (by first | assumption | decide +kernel) (by decide +kernel) ⟨rfl, rfl, rfl, rfl, rfl, by decide +kernel⟩ ?hw ?hc
  case hw => w_witness2
  case hc =>
    refine LamX.walk_ofTsE (l := PySem.Challenge.rw_canalstack_k02_locks_and_who_goes_next) (n := 63) (k := 20) (x := "script") (CX := fun w => L2.CX (PySem.Challenge.rw_canalstack_k02_locks_and_who_goes_next).prog w) rfl (by decide) (by kernel_rfl) ⟨rfl, by decide, by decide⟩ ?F ?X
    case F =>
      intro w mg fa h Y G hmg0
      obtain ⟨K, KX, c⟩ := Y
      have hmg : mg ("law" : PySem.Str) = some (.ref fa) := by
        have e : (HandSHeadRun.topDef (OpenLaw.row PySem.Challenge.rw_canalstack_k02_locks_and_who_goes_next).prog 18).name = ("law" : PySem.Str) := by kernel_rfl
        rw [← e]
        exact hmg0
      exact ⟨K, KX, K2.facts KX G hmg c⟩
    case X =>
      intro w H s e s2 h
      obtain ⟨_, _, _, _, _, _, _, _, _, _, _, _, z⟩ := h
      exact z
